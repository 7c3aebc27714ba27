import PyProof.Rows.All
import Wide.All
import OpenK.AllK
import Wide.FinOn
import HandS.ForMost
import HandS.Walk
import HandS.Flow
import HandS.Style
import HandS.Wide
import HandS.Deep
import HandS.TupAny
import HandS.Conv
import HandS.SortInts
import HandS.Zip
import PyProof.P3Statements
import PyProof.ReprReads
import PyProof.RangeIter
import PyProof.ReprLen
import HandS.TupMul
import HandS.Strs
import HandS.TryOnly
import KE.GoesEnum
import HandS.IsInst
import HandS.WideBits
import HandS.Ends
import HandS.Words
import PySem.Challenge.RW_switchrows_k51_sorters
set_option Elab.async false
section T_SwA
set_option autoImplicit false
set_option linter.all false
/-! SwA: the core language, and what it computes. Values are PyData. -/
namespace Sw
open PySem

abbrev D := PyData
/-- a slot of a frame: forgotten, data, a list of one's own, a dict of one's own -/
inductive V where
  | u
  | d (x : D)
  | c (xs : List D)
  | k (kvs : List (D × D))
abbrev Env := List V
inductive R (α : Type) where
  | ok (a : α)
  | exc (c : String)
  | bad
namespace R
def bind {α β : Type} (r : R α) (f : α → R β) : R β := match r with | ok a => f a | exc c => exc c | bad => bad
def ofO {α : Type} : Option α → R α | some a => ok a | none => bad
@[simp] theorem bind_ok {α β : Type} (a : α) (f : α → R β) : bind (ok a) f = f a := rfl
@[simp] theorem bind_exc {α β : Type} (c : String) (f : α → R β) : bind (exc c) f = exc c := rfl
@[simp] theorem bind_bad {α β : Type} (f : α → R β) : bind bad f = bad := rfl
@[simp] theorem ofO_some {α : Type} (a : α) : ofO (some a) = ok a := rfl
@[simp] theorem ofO_none {α : Type} : ofO (none : Option α) = bad := rfl
end R
/-- how a statement ends -/
inductive SR where
  | nx (e : Env)
  | rt (v : V) (e : Env)
  | bk (e : Env)
  | ct (e : Env)
  | exc (c : String)
  | bad
def SR.seq (r : SR) (f : Env → SR) : SR := match r with | nx e => f e | r => r
@[simp] theorem SR.seq_nx (e : Env) (f : Env → SR) : SR.seq (.nx e) f = f e := rfl
@[simp] theorem SR.seq_rt (v : V) (e : Env) (f : Env → SR) : SR.seq (.rt v e) f = .rt v e := rfl
@[simp] theorem SR.seq_bk (e : Env) (f : Env → SR) : SR.seq (.bk e) f = .bk e := rfl
@[simp] theorem SR.seq_ct (e : Env) (f : Env → SR) : SR.seq (.ct e) f = .ct e := rfl
@[simp] theorem SR.seq_exc (c : String) (f : Env → SR) : SR.seq (.exc c) f = .exc c := rfl
@[simp] theorem SR.seq_bad (f : Env → SR) : SR.seq .bad f = .bad := rfl
def SR.ofR {α : Type} (r : R α) (f : α → SR) : SR := match r with | .ok a => f a | .exc c => .exc c | .bad => .bad
@[simp] theorem SR.ofR_ok {α : Type} (a : α) (f : α → SR) : SR.ofR (.ok a) f = f a := rfl
@[simp] theorem SR.ofR_exc {α : Type} (c : String) (f : α → SR) : SR.ofR (.exc c) f = .exc c := rfl
@[simp] theorem SR.ofR_bad {α : Type} (f : α → SR) : SR.ofR .bad f = .bad := rfl

/-! ### operators -/
inductive O1 where
  | neg | len | tupleOf | listOf | sorted | sum | minOf | maxOf | all | any | repr | strOf | intOf | lenSet | rev | bits
  | isNone (b : Bool)            -- is None (true), is not None (false)
  | isBool (x b : Bool)          -- is x (b = true), is not x
  | isi (t : String)             -- isinstance of a built-in class
  deriving DecidableEq
inductive O2 where
  | add | sub | mul | fdiv | mod | pow | shl | shr | band | bxor
  | eq | ne | lt | le | gt | ge | inn | notin
  | idx | min2 | max2
  deriving DecidableEq

def lim : Nat := 16777216
def b2i (b : Bool) : Int := if b then 1 else 0

def truth : D → Option Bool
  | .none => some false
  | .bool b => some b
  | .int i => some (i != 0)
  | .str s => if s.length ≤ lim then some (s.length != 0) else none
  | .list xs => some (!xs.isEmpty)
  | .tuple xs => some (!xs.isEmpty)
  | .dict _ => none

def intsOf : List D → Option (List Int)
  | [] => some []
  | .int i :: r => (intsOf r).map (i :: ·)
  | _ :: _ => none
def boolsOf : List D → Option (List Bool)
  | [] => some []
  | .bool b :: r => (boolsOf r).map (b :: ·)
  | _ :: _ => none

/-- the order of tuples of intsOf -/
def lexB : List Int → List Int → Bool
  | [], [] => false
  | [], _ :: _ => true
  | _ :: _, [] => false
  | x :: xs, y :: ys => if x = y then lexB xs ys else decide (x < y)
def insI (x : Int) : List Int → List Int
  | [] => [x]
  | y :: r => if y < x then y :: insI x r else x :: y :: r
def sortI : List Int → List Int
  | [] => []
  | x :: r => insI x (sortI r)
/-- pairs of ints -/
def pairD (p : Int × Int) : D := .tuple [.int p.1, .int p.2]
def pairI : D → Option (Int × Int)
  | .tuple [.int i, .int j] => some (i, j)
  | _ => none
def pairsI : List D → Option (List (Int × Int))
  | [] => some []
  | x :: r => (pairI x).bind fun a => (pairsI r).map (a :: ·)
def ltP (p q : Int × Int) : Bool := if p.1 = q.1 then decide (p.2 < q.2) else decide (p.1 < q.1)
def insP (x : Int × Int) : List (Int × Int) → List (Int × Int)
  | [] => [x]
  | y :: r => if ltP y x then y :: insP x r else x :: y :: r
def sortP : List (Int × Int) → List (Int × Int)
  | [] => []
  | x :: r => insP x (sortP r)
def sortD (xs : List D) : Option (List D) :=
  match intsOf xs with
  | some ns => some ((sortI ns).map .int)
  | none => (pairsI xs).map fun l => (sortP l).map pairD

def seqOf : D → Option (List D)
  | .list xs => some xs
  | .tuple xs => some xs
  | _ => none

/-- the place that an index means -/
def ixN (n : Nat) (i : Int) : Option Nat :=
  if 0 ≤ i then if i < (n : Int) then some i.toNat else none
  else if 0 ≤ i + (n : Int) then some (i + n).toNat else none
def atI (xs : List D) (i : Int) : Option D := (ixN xs.length i).bind fun j => xs[j]?

def isiD (t : String) : D → Bool
  | .none => t == "NoneType"
  | .bool _ => t == "bool" || t == "int"
  | .int _ => t == "int"
  | .str _ => t == "str"
  | .list _ => t == "list"
  | .tuple _ => t == "tuple"
  | .dict _ => t == "dict"
def isiOk (t : String) : Bool := t == "bool" || t == "int" || t == "str" || t == "tuple"

def minL : List Int → Option Int
  | [] => none
  | n :: r => some (r.foldl (fun a b => if b < a then b else a) n)
def maxL : List Int → Option Int
  | [] => none
  | n :: r => some (r.foldl (fun a b => if a < b then b else a) n)
def shapedB (d : D) : Bool := d.canLay0 && decide (d.depth ≤ 64)

/-- what repr is known to show -/
def okRepr (x : D) : Bool := x.showable && decide (x.depth ≤ 40) && x.canLay0 && (decide (x.weight ≤ 1048576) && x.intsShort 13 || decide (x.weight ≤ 20000) && x.intsShort 60)
def op1 (o : O1) (x : D) : Option V :=
  match o with
  | .neg => match x with | .int i => some (.d (.int (-i))) | _ => none
  | .len => match x with
    | .list xs => some (.d (.int xs.length)) | .tuple xs => some (.d (.int xs.length))
    | .str s => if s.length ≤ lim then some (.d (.int s.length)) else none
    | _ => none
  | .tupleOf => (seqOf x).map fun xs => .d (.tuple xs)
  | .listOf => (seqOf x).map fun xs => .c xs
  | .sorted => (seqOf x).bind fun xs => (sortD xs).map .c
  | .sum => match x with | .list xs => (intsOf xs).map fun ns => .d (.int ns.sum) | .tuple xs => (intsOf xs).map fun ns => .d (.int ns.sum) | _ => none
  | .minOf => match x with | .list xs => (intsOf xs).bind fun ns => (minL ns).map fun n => .d (.int n) | _ => none
  | .maxOf => match x with | .list xs => (intsOf xs).bind fun ns => (maxL ns).map fun n => .d (.int n) | _ => none
  | .all => match x with | .list xs => (boolsOf xs).map fun bs => .d (.bool (bs.all id)) | _ => none
  | .any => match x with | .list xs => (boolsOf xs).map fun bs => .d (.bool (bs.any id)) | _ => none
  | .repr => if okRepr x then some (.d (.str x.shown)) else none
  | .strOf => match x with | .int i => if i.natAbs.log2 < 1920 then some (.d (.str (toString i))) else none | _ => none
  | .intOf => match x with | .int i => some (.d (.int i)) | .bool b => some (.d (.int (b2i b))) | _ => none
  | .lenSet => match x with | .list xs => (intsOf xs).bind fun ns => if ns.length ≤ 4000 ∧ ns.Nodup then some (.d (.int ns.length)) else none | _ => none
  | .rev => match x with | .tuple xs => some (.d (.tuple xs.reverse)) | .list xs => some (.c xs.reverse) | _ => none
  | .bits => match x with | .int i => some (.d (.int ((Builtin.Int.intBits i : Nat) : Int))) | _ => none
  | .isNone b => match x with | .none => some (.d (.bool b)) | _ => some (.d (.bool (!b)))
  | .isBool y b => match x with | .bool z => some (.d (.bool ((z == y) == b))) | _ => none
  | .isi t => if isiOk t then some (.d (.bool (isiD t x))) else none

def intMul (i j : Int) : Option V :=
  if i.natAbs < 2 ^ 64 ∨ j.natAbs < 2 ^ 64 ∨ i.natAbs.log2 + j.natAbs.log2 < 1000000 then some (.d (.int (i * j))) else none
def addD (x y : D) : Option V :=
  match x, y with
  | .int i, .int j => some (.d (.int (i + j)))
  | .int i, .bool b => some (.d (.int (i + b2i b)))
  | .str a, .str b => if a.length + b.length ≤ lim then some (.d (.str (a ++ b))) else none
  | .tuple a, .tuple b => if a.length + b.length ≤ lim then some (.d (.tuple (a ++ b))) else none
  | .list a, .list b => if a.length + b.length ≤ lim then some (.c (a ++ b)) else none
  | _, _ => none
def mulD (x y : D) : Option V :=
  match x, y with
  | .int i, .int j => intMul i j
  | .tuple xs, .int j => if 0 ≤ j ∧ j ≤ 1000 ∧ xs.length ≤ 1000 then some (.d (.tuple (List.replicate j.toNat xs).flatten)) else none
  | _, _ => none
def int2 (x y : D) (C : Int → Int → Bool) (f : Int → Int → D) : Option V :=
  match x, y with
  | .int i, .int j => if C i j then some (.d (f i j)) else none
  | _, _ => none
def cmpD (x y : D) (f : Int → Int → Bool) (g : List Int → List Int → Option Bool) : Option V :=
  match x, y with
  | .int i, .int j => some (.d (.bool (f i j)))
  | .tuple a, .tuple b => (intsOf a).bind fun na => (intsOf b).bind fun nb => (g na nb).map fun r => .d (.bool r)
  | _, _ => none
def eqD (x y : D) : Option Bool :=
  match x, y with
  | .int i, .int j => some (i == j)
  | .bool i, .bool j => some (i == j)
  | .str i, .str j => some (i == j)
  | x, y => if shapedB x && shapedB y then some (x.eqv y) else none
def inD (x y : D) : Option Bool :=
  match y with
  | .list ys => if shapedB x && shapedB y then some (ys.any fun z => z.eqv x) else none
  | .tuple ys => if shapedB x && shapedB y then some (ys.any fun z => z.eqv x) else none
  | _ => none
/-- the first place of x -/
def find (x : D) : List D → Nat → Option Nat
  | [], _ => none
  | y :: r, j => if y.eqv x then some j else find x r (j + 1)

def op2 (o : O2) (x y : D) : Option V :=
  match o with
  | .add => addD x y
  | .sub => int2 x y (fun _ _ => true) fun i j => .int (i - j)
  | .mul => mulD x y
  | .fdiv => int2 x y (fun _ j => decide (0 < j ∧ (j < 18446744073709551616 ∨ j.natAbs.log2 < 9000))) fun i j => .int (i / j)
  | .mod => int2 x y (fun _ j => decide (0 < j)) fun i j => .int (i % j)
  | .pow => int2 x y (fun i j => decide (0 ≤ j ∧ j ≤ 1000000 ∧ i.natAbs < 2 ^ 64)) fun i j => .int (i ^ j.toNat)
  | .shl => int2 x y (fun i j => decide (0 ≤ j ∧ j ≤ 1000000 ∧ i.natAbs < 2 ^ 64)) fun i j => .int (i * 2 ^ j.toNat)
  | .shr => int2 x y (fun _ j => decide (0 ≤ j)) fun i j => .int (i / 2 ^ j.toNat)
  | .band => int2 x y (fun _ _ => true) fun i j => .int (Builtin.bitAnd i j)
  | .bxor => int2 x y (fun _ _ => true) fun i j => .int (Builtin.bitXor i j)
  | .eq => (eqD x y).map fun b => .d (.bool b)
  | .ne => (eqD x y).map fun b => .d (.bool (!b))
  | .lt => cmpD x y (fun i j => decide (i < j)) fun a b => some (lexB a b)
  | .le => cmpD x y (fun i j => decide (i ≤ j)) fun _ _ => none
  | .gt => cmpD x y (fun i j => decide (j < i)) fun _ _ => none
  | .ge => cmpD x y (fun i j => decide (j ≤ i)) fun _ _ => none
  | .inn => (inD x y).map fun b => .d (.bool b)
  | .notin => (inD x y).map fun b => .d (.bool (!b))
  | .idx => match y with | .int i => (seqOf x).bind fun xs => (atI xs i).map .d | _ => none
  | .min2 => int2 x y (fun _ _ => true) fun i j => .int (if j < i then j else i)
  | .max2 => int2 x y (fun _ _ => true) fun i j => .int (if j > i then j else i)

/-- the part of a slice -/
def cutIx (n d : Nat) : Option Int → Nat
  | none => d
  | some v => if v < 0 then (v + n).toNat else min v.toNat n
def cut {α : Type} (xs : List α) (lo hi : Option Int) : List α := (xs.drop (cutIx xs.length 0 lo)).take (cutIx xs.length xs.length hi - cutIx xs.length 0 lo)
def isL : D → Bool
  | .list _ => true
  | _ => false
def indexD (x y : D) : Option V := (seqOf x).bind fun xs => if shapedB x && shapedB y then (find y xs 0).map fun (j : Nat) => .d (.int (j : Int)) else none
def sliceD (x : D) (lo hi : Option Int) : Option V :=
  match x with
  | .list xs => some (.c (cut xs lo hi))
  | .tuple xs => some (.d (.tuple (cut xs lo hi)))
  | _ => none

/-! ### the language -/
inductive T where
  | n (i : Nat)
  | p (ts : List T)
mutual
inductive E where
  | var (i : Nat)
  | mv (i : Nat)
  | non | bl (b : Bool) | int (i : Int) | str (s : String)
  | tup (es : Es) | lst (es : Es)
  | rep (tp : Bool) (es : Es) (a : E)     -- [..] * n, (..) * n
  | o1 (o : O1) (a : E)
  | o2 (o : O2) (a b : E)
  | slice (a : E) (lo hi : Eo)
  | index (a b : E)
  | chain (o o' : O2) (a b c : E)
  | not (a : Te) | and (a b : E) | or (a b : E)
  | ite (t : Te) (a b : E)
  | call (f : String) (as : Es)
  | comp (own : List Nat) (t : T) (s : Src) (cond : Co) (elt : E)
  | ofSrc (tup : Bool) (s : Src)          -- list(range(..)), tuple(range(..)), ..
  | pop (i : Nat) (a : E) | popl (i : Nat)
  | app (i : Nat) (a : E) | ext (i : Nat) (a : E)
inductive Es where
  | nil
  | cons (e : E) (es : Es)
inductive Eo where
  | no
  | yes (e : E)
/-- a test -/
inductive Te where
  | e (a : E)
  | not (a : Te) | and (a b : Te) | or (a b : Te)
  | ite (t a b : Te)
inductive Co where
  | no
  | yes (t : Te)
inductive Src where
  | seq (a : E)
  | rng1 (a : E) | rng2 (a b : E) | rng3 (a b c : E)
  | zip2 (a b : E)
  | enum (a : E)
end
mutual
inductive S where
  | asg (i : Nat) (e : E)
  | asgT (t : T) (e : E)
  | aug (i : Nat) (o : O2) (e : E)
  | st (i : Nat) (ix e : E)                       -- x[ix] = e
  | st2 (i : Nat) (ix : E) (j : Nat) (jx : E) (a b : E)   -- x[ix], y[jx] = a, b
  | ex (e : E)
  | ret (e : E) | retN
  | iff (t : Te) (a b : Ss)
  | forr (t : T) (s : Src) (b : Ss) (kill : List Nat)
  | whil (t : Te) (b : Ss) (kill : List Nat)
  | pass | brk | cnt
  | raise (c : String)
inductive Ss where
  | nil
  | cons (s : S) (r : Ss)
end
def Es.of : List E → Es
  | [] => .nil
  | e :: r => .cons e (Es.of r)
def Ss.of : List S → Ss
  | [] => .nil
  | e :: r => .cons e (Ss.of r)

/-! ### frames -/
def get (e : Env) (i : Nat) : V := e.getD i .u
def killAll : List Nat → Env → Env
  | [], e => e
  | i :: r, e => (killAll r e).set i .u
def restore (old : Env) : List Nat → Env → Env
  | [], e => e
  | i :: r, e => (restore old r e).set i (get old i)
def viewV : V → Option D
  | .d x => some x
  | .c xs => some (.list xs)
  | _ => none
/-- an operand: a name (read when it is used), a value -/
inductive Opd where
  | x (i : Nat)
  | v (w : V)
def view (o : Opd) (e : Env) : Option D := match o with | .x i => viewV (get e i) | .v w => viewV w
def val (o : Opd) (e : Env) : V := match o with | .x i => get e i | .v w => w
/-- frozen -/
def settle : V → Option D
  | .d x => some x
  | .c xs => some (.list xs)
  | _ => none

mutual
def asgT : T → D → Env → Option Env
  | .n i, x, e => some (e.set i (.d x))
  | .p ts, x, e => match x with
    | .tuple xs => if xs.length = ts.length then asgTs ts xs e else none
    | .list xs => if xs.length = ts.length then asgTs ts xs e else none
    | _ => none
def asgTs : List T → List D → Env → Option Env
  | [], _, e => some e
  | t :: ts, x :: xs, e => (asgT t x e).bind fun e1 => asgTs ts xs e1
  | _ :: _, [], _ => none
end

def compL (f : D → Env → R (Option D × Env)) (own : List Nat) : List D → Env → R (List D × Env)
  | [], e => .ok ([], e)
  | x :: xs, e => (f x e).bind fun p => (compL f own xs (killAll own p.2)).bind fun q => .ok (p.1.toList ++ q.1, q.2)
def forL (f : D → Env → SR) (kill : List Nat) : List D → Env → SR
  | [], e => .nx e
  | x :: xs, e => match f x e with
    | .nx e1 => forL f kill xs (killAll kill e1)
    | .ct e1 => forL f kill xs (killAll kill e1)
    | .bk e1 => .nx (killAll kill e1)
    | .rt v e1 => .rt v e1
    | .exc c => .exc c
    | .bad => .bad
def whileL (t : Env → R (Bool × Env)) (f : Env → SR) (kill : List Nat) : Nat → Env → SR
  | 0, _ => .bad
  | n + 1, e => SR.ofR (t e) fun p => if p.1 then (match f p.2 with
    | .nx e1 => whileL t f kill n (killAll kill e1)
    | .ct e1 => whileL t f kill n (killAll kill e1)
    | .bk e1 => .nx (killAll kill e1)
    | .rt v e1 => .rt v e1
    | .exc c => .exc c
    | .bad => .bad) else .nx p.2

def rangeD (a : Int) (n : Nat) (c : Int) : List D := (List.range n).map fun (i : Nat) => .int (a + (i : Int) * c)
def rgOk (a b : Int) : Bool := decide (-(2 ^ 62) ≤ a ∧ a < 2 ^ 62 ∧ -(2 ^ 62) ≤ b ∧ b < 2 ^ 62)
def range2 (a b : D) : Option (List D) :=
  match a, b with
  | .int i, .int j => if rgOk i j && decide ((j - i).toNat ≤ lim) then some (rangeD i (j - i).toNat 1) else none
  | _, _ => none
def range3 (a b c : D) : Option (List D) :=
  match a, b, c with
  | .int i, .int j, .int k => if decide (k ≠ 0 ∧ k.natAbs < 1073741824) && Builtin.Range.small i j k && decide (0 ≤ Builtin.Range.rangeSize i j k ∧ (Builtin.Range.rangeSize i j k).toNat ≤ lim) then some (rangeD i (Builtin.Range.rangeSize i j k).toNat k) else none
  | _, _, _ => none
def zipD (a b : D) : Option (List D) := (seqOf a).bind fun xs => (seqOf b).map fun ys => List.zipWith (fun x y => .tuple [x, y]) xs ys
def enumFrom (n : Nat) : List D → List D
  | [] => []
  | x :: r => .tuple [.int n, x] :: enumFrom (n + 1) r
def enumD (a : D) : Option (List D) := (seqOf a).map (enumFrom 0)

/-! ### calls -/
/-- the names of the module's own constants, as the table of defs has them -/
def isCon (f : String) : Option String := if f = "const ONE_SWITCH" then some "ONE_SWITCH" else none

abbrev Orc := String → List V → R (V × List V)
/-- no list of one's own is handed in twice -/
def isOwn : V → Bool | .c _ => true | .k _ => true | _ => false
def isC : V → Bool | .c _ => true | _ => false
def isU : V → Bool | .u => true | _ => false
def apart (e : Env) : List Opd → Bool
  | [] => true
  | .x i :: r => (!isOwn (get e i) || !r.any fun o => match o with | .x j => i == j | _ => false) && apart e r
  | .v _ :: r => apart e r
def putBack (e0 : Env) : List Opd → List V → Env → Env
  | .x i :: r, o :: os, e => putBack e0 r os (if isOwn (get e0 i) then e.set i o else e)
  | .v _ :: r, _ :: os, e => putBack e0 r os e
  | _, _, e => e
def callE (φ : Orc) (f : String) (os : List Opd) (e : Env) : R (V × Env) :=
  if apart e os && !(os.any fun o => isU (val o e)) then (φ f (os.map (val · e))).bind fun p => if p.2.length = os.length then .ok (p.1, putBack e os p.2 e) else .bad else .bad

def popAt (xs : List D) (i : Int) : Option (D × List D) :=
  if -(2 ^ 63) ≤ i ∧ i < 2 ^ 63 then (ixN xs.length i).bind fun j => (xs[j]?).map fun x => (x, xs.eraseIdx j) else none
def ret1 (o : Option V) (e : Env) : R (V × Env) := match o with | some v => .ok (v, e) | none => .bad

/-- an operand: a name is looked up when it is used -/
def opW (r : Env → R (V × Env)) (a : E) (e : Env) : R (Opd × Env) :=
  match a with
  | .var i => if isU (get e i) then .bad else .ok (.x i, e)
  | _ => (r e).bind fun p => .ok (.v p.1, p.2)
/-- a datum that stays -/
def daW (r : Env → R (V × Env)) (e : Env) : R (D × Env) := (r e).bind fun p => (R.ofO (settle p.1)).bind fun x => .ok (x, p.2)
def repOk (n : Nat) (j : Int) : Bool := decide (n ≤ lim ∧ -(2 ^ 63) ≤ j ∧ j < 2 ^ 63 ∧ n * j.toNat ≤ lim)
def repR (tp : Bool) (xs : List D) (y : D) (e : Env) : R (V × Env) := match y with
  | .int j => if repOk xs.length j then (if tp then .bad else .ok (.c (List.replicate j.toNat xs).flatten, e)) else .bad
  | _ => .bad
mutual
def evalE (φ : Orc) : E → Env → R (V × Env)
  | .var i, e => match get e i with
    | .d x => .ok (.d x, e)
    | .c xs => .ok (.d (.list xs), e.set i (.d (.list xs)))
    | _ => .bad
  | .mv i, e => match get e i with
    | .d x => .ok (.d x, e)
    | .c xs => .ok (.c xs, e.set i .u)
    | _ => .bad
  | .non, e => .ok (.d .none, e)
  | .bl b, e => .ok (.d (.bool b), e)
  | .int i, e => .ok (.d (.int i), e)
  | .str s, e => .ok (.d (.str (Str.ofString s)), e)
  | .tup es, e => (evalDs φ es e).bind fun p => if p.1.length ≤ lim then .ok (.d (.tuple p.1), p.2) else .bad
  | .lst es, e => (evalDs φ es e).bind fun p => if p.1.length ≤ lim then .ok (.c p.1, p.2) else .bad
  | .rep tp es a, e => (evalDs φ es e).bind fun p => (opW (evalE φ a) a p.2).bind fun q => (R.ofO (view q.1 q.2)).bind fun y => repR tp p.1 y q.2
  | .o1 o a, e => (opW (evalE φ a) a e).bind fun p => (R.ofO (view p.1 p.2)).bind fun x => ret1 (op1 o x) p.2
  | .o2 o a b, e => (opW (evalE φ a) a e).bind fun p => (opW (evalE φ b) b p.2).bind fun q => (R.ofO (view p.1 q.2)).bind fun x => (R.ofO (view q.1 q.2)).bind fun y => ret1 (op2 o x y) q.2
  | .slice a lo hi, e => (opW (evalE φ a) a e).bind fun p => (evalPart φ lo p.2).bind fun q => (evalPart φ hi q.2).bind fun r =>
      (R.ofO (view p.1 r.2)).bind fun x => ret1 (sliceD x q.1 r.1) r.2
  | .index a b, e => (opW (evalE φ a) a e).bind fun p => (R.ofO (view p.1 p.2)).bind fun x0 => (R.ofO (seqOf x0)).bind fun _ => (opW (evalE φ b) b p.2).bind fun q =>
      (R.ofO (view p.1 q.2)).bind fun x => (R.ofO (view q.1 q.2)).bind fun y => if isL x0 = isL x then ret1 (indexD x y) q.2 else .bad
  | .chain o o' a b c, e => (opW (evalE φ a) a e).bind fun p => (opW (evalE φ b) b p.2).bind fun q => (R.ofO (view p.1 q.2)).bind fun x => (R.ofO (view q.1 q.2)).bind fun y =>
      match op2 o x y with
      | some (.d (.bool true)) => (opW (evalE φ c) c q.2).bind fun r => (R.ofO (view q.1 r.2)).bind fun y1 => (R.ofO (view r.1 r.2)).bind fun z => ret1 (op2 o' y1 z) r.2
      | some (.d (.bool false)) => .ok (.d (.bool false), q.2)
      | _ => .bad
  | .not a, e => (evalT φ a e).bind fun p => .ok (.d (.bool (!p.1)), p.2)
  | .and a b, e => (daW (evalE φ a) e).bind fun p => match truth p.1 with | some true => evalE φ b p.2 | some false => .ok (.d p.1, p.2) | none => .bad
  | .or a b, e => (daW (evalE φ a) e).bind fun p => match truth p.1 with | some true => .ok (.d p.1, p.2) | some false => evalE φ b p.2 | none => .bad
  | .ite t a b, e => (evalT φ t e).bind fun p => if p.1 then evalE φ a p.2 else evalE φ b p.2
  | .call f as, e => (evalOs φ as e).bind fun p => callE φ f p.1 p.2
  | .comp own t s cond elt, e => (evalSrc φ s e).bind fun p => if lim < p.1.length then .bad else
      (compL (fun x e1 => (R.ofO (asgT t x e1)).bind fun e2 => (evalC φ cond e2).bind fun q => if q.1 then (daW (evalE φ elt) q.2).bind fun r => .ok (some r.1, r.2) else .ok (none, q.2))
        own p.1 (killAll own p.2)).bind fun q => .ok (.c q.1, restore p.2 own q.2)
  | .ofSrc tup s, e => (evalSrc φ s e).bind fun p => if tup then .ok (.d (.tuple p.1), p.2) else .ok (.c p.1, p.2)
  | .pop i a, e => if isC (get e i) then (opW (evalE φ a) a e).bind fun p => (R.ofO (view p.1 p.2)).bind fun x => (match get p.2 i, x with
    | .c xs, .int j => (match popAt xs j with | some r => .ok (.d r.1, p.2.set i (.c r.2)) | none => .bad)
    | _, _ => .bad) else .bad
  | .popl i, e => match get e i with
    | .c xs => (match xs[xs.length - 1]? with | some x => .ok (.d x, e.set i (.c xs.dropLast)) | none => .bad)
    | _ => .bad
  | .app i a, e => if isC (get e i) then (daW (evalE φ a) e).bind fun p => (match get p.2 i with
    | .c xs => if xs.length < lim then .ok (.d .none, p.2.set i (.c (xs ++ [p.1]))) else .bad
    | _ => .bad) else .bad
  | .ext i a, e => if isC (get e i) then (opW (evalE φ a) a e).bind fun p => (R.ofO (view p.1 p.2)).bind fun x => (match get p.2 i, x with
    | .c xs, .list ys => if xs.length + ys.length ≤ lim then .ok (.d .none, p.2.set i (.c (xs ++ ys))) else .bad
    | .c xs, .tuple ys => if xs.length + ys.length ≤ lim then .ok (.d .none, p.2.set i (.c (xs ++ ys))) else .bad
    | _, _ => .bad) else .bad
def evalT (φ : Orc) : Te → Env → R (Bool × Env)
  | .not a, e => (evalT φ a e).bind fun p => .ok (!p.1, p.2)
  | .and a b, e => (evalT φ a e).bind fun p => if p.1 then evalT φ b p.2 else .ok (false, p.2)
  | .or a b, e => (evalT φ a e).bind fun p => if p.1 then .ok (true, p.2) else evalT φ b p.2
  | .ite t a b, e => (evalT φ t e).bind fun p => if p.1 then evalT φ a p.2 else evalT φ b p.2
  | .e a, e => (opW (evalE φ a) a e).bind fun p => (R.ofO (view p.1 p.2)).bind fun x => (R.ofO (truth x)).bind fun b => .ok (b, p.2)
def evalC (φ : Orc) : Co → Env → R (Bool × Env)
  | .no, e => .ok (true, e)
  | .yes a, e => evalT φ a e
def evalPart (φ : Orc) : Eo → Env → R (Option Int × Env)
  | .no, e => .ok (none, e)
  | .yes a, e => (daW (evalE φ a) e).bind fun p => match p.1 with | .int i => .ok (some i, p.2) | _ => .bad
def evalDs (φ : Orc) : Es → Env → R (List D × Env)
  | .nil, e => .ok ([], e)
  | .cons a r, e => (daW (evalE φ a) e).bind fun p => (evalDs φ r p.2).bind fun q => .ok (p.1 :: q.1, q.2)
def evalOs (φ : Orc) : Es → Env → R (List Opd × Env)
  | .nil, e => .ok ([], e)
  | .cons a r, e => (opW (evalE φ a) a e).bind fun p => (evalOs φ r p.2).bind fun q => .ok (p.1 :: q.1, q.2)
def evalSrc (φ : Orc) : Src → Env → R (List D × Env)
  | .seq a, e => (daW (evalE φ a) e).bind fun p => (R.ofO (seqOf p.1)).bind fun xs => .ok (xs, p.2)
  | .rng1 a, e => (daW (evalE φ a) e).bind fun p => (R.ofO (range2 (.int 0) p.1)).bind fun xs => .ok (xs, p.2)
  | .rng2 a b, e => (daW (evalE φ a) e).bind fun p => (daW (evalE φ b) p.2).bind fun q => (R.ofO (range2 p.1 q.1)).bind fun xs => .ok (xs, q.2)
  | .rng3 a b c, e => (daW (evalE φ a) e).bind fun p => (daW (evalE φ b) p.2).bind fun q => (daW (evalE φ c) q.2).bind fun r => (R.ofO (range3 p.1 q.1 r.1)).bind fun xs => .ok (xs, r.2)
  | .zip2 a b, e => (daW (evalE φ a) e).bind fun p => (daW (evalE φ b) p.2).bind fun q => (R.ofO (zipD p.1 q.1)).bind fun xs => .ok (xs, q.2)
  | .enum a, e => (daW (evalE φ a) e).bind fun p => (R.ofO (enumD p.1)).bind fun xs => .ok (xs, p.2)
end

/-! ### the loop of a comprehension -/
def stepC (φ : Orc) (t : T) (cond : Co) (a : E) : D → Env → R (Option D × Env) := fun x e1 => (R.ofO (asgT t x e1)).bind fun e2 => (evalC φ cond e2).bind fun q => if q.1 then (daW (evalE φ a) q.2).bind fun r => .ok (some r.1, r.2) else .ok (none, q.2)
theorem evalE_comp {φ : Orc} {own : List Nat} {t : T} {s : Src} {cond : Co} {a : E} {e : Env} : evalE φ (.comp own t s cond a) e = (evalSrc φ s e).bind fun p => if lim < p.1.length then .bad else (compL (stepC φ t cond a) own p.1 (killAll own p.2)).bind fun q => .ok (.c q.1, restore p.2 own q.2) := by
  simp only [evalE]
  rfl

def fuel : Nat := 1000000000
def setC (e : Env) (i : Nat) (x v : D) : Option Env :=
  match get e i, x with
  | .c xs, .int k => (ixN xs.length k).map fun j => e.set i (.c (xs.set j v))
  | _, _ => none
mutual
def exec (φ : Orc) : S → Env → SR
  | .asg i a, e => SR.ofR (evalE φ a e) fun p => .nx (p.2.set i p.1)
  | .asgT t a, e => SR.ofR (daW (evalE φ a) e) fun p => match asgT t p.1 p.2 with | some e1 => .nx e1 | none => .bad
  | .aug i o a, e => match get e i with
    | .d (.int x) => SR.ofR (daW (evalE φ a) e) fun p => (match p.1 with | .int y => if o = .add then .nx (p.2.set i (.d (.int (x + y)))) else .bad | _ => .bad)
    | _ => .bad
  | .st i ix a, e => SR.ofR (daW (evalE φ a) e) fun p => if isC (get p.2 i) then SR.ofR (daW (evalE φ ix) p.2) fun q => (match setC q.2 i q.1 p.1 with | some e1 => .nx e1 | none => .bad) else .bad
  | .st2 i ix j jx a b, e => SR.ofR (daW (evalE φ a) e) fun p => SR.ofR (daW (evalE φ b) p.2) fun q => if isC (get q.2 i) then SR.ofR (daW (evalE φ ix) q.2) fun r => (match setC r.2 i r.1 p.1 with
    | some e1 => if isC (get e1 j) then SR.ofR (daW (evalE φ jx) e1) fun s => (match setC s.2 j s.1 q.1 with | some e2 => .nx e2 | none => .bad) else .bad
    | none => .bad) else .bad
  | .ex a, e => SR.ofR (evalE φ a e) fun p => .nx p.2
  | .ret a, e => SR.ofR (evalE φ a e) fun p => .rt p.1 p.2
  | .retN, e => .rt (.d .none) e
  | .iff t a b, e => SR.ofR (evalT φ t e) fun p => if p.1 then execs φ a p.2 else execs φ b p.2
  | .forr t s b kill, e => SR.ofR (evalSrc φ s e) fun p => forL (fun x e1 => match asgT t x e1 with | some e2 => execs φ b e2 | none => .bad) kill p.1 p.2
  | .whil t b kill, e => whileL (evalT φ t) (execs φ b) kill fuel e
  | .pass, e => .nx e
  | .brk, e => .bk e
  | .cnt, e => .ct e
  | .raise c, _ => .exc c
def execs (φ : Orc) : Ss → Env → SR
  | .nil, e => .nx e
  | .cons s r, e => (exec φ s e).seq (execs φ r)
end

/-! ### defs -/
structure FDef where
  np : Nat
  nv : Nat
  /-- the parameters that the body stores anew -/
  wp : List Nat
  body : Ss
abbrev Tab := String → Option FDef
def endF (fd : FDef) : SR → R (V × List V)
  | .rt v e => .ok (v, killAll fd.wp (e.take fd.np))
  | .nx e => .ok (.d .none, killAll fd.wp (e.take fd.np))
  | .exc c => .exc c
  | _ => .bad
def callF (T : Tab) : Nat → Orc
  | 0, _, _ => .bad
  | n + 1, f, as => match T f with
    | some fd => if as.length = fd.np then endF fd (execs (callF T n) fd.body (as ++ List.replicate (fd.nv - fd.np) .u)) else .bad
    | none => .bad
end Sw
end T_SwA
section T_SwB
set_option autoImplicit false
set_option linter.all false
set_option Elab.async false
set_option maxRecDepth 100000
/-! SwB: what a frame of the core says of the model's state. -/
namespace Sw
open PySem L2

abbrev Frag := PySem.W.Frag
/-- a tuple whose object is known, and has no dict -/
def TupX (K : Frag) (H : Hp) (a : Addr) (xs : List L2.V) : Prop :=
  (∃ o, H a = some (.frz o (.tup xs)) ∧ o.dict = none) ∨
    ∃ (o : Obj) (its : Array Value) (n : Nat), K.lookup a = some o ∧ o.cls = .type "tuple" ∧ o.dict = none ∧ o.data = .seq its n ∧ its.size ≤ sizeLine ∧ Vals xs its.toList
theorem TupX.sq {K : Frag} {H : Hp} {a : Addr} {xs : List L2.V} (h : TupX K H a xs) : SqT K H a xs := by
  rcases h with ⟨o, h, _⟩ | ⟨o, its, n, h1, h2, _, h3, h4, h5⟩
  · exact .inl (.inr ⟨o, h⟩)
  · exact .inr ⟨o, its, n, h1, h2, h3, h4, h5⟩
mutual
/-- a value stands for a datum -/
inductive Rp (K : Frag) (H : Hp) : L2.V → D → Prop
  | non : Rp K H .non .none
  | bl (b : Bool) : Rp K H (.bl b) (.bool b)
  | int (i : Int) : Rp K H (.int i) (.int i)
  | str (x : Str) : Rp K H (.str x) (.str x)
  | lst {a : Addr} {vs : List L2.V} {ds : List D} : SqL K H a vs → RpAll K H vs ds → Rp K H (.ref a) (.list ds)
  | tup {a : Addr} {vs : List L2.V} {ds : List D} : TupX K H a vs → RpAll K H vs ds → Rp K H (.ref a) (.tuple ds)
inductive RpAll (K : Frag) (H : Hp) : List L2.V → List D → Prop
  | nil : RpAll K H [] []
  | cons {v : L2.V} {vs : List L2.V} {d : D} {ds : List D} : Rp K H v d → RpAll K H vs ds → RpAll K H (v :: vs) (d :: ds)
end
section
variable {K : Frag} {H : Hp}
mutual
theorem Rp.dp : ∀ (d : D) (v : L2.V), Rp K H v d → L2.Dp K H v d
  | .none, _, r => by cases r; exact .non
  | .bool b, _, r => by cases r; exact .bl b
  | .int i, _, r => by cases r; exact .int i
  | .str x, _, r => by cases r; exact .str x
  | .list ds, _, r => by cases r with | lst h1 h2 => exact .lst h1 (Rp.dps ds _ h2)
  | .tuple ds, _, r => by cases r with | tup h1 h2 => exact .tup h1.sq (Rp.dps ds _ h2)
  | .dict _, _, r => by cases r
theorem Rp.dps : ∀ (ds : List D) (vs : List L2.V), RpAll K H vs ds → L2.DpAll K H vs ds
  | [], _, r => by cases r; exact .nil
  | d :: ds, _, r => by cases r with | cons h1 h2 => exact .cons (Rp.dp d _ h1) (Rp.dps ds _ h2)
end
end

theorem lim_eq : sizeLine = lim := rfl

/-! ### more of the heap -/
def Sub (F H : Hp) : Prop := ∀ a o, F a = some o → H a = some o
theorem Sub.refl (F : Hp) : Sub F F := fun _ _ h => h
theorem Sub.trans {F G H : Hp} (h1 : Sub F G) (h2 : Sub G H) : Sub F H := fun a o h => h2 a o (h1 a o h)
theorem Sub.rd {F H : Hp} (h : Sub F H) {a : Addr} {u : HO} (r : Rd F a u) : Rd H a u := by
  rcases r with r | ⟨o, r⟩
  · exact .inl (h _ _ r)
  · exact .inr ⟨o, h _ _ r⟩
theorem Sub.sqL {K : Frag} {F H : Hp} (h : Sub F H) {a : Addr} {xs : List L2.V} (r : SqL K F a xs) : SqL K H a xs := by
  rcases r with r | r
  · exact .inl (h.rd r)
  · exact .inr r
theorem Sub.sqT {K : Frag} {F H : Hp} (h : Sub F H) {a : Addr} {xs : List L2.V} (r : SqT K F a xs) : SqT K H a xs := by
  rcases r with r | r
  · exact .inl (h.rd r)
  · exact .inr r
theorem Sub.tupX {K : Frag} {F H : Hp} (h : Sub F H) {a : Addr} {xs : List L2.V} (r : TupX K F a xs) : TupX K H a xs := by
  rcases r with ⟨o, r, d⟩ | r
  · exact .inl ⟨o, h _ _ r, d⟩
  · exact .inr r
section
variable {K : Frag} {F H : Hp}
mutual
theorem Sub.rp (h : Sub F H) : ∀ (d : D) (v : L2.V), Rp K F v d → Rp K H v d
  | .none, _, r => by cases r; exact .non
  | .bool b, _, r => by cases r; exact .bl b
  | .int i, _, r => by cases r; exact .int i
  | .str x, _, r => by cases r; exact .str x
  | .list ds, _, r => by
    cases r with
    | lst h1 h2 => exact .lst (h.sqL h1) (Sub.rpAll h ds _ h2)
  | .tuple ds, _, r => by
    cases r with
    | tup h1 h2 => exact .tup (h.tupX h1) (Sub.rpAll h ds _ h2)
  | .dict _, _, r => by cases r
theorem Sub.rpAll (h : Sub F H) : ∀ (ds : List D) (vs : List L2.V), RpAll K F vs ds → RpAll K H vs ds
  | [], _, r => by cases r; exact .nil
  | d :: ds, _, r => by
    cases r with
    | cons h1 h2 => exact .cons (Sub.rp h d _ h1) (Sub.rpAll h ds _ h2)
end
end
section
variable {K : Frag} {F : Hp}
theorem rpAll_len {vs : List L2.V} {ds : List D} (h : RpAll K F vs ds) : vs.length = ds.length := by
  induction ds generalizing vs with
  | nil => cases h; rfl
  | cons d ds ih => cases h with | cons h1 h2 => simp [ih h2]
theorem rpAll_get {vs : List L2.V} {ds : List D} (h : RpAll K F vs ds) : ∀ {i : Nat} {d : D}, ds[i]? = some d → ∃ v, vs[i]? = some v ∧ Rp K F v d := by
  induction ds generalizing vs with
  | nil => intro i d e; simp at e
  | cons d ds ih =>
    cases h with
    | cons h1 h2 =>
      intro i d e
      cases i with
      | zero => simp at e; subst e; exact ⟨_, rfl, h1⟩
      | succ i => simpa using ih h2 (by simpa using e)
theorem rpAll_get' {vs : List L2.V} {ds : List D} (h : RpAll K F vs ds) {i : Nat} {v : L2.V} (e : vs[i]? = some v) : ∃ d, ds[i]? = some d ∧ Rp K F v d := by
  have hl := rpAll_len h
  have hi : i < ds.length := by rw [← hl]; exact (List.getElem?_eq_some_iff.mp e).1
  obtain ⟨v', e', r⟩ := rpAll_get h (List.getElem?_eq_getElem hi)
  rw [e] at e'; cases e'
  exact ⟨_, List.getElem?_eq_getElem hi, r⟩
theorem rpAll_app {vs ws : List L2.V} {ds es : List D} (h : RpAll K F vs ds) (g : RpAll K F ws es) : RpAll K F (vs ++ ws) (ds ++ es) := by
  induction ds generalizing vs with
  | nil => cases h; exact g
  | cons d ds ih => cases h with | cons h1 h2 => exact .cons h1 (ih h2)
theorem rpAll_of {vs : List L2.V} {ds : List D} (hl : vs.length = ds.length) (h : ∀ (i : Nat) (v : L2.V) (d : D), vs[i]? = some v → ds[i]? = some d → Rp K F v d) : RpAll K F vs ds := by
  induction ds generalizing vs with
  | nil => cases vs with | nil => exact .nil | cons _ _ => simp at hl
  | cons d ds ih =>
    cases vs with
    | nil => simp at hl
    | cons v vs => exact .cons (h 0 v d rfl rfl) (ih (by simpa using hl) fun i w e h1 h2 => h (i + 1) w e (by simpa using h1) (by simpa using h2))
theorem rpAll_ints {ns : List Int} : RpAll K F (ns.map L2.V.int) (ns.map PyData.int) := by
  induction ns with
  | nil => exact .nil
  | cons n ns ih => exact .cons (.int n) ih
theorem ints_eq : ∀ {ds : List D} {ns : List Int}, intsOf ds = some ns → ds = ns.map .int
  | [], _, h => by simp [intsOf] at h; subst h; rfl
  | .int i :: r, _, h => by
    simp only [intsOf, Option.map_eq_some_iff] at h
    obtain ⟨a, h1, rfl⟩ := h
    rw [ints_eq h1]; rfl
  | .none :: _, _, h => by simp [intsOf] at h
  | .bool _ :: _, _, h => by simp [intsOf] at h
  | .str _ :: _, _, h => by simp [intsOf] at h
  | .list _ :: _, _, h => by simp [intsOf] at h
  | .tuple _ :: _, _, h => by simp [intsOf] at h
  | .dict _ :: _, _, h => by simp [intsOf] at h
theorem ints_map (ns : List Int) : intsOf (ns.map .int) = some ns := by
  induction ns with
  | nil => rfl
  | cons n r ih => simp [intsOf, ih]
theorem vs_ints {vs : List L2.V} {ns : List Int} (h : RpAll K F vs (ns.map .int)) : vs = ns.map L2.V.int := by
  induction ns generalizing vs with
  | nil => cases h; rfl
  | cons n ns ih => cases h with | cons h1 h2 => cases h1; rw [ih h2]; rfl
theorem bools_eq : ∀ {ds : List D} {bs : List Bool}, boolsOf ds = some bs → ds = bs.map .bool
  | [], _, h => by simp [boolsOf] at h; subst h; rfl
  | .bool i :: r, _, h => by
    simp only [boolsOf, Option.map_eq_some_iff] at h
    obtain ⟨a, h1, rfl⟩ := h
    rw [bools_eq h1]; rfl
  | .none :: _, _, h => by simp [boolsOf] at h
  | .int _ :: _, _, h => by simp [boolsOf] at h
  | .str _ :: _, _, h => by simp [boolsOf] at h
  | .list _ :: _, _, h => by simp [boolsOf] at h
  | .tuple _ :: _, _, h => by simp [boolsOf] at h
  | .dict _ :: _, _, h => by simp [boolsOf] at h
theorem bools_map (ns : List Bool) : boolsOf (ns.map .bool) = some ns := by
  induction ns with
  | nil => rfl
  | cons n r ih => simp [boolsOf, ih]
theorem vs_bools {vs : List L2.V} {ns : List Bool} (h : RpAll K F vs (ns.map .bool)) : vs = ns.map L2.V.bl := by
  induction ns generalizing vs with
  | nil => cases h; rfl
  | cons n ns ih => cases h with | cons h1 h2 => cases h1; rw [ih h2]; rfl
end

/-! ### frames -/
theorem get_set {e : Env} {i j : Nat} {v : V} : get (e.set i v) j = if j = i ∧ i < e.length then v else get e j := by
  unfold get
  rw [List.getD_eq_getElem?_getD, List.getD_eq_getElem?_getD, List.getElem?_set]
  by_cases h : i = j
  · subst h
    by_cases hl : i < e.length
    · simp [hl]
    · simp [hl]
  · have h' : ¬ (j = i ∧ i < e.length) := fun q => h q.1.symm
    simp [h, h']
theorem get_ge {e : Env} {i : Nat} (h : e.length ≤ i) : get e i = .u := by
  unfold get
  rw [List.getD_eq_getElem?_getD, List.getElem?_eq_none h]; rfl

/-- an address is a list of the frame's own -/
def Own (σ : L2.St) (e : Env) (a : Addr) : Prop := ∃ i, isOwn (get e i) = true ∧ σ[i]? = some (some (.ref a))
def SlotR (K : Frag) (F H : Hp) : V → Option (Option L2.V) → Prop
  | .u, _ => True
  | .d x, o => ∃ v, o = some (some v) ∧ Rp K F v x
  | .c xs, o => ∃ a vs, o = some (some (.ref a)) ∧ H a = some (.lst vs) ∧ F a = none ∧ RpAll K F vs xs
  | .k _, _ => False
structure Rel (K : Frag) (F H : Hp) (σ : L2.St) (e : Env) : Prop where
  sub : Sub F H
  slot : ∀ i, SlotR K F H (get e i) σ[i]?
  sep : ∀ i j a, isOwn (get e i) = true → isOwn (get e j) = true → σ[i]? = some (some (.ref a)) → σ[j]? = some (some (.ref a)) → i = j
theorem Rel.own {K : Frag} {F H : Hp} {σ : L2.St} {e : Env} (r : Rel K F H σ e) {a : Addr} (h : Own σ e a) : F a = none ∧ ∃ o, H a = some o := by
  obtain ⟨i, h1, h2⟩ := h
  have q := r.slot i
  revert h1 q
  cases get e i with
  | u => intro h; cases h
  | d x => intro h; cases h
  | k x => intro h q; exact False.elim q
  | c xs =>
    intro _ q
    obtain ⟨b, vs, h3, h4, h5, _⟩ := q
    rw [h2] at h3; cases h3
    exact ⟨h5, _, h4⟩
/-- what a step leaves -/
structure Post (K : Frag) (F H : Hp) (σ : L2.St) (e : Env) (F' H' : Hp) (σ' : L2.St) (e' : Env) : Prop where
  grow : Sub F F'
  rel : Rel K F' H' σ' e'
  keep : ∀ a o, H a = some o → ¬ Own σ e a → H' a = some o
  new : ∀ a, F' a ≠ none → F a ≠ none ∨ H a = none ∨ Own σ e a
  dom : ∀ a, H' a = none → H a = none
  own : ∀ a, Own σ' e' a → Own σ e a ∨ H a = none
section
variable {K : Frag} {F H F1 H1 F2 H2 : Hp} {σ σ1 σ2 : L2.St} {e e1 e2 : Env}
theorem Post.refl (r : Rel K F H σ e) : Post K F H σ e F H σ e := ⟨Sub.refl _, r, fun _ _ h _ => h, fun _ h => .inl h, fun _ h => h, fun _ h => .inl h⟩
theorem Post.trans (p : Post K F H σ e F1 H1 σ1 e1) (q : Post K F1 H1 σ1 e1 F2 H2 σ2 e2) : Post K F H σ e F2 H2 σ2 e2 where
  grow := p.grow.trans q.grow
  rel := q.rel
  keep := fun a o h n => by
    refine q.keep a o (p.keep a o h n) fun h1 => ?_
    rcases p.own a h1 with z | z
    · exact n z
    · rw [h] at z; cases z
  new := fun a h => by
    rcases q.new a h with z | z | z
    · exact p.new a z
    · exact .inr (.inl (p.dom a z))
    · rcases p.own a z with z | z
      · exact .inr (.inr z)
      · exact .inr (.inl z)
  dom := fun a h => p.dom a (q.dom a h)
  own := fun a h => by
    rcases q.own a h with z | z
    · exact p.own a z
    · exact .inr (p.dom a z)
/-- a new object, not frozen -/
theorem Rel.fresh (r : Rel K F H σ e) {p : Addr} (hp : H p = none) (o : HO) : Rel K F (upd H p o) σ e where
  sub := fun a u h => by rw [upd_ne (ne_of_none (r.sub a u h) hp)]; exact r.sub a u h
  slot := fun i => by
    have q := r.slot i
    revert q
    cases get e i with
    | u => exact fun q => q
    | d x => exact fun q => q
    | k x => exact fun q => q
    | c xs =>
      rintro ⟨a, vs, h1, h2, h3, h4⟩
      exact ⟨a, vs, h1, by rw [upd_ne (ne_of_none h2 hp)]; exact h2, h3, h4⟩
  sep := r.sep
theorem Post.fresh (r : Rel K F H σ e) {p : Addr} (hp : H p = none) (o : HO) : Post K F H σ e F (upd H p o) σ e where
  grow := Sub.refl _
  rel := r.fresh hp o
  keep := fun a u h _ => by rw [upd_ne (ne_of_none h hp)]; exact h
  new := fun a h => .inl h
  dom := fun a h => by
    by_cases z : a = p
    · subst z; exact hp
    · rw [upd_ne z] at h; exact h
  own := fun a h => .inl h
theorem sub_upd {p : Addr} (hp : F p = none) (o : HO) : Sub F (upd F p o) := fun a u h => by rw [upd_ne (ne_of_none h hp)]; exact h
/-- a new object that stays as it is -/
theorem Post.data (r : Rel K F H σ e) {p : Addr} (hp : H p = none) (o : HO) : Post K F H σ e (upd F p o) (upd H p o) σ e := by
  have hF : F p = none := by
    cases q : F p with
    | none => rfl
    | some u => have := r.sub p u q; rw [hp] at this; cases this
  refine ⟨sub_upd hF o, ⟨fun a u h => ?_, fun i => ?_, r.sep⟩, fun a u h _ => ?_, fun a h => ?_, fun a h => ?_, fun a h => .inl h⟩
  · by_cases z : a = p
    · subst z; rw [upd_same] at h ⊢; exact h
    · rw [upd_ne z] at h ⊢; exact r.sub a u h
  · have q := r.slot i
    revert q
    cases get e i with
    | u => exact fun q => q
    | d x => rintro ⟨v, h1, h2⟩; exact ⟨v, h1, (sub_upd hF o).rp _ _ h2⟩
    | k x => exact fun q => q
    | c xs =>
      rintro ⟨a, vs, h1, h2, h3, h4⟩
      have z : a ≠ p := ne_of_none h2 hp
      exact ⟨a, vs, h1, by rw [upd_ne z]; exact h2, by rw [upd_ne z]; exact h3, (sub_upd hF o).rpAll _ _ h4⟩
  · rw [upd_ne (ne_of_none h hp)]; exact h
  · by_cases z : a = p
    · subst z; exact .inr (.inl hp)
    · rw [upd_ne z] at h; exact .inl h
  · by_cases z : a = p
    · subst z; exact hp
    · rw [upd_ne z] at h; exact h
/-- a value that an expression hands on: data, or a list that nobody else reaches -/
def ResR (K : Frag) (F H : Hp) (σ : L2.St) (e : Env) : V → L2.V → Prop
  | .d x, v => Rp K F v x
  | .c xs, v => ∃ a vs, v = .ref a ∧ H a = some (.lst vs) ∧ F a = none ∧ RpAll K F vs xs ∧ ¬ Own σ e a
  | _, _ => False
/-- where it comes from: new, or given up -/
def From (H : Hp) (σ : L2.St) (e : Env) : V → L2.V → Prop
  | .c _, v => ∀ a, v = .ref a → H a = none ∨ Own σ e a
  | _, _ => True
theorem From.trans (p : Post K F H σ e F1 H1 σ1 e1) {w : V} {v : L2.V} (h : From H1 σ1 e1 w v) : From H σ e w v := by
  cases w with
  | c xs =>
    intro a ha
    rcases h a ha with z | z
    · exact .inl (p.dom a z)
    · rcases p.own a z with z | z
      · exact .inr z
      · exact .inl z
  | _ => trivial
/-- it stays over what comes then -/
theorem ResR.stay {w : V} {v : L2.V} (h : ResR K F H σ e w v) (p : Post K F H σ e F1 H1 σ1 e1) : ResR K F1 H1 σ1 e1 w v := by
  cases w with
  | u => exact h
  | k _ => exact h
  | d x => exact p.grow.rp _ _ h
  | c xs =>
    obtain ⟨a, vs, h1, h2, h3, h4, h5⟩ := h
    refine ⟨a, vs, h1, p.keep a _ h2 h5, ?_, p.grow.rpAll _ _ h4, fun z => ?_⟩
    · cases q : F1 a with
      | none => rfl
      | some u =>
        rcases p.new a (by rw [q]; simp) with z | z | z
        · exact absurd h3 z
        · rw [h2] at z; cases z
        · exact absurd z h5
    · rcases p.own a z with z | z
      · exact h5 z
      · rw [h2] at z; cases z
/-- a list of one's own becomes data -/
theorem settle_ok (p : Post K F H σ e F1 H1 σ1 e1) {w : V} {v : L2.V} {x : D} (h : ResR K F1 H1 σ1 e1 w v) (hs : settle w = some x) (hw : From H σ e w v) :
    ∃ F', Post K F H σ e F' H1 σ1 e1 ∧ Rp K F' v x := by
  cases w with
  | u => cases hs
  | k _ => cases hs
  | d y => cases hs; exact ⟨F1, p, h⟩
  | c xs =>
    cases hs
    obtain ⟨a, vs, h1, h2, h3, h4, h5⟩ := h
    subst h1
    have up := sub_upd h3 (.lst vs)
    refine ⟨upd F1 a (.lst vs), ⟨p.grow.trans up, ⟨fun b u q => ?_, fun i => ?_, p.rel.sep⟩, p.keep, fun b q => ?_, p.dom, p.own⟩, .lst (SqL.of upd_same) (up.rpAll _ _ h4)⟩
    · by_cases z : b = a
      · subst z; rw [upd_same] at q; cases q; exact h2
      · rw [upd_ne z] at q; exact p.rel.sub b u q
    · have q := p.rel.slot i
      have own : ∀ b, isOwn (get e1 i) = true → σ1[i]? = some (some (.ref b)) → b ≠ a := fun b q1 q2 z => h5 ⟨i, q1, by rw [← z]; exact q2⟩
      revert q own
      cases get e1 i with
      | u => exact fun q _ => q
      | d x => rintro ⟨v, g1, g2⟩ _; exact ⟨v, g1, up.rp _ _ g2⟩
      | k x => exact fun q _ => q
      | c ys =>
        rintro ⟨b, ws, g1, g2, g3, g4⟩ own
        have z : b ≠ a := own b rfl g1
        exact ⟨b, ws, g1, g2, by rw [upd_ne z]; exact g3, up.rpAll _ _ g4⟩
    · by_cases z : b = a
      · subst z; exact .inr (hw b rfl)
      · rw [upd_ne z] at q; exact p.new b q
/-- an operand's value -/
def OpdR (K : Frag) (F H : Hp) (σ : L2.St) (e : Env) : Opd → L2.V → Prop
  | .x i, v => σ[i]? = some (some v)
  | .v w, v => ResR K F H σ e w v
theorem OpdR.stay {o : Opd} {v : L2.V} (h : OpdR K F H σ e o v) (p : Post K F H σ e F1 H1 σ e1) : OpdR K F1 H1 σ e1 o v := by
  cases o with
  | x i => exact h
  | v w => exact ResR.stay h p
/-- an operand as it is seen: data, or a list whose items are data -/
def VwR (K : Frag) (F H : Hp) (v : L2.V) (x : D) : Prop := Rp K F v x ∨ ∃ a vs xs, v = .ref a ∧ x = .list xs ∧ H a = some (.lst vs) ∧ RpAll K F vs xs
theorem OpdR.view (r : Rel K F H σ e) {o : Opd} {v : L2.V} {x : D} (h : OpdR K F H σ e o v) (hv : view o e = some x) : VwR K F H v x := by
  cases o with
  | x i =>
    have q := r.slot i
    have h : σ[i]? = some (some v) := h
    have hv : viewV (get e i) = some x := hv
    revert q hv
    cases get e i with
    | u => intro _ z; cases z
    | k _ => intro _ z; cases z
    | d y =>
      rintro ⟨u, q1, q2⟩ z
      cases z
      rw [h] at q1; cases q1
      exact .inl q2
    | c xs =>
      rintro ⟨a, vs, q1, q2, _, q4⟩ z
      cases z
      rw [h] at q1; cases q1
      exact .inr ⟨a, vs, xs, rfl, rfl, q2, q4⟩
  | v w =>
    cases w with
    | u => cases hv
    | k _ => cases hv
    | d y => cases hv; exact .inl h
    | c xs =>
      cases hv
      obtain ⟨a, vs, h1, h2, _, h4, _⟩ := h
      exact .inr ⟨a, vs, xs, h1, rfl, h2, h4⟩
theorem VwR.rp (s : Sub F H) {v : L2.V} {x : D} (h : VwR K F H v x) : Rp K H v x := by
  rcases h with h | ⟨a, vs, xs, rfl, rfl, h1, h2⟩
  · exact s.rp _ _ h
  · exact .lst (SqL.of h1) (s.rpAll _ _ h2)
theorem VwR.dp (s : Sub F H) {v : L2.V} {x : D} (h : VwR K F H v x) : L2.Dp K H v x := (h.rp s).dp
theorem VwR.list (s : Sub F H) {v : L2.V} {xs : List D} (h : VwR K F H v (.list xs)) : ∃ a vs, v = .ref a ∧ SqL K H a vs ∧ RpAll K F vs xs := by
  rcases h with h | ⟨a, vs, ys, rfl, e, h1, h2⟩
  · cases h with | lst h1 h2 => exact ⟨_, _, rfl, s.sqL h1, h2⟩
  · cases e; exact ⟨a, vs, rfl, SqL.of h1, h2⟩
theorem VwR.tup (s : Sub F H) {v : L2.V} {xs : List D} (h : VwR K F H v (.tuple xs)) : ∃ a vs, v = .ref a ∧ TupX K F a vs ∧ RpAll K F vs xs := by
  rcases h with h | ⟨a, vs, ys, rfl, e, h1, h2⟩
  · cases h with | tup h1 h2 => exact ⟨_, _, rfl, h1, h2⟩
  · cases e
theorem VwR.int {v : L2.V} {i : Int} (h : VwR K F H v (.int i)) : v = .int i := by
  rcases h with h | ⟨a, vs, ys, rfl, e, h1, h2⟩
  · cases h; rfl
  · cases e
theorem VwR.bool {v : L2.V} {i : Bool} (h : VwR K F H v (.bool i)) : v = .bl i := by
  rcases h with h | ⟨a, vs, ys, rfl, e, h1, h2⟩
  · cases h; rfl
  · cases e
theorem VwR.str {v : L2.V} {i : Str} (h : VwR K F H v (.str i)) : v = .str i := by
  rcases h with h | ⟨a, vs, ys, rfl, e, h1, h2⟩
  · cases h; rfl
  · cases e
end
end Sw
end T_SwB
section T_SwC
set_option autoImplicit false
set_option linter.all false
set_option Elab.async false
set_option maxRecDepth 100000
/-! SwC: readings as they are; calls; the context; names, constants, lists of expressions. -/
namespace Sw
open PySem L2

/-! ### the weakest readings -/
def RE (X : Cx) (ex : Expr) : TE := fun σ H Q => ∀ pins s, Inv X pins σ H s → wpAny (model X.prog X.w) X.A (eval ex X.env) (EP X pins σ Q) X.xe s
def RT (X : Cx) (ex : Expr) : TT := fun σ H Q => ∀ pins s, Inv X pins σ H s → wpAny (model X.prog X.w) X.A (isTrue ex X.env (eval ex X.env)) (TP X pins σ Q) X.xe s
def RW (X : Cx) (ex : Expr) : TT := fun σ H Q => ∀ whole pins s, Inv X pins σ H s → wpAny (model X.prog X.w) X.A (isTrue ex X.env whole) (TP X pins σ Q) X.xe s
def RA (X : Cx) (es : List Expr) : TA := fun σ H Q => ∀ pos pins s, Inv X pins σ H s → wpAny (model X.prog X.w) X.A (spliced (backTo pos (starEach es X.env))) (AP X pins σ Q) X.xe s
def RS (X : Cx) (st : Stmt) : TS := fun Dn σ H => ∀ pins s, Inv X pins σ H s → wpAny (model X.prog X.w) X.A (PySem.exec st X.env) (SP X pins Dn) X.xe s
def RSs (X : Cx) (st : List Stmt) : TS := fun Dn σ H => ∀ pins s, Inv X pins σ H s → wpAny (model X.prog X.w) X.A (PySem.execs st X.env) (SP X pins Dn) X.xe s
section
variable {X : Cx} {ex : Expr} {es : List Expr} {st : Stmt} {sts : List Stmt} {σ : L2.St} {H : Hp}
theorem peE (ex : Expr) : PE X ex (RE X ex) := ⟨fun pins s σ H Q I h => h pins s I⟩
theorem ptT (ex : Expr) : PT X ex (RT X ex) := ⟨fun pins s σ H Q I h => h pins s I⟩
theorem paA (es : List Expr) : PA X es (RA X es) := ⟨fun pos pins s σ H Q I h => h pos pins s I⟩
theorem psS (st : Stmt) : PS X st (RS X st) := ⟨fun pins s σ H Dn I h => h pins s I⟩
theorem pssS (sts : List Stmt) : PSs X sts (RSs X sts) := ⟨fun pins s σ H Dn I h => h pins s I⟩
theorem RE.of {t : TE} {Q : VK} (h : PE X ex t) (q : t σ H Q) : RE X ex σ H Q := fun pins s I => h.run pins s σ H Q I q
theorem RT.of {t : TT} {Q : Bool → Hp → Prop} (h : PT X ex t) (q : t σ H Q) : RT X ex σ H Q := fun pins s I => h.run pins s σ H Q I q
theorem RA.of {t : TA} {Q : List L2.V → Hp → Prop} (h : PA X es t) (q : t σ H Q) : RA X es σ H Q := fun pos pins s I => h.run pos pins s σ H Q I q
theorem RS.of {t : TS} {Dn : Ends} (h : PS X st t) (q : t Dn σ H) : RS X st Dn σ H := fun pins s I => h.run pins s σ H Dn I q
theorem RSs.of {t : TS} {Dn : Ends} (h : PSs X sts t) (q : t Dn σ H) : RSs X sts Dn σ H := fun pins s I => h.run pins s σ H Dn I q
theorem RE.mono {Q Q' : VK} (h : RE X ex σ H Q) (f : ∀ v H', Q v H' → Q' v H') : RE X ex σ H Q' := fun pins s I =>
  thn (h pins s I) fun u s' ⟨v, H', I', r, q⟩ => ⟨v, H', I', r, f v H' q⟩
/-- what the state is may be used -/
def Live (X : Cx) (σ : L2.St) (H : Hp) : Prop := ∃ pins s, Inv X pins σ H s
theorem RE.know {Q : VK} (h : Live X σ H → RE X ex σ H Q) : RE X ex σ H Q := fun pins s I => h ⟨pins, s, I⟩ pins s I
theorem RE.post {Q : VK} (h : RE X ex σ H fun v H' => Live X σ H' → Q v H') : RE X ex σ H Q := fun pins s I =>
  thn (h pins s I) fun u s' ⟨v, H', I', r, q⟩ => ⟨v, H', I', r, q ⟨pins, s', I'⟩⟩
theorem RS.know {Dn : Ends} (h : Live X σ H → RS X st Dn σ H) : RS X st Dn σ H := fun pins s I => h ⟨pins, s, I⟩ pins s I
theorem Live.listLen {a : Addr} {xs : List L2.V} (l : Live X σ H) (h : SqL X.K H a xs) : xs.length ≤ lim := by
  obtain ⟨pins, s, I⟩ := l
  obtain ⟨_, _, _, z⟩ := I.list h
  exact z
theorem Live.tupLen {a : Addr} {xs : List L2.V} (l : Live X σ H) (h : SqT X.K H a xs) : xs.length ≤ lim := by
  obtain ⟨pins, s, I⟩ := l
  obtain ⟨_, _, _, z⟩ := I.tuple h
  exact z
theorem Live.new (l : Live X σ H) : ∃ p, H p = none := by
  obtain ⟨pins, s, I⟩ := l
  exact ⟨_, I.hok.fresh (Nat.le_refl _)⟩
end

/-! ### defs that are called where no repr is under way -/
structure FnG (P : Program) (w : World) (K : Frag) (mg : Str → Option Value) (base : Heap) (CX : CXT) (k : Nat) (f : Addr) (fd : FuncData) (ps : List Str) (sp : Sp) : Prop where
  cnt : ∀ vs H Q E, sp vs H Q E → vs.length = ps.length
  go : ∀ (A : Around) (outer : List PySem.Env) (s : Shared) (H : Hp) (args : Args) (us : List Value) (vs : List L2.V) (Q : VK) (E : XK), A.guards = some [] → Room k A →
    Env0 P w K mg base A outer s H → BindsTo s fd args (ps.zip us) → Vals vs us → sp vs H Q E → codeAny (model P w) A (.call (.ref f) args) (CR CX outer P w H s Q E) s
theorem FnG.mono {P : Program} {w : World} {K : Frag} {mg : Str → Option Value} {base : Heap} {CX : CXT} {j k : Nat} {f : Addr} {fd : FuncData} {ps : List Str} {sp : Sp}
    (F : FnG P w K mg base CX j f fd ps sp) (h : j ≤ k) : FnG P w K mg base CX k f fd ps sp :=
  ⟨F.cnt, fun A outer s H args us vs Q E hg hr => F.go A outer s H args us vs Q E hg (hr.mono h)⟩
/-- what a call of f asks and hands back -/
def SpOf (K : Frag) (φ : Orc) (f : String) : Sp := fun vs H Q _ => ∃ args w outs F, φ f args = .ok (w, outs) ∧ vs.length = args.length ∧ Rel K F H (vs.map some) args ∧
  ∀ v F' H', Post K F H (vs.map some) args F' H' (vs.map some) outs → ResR K F' H' (vs.map some) outs w v → From H (vs.map some) args w v → Q v H'
/-- the built-ins that are used -/
def blts : List String := ["len", "tuple", "list", "sorted", "sum", "min", "max", "all", "any", "repr", "str", "int", "set", "isinstance", "range", "zip", "enumerate", "bool", "reversed", "dict"]
structure Good (N : List Str) (sc : Scope) (CX : CXT) (X : Cx) (φ : Orc) : Prop where
  hN : X.N = N
  nd : N.Nodup
  hsc : X.env.scope = sc
  calm : X.calm = true
  guards : X.A.guards = some []
  units : X.A.units + 200 < cLine
  blt : ∀ b ∈ blts, X.mg (Str.ofString b) = none
  cx : ∀ outer H s e s', ¬ CX outer H s (fun _ _ _ => False) e s'
  con : ∀ f s args p, isCon f = some s → φ f args = .ok p → ∃ d v u, p.1 = V.d d ∧ X.mg (Str.ofString s) = some u ∧ RelV v u ∧ ∀ F, Rp X.K F v d
  fn : ∀ f args p, isCon f = none → φ f args = .ok p → ∃ g fd ps k, FnG X.prog X.w X.K X.mg X.base CX k g fd ps (SpOf X.K φ f) ∧ Room k X.A ∧ X.mg (Str.ofString f) = some (.ref g) ∧
    PySem.W.keepIn X.K (.ref g) = true ∧ Binds X.K fd ps []
section
variable {N : List Str} {sc : Scope} {CX : CXT} {X : Cx} {φ : Orc}
theorem Good.gl (G : Good N sc CX X φ) {x : Str} (h : sc.names.lookup x = some .globalImplicit) : Gl X x := by
  show List.lookup x X.env.scope.names = _
  rw [G.hsc]; exact h
theorem Good.vis (G : Good N sc CX X φ) {x : Str} (h : sc.names.lookup x = some .local ∨ sc.names.lookup x = some .cell ∨ sc.names.lookup x = some .free) : Vis X.env.scope x := by
  show _ ∨ _ ∨ _
  rw [G.hsc]; exact h
theorem Good.hd (G : Good N sc CX X φ) {σ : L2.St} {H : Hp} (l : Live X σ H) : X.A.handled = none := by
  obtain ⟨_, _, I⟩ := l
  exact I.ok.hd G.calm
end

/-! ### soundness of an expression, an operand, a datum, a test -/
def FromO (H : Hp) (σ : L2.St) (e : Env) : Opd → L2.V → Prop
  | .x _, _ => True
  | .v w, v => From H σ e w v
def SE (N : List Str) (sc : Scope) (CX : CXT) (ex : Expr) (φ : Orc) (r : Env → R (V × Env)) : Prop :=
  ∀ X, Good N sc CX X φ → ∀ e w e', r e = .ok (w, e') → ∀ F H σ Q, Rel X.K F H σ e →
    (∀ v F' H', Post X.K F H σ e F' H' σ e' → ResR X.K F' H' σ e' w v → From H σ e w v → Q v H') → RE X ex σ H Q
def SO (N : List Str) (sc : Scope) (CX : CXT) (ex : Expr) (φ : Orc) (r : Env → R (Opd × Env)) : Prop :=
  ∀ X, Good N sc CX X φ → ∀ e w e', r e = .ok (w, e') → ∀ F H σ Q, Rel X.K F H σ e →
    (∀ v F' H', Post X.K F H σ e F' H' σ e' → OpdR X.K F' H' σ e' w v → FromO H σ e w v → Q v H') → RE X ex σ H Q
def SD (N : List Str) (sc : Scope) (CX : CXT) (ex : Expr) (φ : Orc) (r : Env → R (D × Env)) : Prop :=
  ∀ X, Good N sc CX X φ → ∀ e w e', r e = .ok (w, e') → ∀ F H σ Q, Rel X.K F H σ e →
    (∀ v F' H', Post X.K F H σ e F' H' σ e' → Rp X.K F' v w → Q v H') → RE X ex σ H Q
def ST (N : List Str) (sc : Scope) (CX : CXT) (ex : Expr) (φ : Orc) (r : Env → R (Bool × Env)) : Prop :=
  ∀ X, Good N sc CX X φ → ∀ e w e', r e = .ok (w, e') → ∀ F H σ Q, Rel X.K F H σ e →
    (∀ F' H', Post X.K F H σ e F' H' σ e' → Q w H') → RT X ex σ H Q

theorem bind_inv {α β : Type} {r : R α} {f : α → R β} {b : β} (h : r.bind f = .ok b) : ∃ a, r = .ok a ∧ f a = .ok b := by
  cases r with
  | ok a => exact ⟨a, rfl, h⟩
  | exc c => cases h
  | bad => cases h
theorem ofO_inv {α : Type} {o : Option α} {a : α} (h : R.ofO o = .ok a) : o = some a := by
  cases o with
  | none => cases h
  | some b => cases h; rfl
section
variable {N : List Str} {sc : Scope} {CX : CXT} {φ : Orc} {ex : Expr}
theorem sd_of {r : Env → R (V × Env)} (h : SE N sc CX ex φ r) : SD N sc CX ex φ (daW r) := by
  intro X G e x e' hr F H σ Q rel k
  obtain ⟨⟨w, e1⟩, h1, h2⟩ := bind_inv hr
  obtain ⟨y, h3, h4⟩ := bind_inv h2
  have h3 := ofO_inv h3
  cases h4
  refine h X G e w e1 h1 F H σ Q rel fun v F' H' p r f => ?_
  obtain ⟨F2, p2, d⟩ := settle_ok p r h3 f
  exact k v F2 H' p2 d
theorem so_of {r : Env → R (V × Env)} {a : E} (h : SE N sc CX ex φ r) (hv : ∀ i, a = .var i → SO N sc CX ex φ (opW r a)) : SO N sc CX ex φ (opW r a) := by
  by_cases ha : ∃ i, a = .var i
  · obtain ⟨i, ha⟩ := ha
    exact hv i ha
  · intro X G e o e' hr F H σ Q rel k
    have e2 : opW r a e = (r e).bind fun p => .ok (.v p.1, p.2) := by
      unfold opW
      cases a <;> first | rfl | exact absurd ⟨_, rfl⟩ ha
    rw [e2] at hr
    obtain ⟨⟨w, e1⟩, h1, h2⟩ := bind_inv hr
    cases h2
    exact h X G e w e1 h1 F H σ Q rel fun v F' H' p q f => k v F' H' p q f

/-! ### names and constants -/
def isVis (sc : Scope) (x : Str) : Bool := match sc.names.lookup x with | some .local => true | some .cell => true | some .free => true | _ => false
theorem isVis_of {x : Str} (h : isVis sc x = true) : sc.names.lookup x = some .local ∨ sc.names.lookup x = some .cell ∨ sc.names.lookup x = some .free := by
  unfold isVis at h
  split at h
  · exact .inl (by assumption)
  · exact .inr (.inl (by assumption))
  · exact .inr (.inr (by assumption))
  · cases h
def plainName (x : Str) : Bool := !(x == ("__debug__" : Str)) && !(x == ("__classdict__" : Str))
theorem pe_name {X : Cx} {i : Nat} {x : Str} {pos : Pos} (G : Good N sc CX X φ) (hi : N[i]? = some x) (hv : isVis sc x = true) (hp : plainName x = true) : PE X (.Name x pos) (tVar i) := by
  unfold plainName at hp
  simp only [Bool.and_eq_true, Bool.not_eq_true'] at hp
  exact pe_var (by rw [G.hN]; exact hi) (G.vis (isVis_of hv)) hp.1 hp.2
theorem so_var {i : Nat} {x : Str} {pos : Pos} (hi : N[i]? = some x) (hv : isVis sc x = true) (hp : plainName x = true) (r : Env → R (V × Env)) : SO N sc CX (.Name x pos) φ (opW r (.var i)) := by
  intro X G e o e' hr F H σ Q rel k
  have e2 : opW r (.var i) e = if isU (get e i) then .bad else .ok (.x i, e) := rfl
  rw [e2] at hr
  have q := rel.slot i
  split at hr
  · cases hr
  · rename_i hu
    cases hr
    have : ∃ v, σ[i]? = some (some v) := by
      revert q hu
      cases get e i with
      | u => intro _ hu; exact absurd rfl hu
      | d y => rintro ⟨v, q, _⟩ _; exact ⟨v, q⟩
      | c xs => rintro ⟨a, vs, q, _⟩ _; exact ⟨_, q⟩
      | k _ => intro q _; exact False.elim q
    obtain ⟨v, hv'⟩ := this
    exact RE.of (pe_name G hi hv hp) ⟨v, hv', k v F H (Post.refl rel) hv' trivial⟩
/-- a list of one's own, read so that it stays as it is -/
theorem frz_slot {K : Frag} {F H : Hp} {σ : L2.St} {e : Env} (rel : Rel K F H σ e) {i : Nat} {xs : List D} (h : get e i = .c xs) :
    ∃ a vs, σ[i]? = some (some (.ref a)) ∧ Post K F H σ e (upd F a (.lst vs)) H σ (e.set i (.d (.list xs))) ∧ Rp K (upd F a (.lst vs)) (.ref a) (.list xs) := by
  have q := rel.slot i
  rw [h] at q
  obtain ⟨a, vs, q1, q2, q3, q4⟩ := q
  have hi : i < e.length := by
    by_cases z : i < e.length
    · exact z
    · rw [get_ge (Nat.le_of_not_lt z)] at h; cases h
  have up := sub_upd q3 (.lst vs)
  have dp : Rp K (upd F a (.lst vs)) (.ref a) (.list xs) := .lst (SqL.of upd_same) (up.rpAll _ _ q4)
  have ow : ∀ j, isOwn (get (e.set i (.d (.list xs))) j) = true → j ≠ i ∧ isOwn (get e j) = true := fun j hj => by
    rw [get_set] at hj
    split at hj
    · cases hj
    · rename_i z
      exact ⟨fun w => z ⟨w, hi⟩, hj⟩
  refine ⟨a, vs, q1, ⟨up, ⟨fun b u g => ?_, fun j => ?_, fun j l b h1 h2 => rel.sep j l b (ow j h1).2 (ow l h2).2⟩, fun _ _ g _ => g, fun b g => ?_, fun _ g => g, fun b ⟨j, h1, h2⟩ => .inl ⟨j, (ow j h1).2, h2⟩⟩, dp⟩
  · by_cases z : b = a
    · subst z; rw [upd_same] at g; cases g; exact q2
    · rw [upd_ne z] at g; exact rel.sub b u g
  · rw [get_set]
    split
    · rename_i z
      rw [z.1]
      exact ⟨_, q1, dp⟩
    · rename_i z
      have g := rel.slot j
      have own : ∀ b, isOwn (get e j) = true → σ[j]? = some (some (.ref b)) → b ≠ a := fun b g1 g2 w => by
        subst w
        exact z ⟨rel.sep j i b g1 (by rw [h]; rfl) g2 q1, hi⟩
      revert g own
      cases get e j with
      | u => exact fun g _ => g
      | d x => rintro ⟨v, g1, g2⟩ _; exact ⟨v, g1, up.rp _ _ g2⟩
      | k x => exact fun g _ => g
      | c ys =>
        rintro ⟨b, ws, g1, g2, g3, g4⟩ own
        exact ⟨b, ws, g1, g2, by rw [upd_ne (own b rfl g1)]; exact g3, up.rpAll _ _ g4⟩
  · by_cases z : b = a
    · subst z; exact .inr (.inr ⟨i, by rw [h]; rfl, q1⟩)
    · rw [upd_ne z] at g; exact .inl g
theorem se_var {i : Nat} {x : Str} {pos : Pos} (hi : N[i]? = some x) (hv : isVis sc x = true) (hp : plainName x = true) : SE N sc CX (.Name x pos) φ (evalE φ (.var i)) := by
  intro X G e w e' hr F H σ Q rel k
  simp only [evalE] at hr
  cases g : get e i with
  | u => rw [g] at hr; cases hr
  | k _ => rw [g] at hr; cases hr
  | d y =>
    rw [g] at hr
    cases hr
    have q := rel.slot i
    rw [g] at q
    obtain ⟨v, q1, q2⟩ := q
    exact RE.of (pe_name G hi hv hp) ⟨v, q1, k v F H (Post.refl rel) q2 trivial⟩
  | c xs =>
    rw [g] at hr
    cases hr
    obtain ⟨a, vs, q1, p, d⟩ := frz_slot rel g
    exact RE.of (pe_name G hi hv hp) ⟨_, q1, k _ _ H p d trivial⟩
theorem se_mv {i : Nat} {x : Str} {pos : Pos} (hi : N[i]? = some x) (hv : isVis sc x = true) (hp : plainName x = true) : SE N sc CX (.Name x pos) φ (evalE φ (.mv i)) := by
  intro X G e w e' hr F H σ Q rel k
  simp only [evalE] at hr
  cases g : get e i with
  | u => rw [g] at hr; cases hr
  | k _ => rw [g] at hr; cases hr
  | d y =>
    rw [g] at hr
    cases hr
    have q := rel.slot i
    rw [g] at q
    obtain ⟨v, q1, q2⟩ := q
    exact RE.of (pe_name G hi hv hp) ⟨v, q1, k v F H (Post.refl rel) q2 trivial⟩
  | c xs =>
    rw [g] at hr
    cases hr
    have q := rel.slot i
    rw [g] at q
    obtain ⟨a, vs, q1, q2, q3, q4⟩ := q
    have hi' : i < e.length := by
      by_cases z : i < e.length
      · exact z
      · rw [get_ge (Nat.le_of_not_lt z)] at g; cases g
    have ow : ∀ j, isOwn (get (e.set i .u) j) = true → j ≠ i ∧ isOwn (get e j) = true := fun j hj => by
      rw [get_set] at hj
      split at hj
      · cases hj
      · rename_i z
        exact ⟨fun w => z ⟨w, hi'⟩, hj⟩
    have p : Post X.K F H σ e F H σ (e.set i .u) := by
      refine ⟨Sub.refl _, ⟨rel.sub, fun j => ?_, fun j l b h1 h2 => rel.sep j l b (ow j h1).2 (ow l h2).2⟩, fun _ _ g _ => g, fun b g => .inl g, fun _ g => g, fun b ⟨j, h1, h2⟩ => .inl ⟨j, (ow j h1).2, h2⟩⟩
      rw [get_set]
      split
      · trivial
      · exact rel.slot j
    refine RE.of (pe_name G hi hv hp) ⟨_, q1, k _ _ H p ⟨a, vs, rfl, q2, q3, q4, fun ⟨j, h1, h2⟩ => ?_⟩ fun b hb => ?_⟩
    · obtain ⟨z1, z2⟩ := ow j h1
      exact z1 (rel.sep j i a z2 (by rw [g]; rfl) h2 q1)
    · cases hb
      exact .inr ⟨i, by rw [g]; rfl, q1⟩
theorem se_const {t : L2.V} {x : D} {r : Env → R (V × Env)} (hr : ∀ e, r e = .ok (.d x, e)) (hp : ∀ X : Cx, PE X ex (tC t)) (hd : ∀ K F, Rp K F t x) : SE N sc CX ex φ r := by
  intro X G e w e' h F H σ Q rel k
  rw [hr] at h
  cases h
  exact RE.of (hp X) (k t F H (Post.refl rel) (hd _ _) trivial)
end
end Sw
end T_SwC
section T_SwD
set_option autoImplicit false
set_option linter.all false
set_option Elab.async false
set_option maxRecDepth 100000
/-! SwD: lists of expressions, displays, calls of defs. -/
namespace Sw
open PySem L2

def noStar : Expr → Bool
  | .Starred _ _ => false
  | _ => true
theorem star_of {ex : Expr} {es : List Expr} {env : PySem.Env} (h : noStar ex = true) : starEach (ex :: es) env = (false, eval ex env) :: starEach es env := by
  cases ex <;> first | rfl | cases h
def noStars : List Expr → Bool
  | [] => true
  | e :: r => noStar e && noStars r
theorem plain_of {es : List Expr} {env : PySem.Env} {pos : Pos} (h : noStars es = true) : (backTo pos (starEach es env)).any (·.1) = false := by
  induction es with
  | nil => rfl
  | cons e r ih =>
    simp only [noStars, Bool.and_eq_true] at h
    rw [star_of h.1]
    have := ih h.2
    simpa [backTo] using this
section
variable {N : List Str} {sc : Scope} {CX : CXT} {φ : Orc} {ex : Expr} {exs : List Expr}
def SDs (N : List Str) (sc : Scope) (CX : CXT) (exs : List Expr) (φ : Orc) (r : Env → R (List D × Env)) : Prop :=
  ∀ X, Good N sc CX X φ → ∀ e xs e', r e = .ok (xs, e') → ∀ F H σ Q, Rel X.K F H σ e →
    (∀ vs F' H', Post X.K F H σ e F' H' σ e' → RpAll X.K F' vs xs → Q vs H') → RA X exs σ H Q
theorem sds_nil : SDs N sc CX [] φ (evalDs φ .nil) := by
  intro X G e xs e' hr F H σ Q rel k
  simp only [evalDs] at hr
  cases hr
  exact RA.of pa_nil (k [] F H (Post.refl rel) .nil)
theorem sds_cons {a : E} {as : Es} (hs : noStar ex = true) (h1 : SD N sc CX ex φ (daW (evalE φ a))) (h2 : SDs N sc CX exs φ (evalDs φ as)) : SDs N sc CX (ex :: exs) φ (evalDs φ (.cons a as)) := by
  intro X G e xs e' hr F H σ Q rel k
  simp only [evalDs] at hr
  obtain ⟨⟨x, e1⟩, r1, r2⟩ := bind_inv hr
  obtain ⟨⟨ys, e2⟩, r3, r4⟩ := bind_inv r2
  cases r4
  refine RA.of (pa_cons (peE ex) (paA exs) (star_of hs)) ?_
  refine h1 X G e x e1 r1 F H σ _ rel fun v F1 H1 p1 d1 => ?_
  exact h2 X G e1 ys e2 r3 F1 H1 σ _ p1.rel fun vs F2 H2 p2 d2 => k (v :: vs) F2 H2 (p1.trans p2) (.cons (p2.grow.rp _ _ d1) d2)
/-- a fresh list handed on -/
theorem fresh_res {K : Frag} {F H F1 H1 : Hp} {σ : L2.St} {e e1 : Env} {p : Addr} {vs : List L2.V} {xs : List D} (q : Post K F H σ e F1 H1 σ e1) (hp : H1 p = none) (d : RpAll K F1 vs xs) :
    Post K F H σ e F1 (upd H1 p (.lst vs)) σ e1 ∧ ResR K F1 (upd H1 p (.lst vs)) σ e1 (.c xs) (.ref p) ∧ From H σ e (.c xs) (.ref p) := by
  refine ⟨q.trans (Post.fresh q.rel hp _), ⟨p, vs, rfl, upd_same, ?_, d, fun h => ?_⟩, fun a ha => ?_⟩
  · cases z : F1 p with
    | none => rfl
    | some u => have := q.rel.sub p u z; rw [hp] at this; cases this
  · obtain ⟨_, o, ho⟩ := q.rel.own h
    rw [hp] at ho; cases ho
  · cases ha
    exact .inl (q.dom _ hp)
/-- a new tuple handed on -/
theorem data_res {K : Frag} {F H F1 H1 : Hp} {σ : L2.St} {e e1 : Env} {p : Addr} {o : Obj} {vs : List L2.V} {xs : List D} (q : Post K F H σ e F1 H1 σ e1) (hp : H1 p = none) (ho : o.dict = none) (d : RpAll K F1 vs xs) :
    Post K F H σ e (upd F1 p (.frz o (.tup vs))) (upd H1 p (.frz o (.tup vs))) σ e1 ∧ Rp K (upd F1 p (.frz o (.tup vs))) (.ref p) (.tuple xs) := by
  have z := Post.data q.rel hp (.frz o (.tup vs))
  exact ⟨q.trans z, .tup (.inl ⟨o, upd_same, ho⟩) (z.grow.rpAll _ _ d)⟩
/-- a tuple's display: its object is known -/
theorem pe_tupF {X : Cx} {c : Nat} {pos : Pos} {t : TA} (h : PA X exs t) : PE X (.Tuple exs c pos) fun σ H Q => t σ H fun vs H1 => vs.length ≤ sizeLine ∧ ∀ p o, H1 p = none → o.dict = none → Q (.ref p) (upd H1 p (.frz o (.tup vs))) := by
  refine ⟨fun pins s σ H Q I hq => wpAny_Tuple_spliced (thn (h.run pos pins s σ H _ I hq) fun us s1 hz => ?_)⟩
  obtain ⟨vs, H1, I1, r, z, q⟩ := hz
  have get := Heap.get?_push_size s1.heap (o := { cls := .type "tuple", data := .seq us.toArray }) rfl
  refine ⟨by rw [← r.length]; exact z, .ref s1.heap.objs.size, _, ?_, rfl, q s1.heap.objs.size { cls := .type "tuple", data := .seq us.toArray } (I1.hok.fresh (Nat.le_refl _)) rfl⟩
  exact I1.laid (t' := s1.toks) (fun b u e => Heap.get?_push_of_some _ e) (Nat.le_refl _) ⟨get, z, us, r, _, get, rfl, _, rfl⟩
theorem se_tup {as : Es} {c : Nat} {pos : Pos} (h : SDs N sc CX exs φ (evalDs φ as)) : SE N sc CX (.Tuple exs c pos) φ (evalE φ (.tup as)) := by
  intro X G e w e' hr F H σ Q rel k
  simp only [evalE] at hr
  obtain ⟨⟨xs, e1⟩, r1, r2⟩ := bind_inv hr
  dsimp only at r2
  split at r2
  · rename_i hz
    cases r2
    refine RE.of (pe_tupF (paA exs)) ?_
    refine h X G e xs _ r1 F H σ _ rel fun vs F1 H1 p1 d1 => ⟨by rw [rpAll_len d1]; exact hz, fun p o hp ho => ?_⟩
    obtain ⟨q1, q2⟩ := data_res p1 hp ho d1
    exact k _ _ _ q1 q2 trivial
  · cases r2
theorem se_lst {as : Es} {pos : Pos} (h : SDs N sc CX exs φ (evalDs φ as)) : SE N sc CX (.List exs pos) φ (evalE φ (.lst as)) := by
  intro X G e w e' hr F H σ Q rel k
  simp only [evalE] at hr
  obtain ⟨⟨xs, e1⟩, r1, r2⟩ := bind_inv hr
  dsimp only at r2
  split at r2
  · rename_i hz
    cases r2
    refine RE.of (pe_lst (paA exs)) ?_
    refine h X G e xs _ r1 F H σ _ rel fun vs F1 H1 p1 d1 => ⟨by rw [rpAll_len d1]; exact hz, fun p hp => ?_⟩
    obtain ⟨q1, q2, q3⟩ := fresh_res p1 hp d1
    exact k _ _ _ q1 q2 q3
  · cases r2

/-! ### operands, and calls -/
def OpdsR (K : Frag) (F H : Hp) (σ : L2.St) (e : Env) : List Opd → List L2.V → Prop
  | [], [] => True
  | o :: os, v :: vs => OpdR K F H σ e o v ∧ OpdsR K F H σ e os vs ∧ (∀ xs, o = .v (.c xs) → ∀ (j : Nat) (ys : List D), os[j]? = some (.v (.c ys)) → vs[j]? ≠ some v)
  | _, _ => False
def FromOs (H : Hp) (σ : L2.St) (e : Env) (os : List Opd) (vs : List L2.V) : Prop := ∀ (j : Nat) (o : Opd) (v : L2.V), os[j]? = some o → vs[j]? = some v → FromO H σ e o v
def SOs (N : List Str) (sc : Scope) (CX : CXT) (exs : List Expr) (φ : Orc) (r : Env → R (List Opd × Env)) : Prop :=
  ∀ X, Good N sc CX X φ → ∀ e os e', r e = .ok (os, e') → ∀ F H σ Q, Rel X.K F H σ e →
    (∀ vs F' H', Post X.K F H σ e F' H' σ e' → OpdsR X.K F' H' σ e' os vs → FromOs H σ e os vs → Q vs H') → RA X exs σ H Q
theorem OpdsR.len {K : Frag} {F H : Hp} {σ : L2.St} {e : Env} : ∀ {os : List Opd} {vs : List L2.V}, OpdsR K F H σ e os vs → os.length = vs.length
  | [], [], _ => rfl
  | _ :: _, _ :: _, h => by simp [OpdsR.len h.2.1]
  | [], _ :: _, h => h.elim
  | _ :: _, [], h => h.elim
theorem OpdsR.at {K : Frag} {F H : Hp} {σ : L2.St} {e : Env} : ∀ {os : List Opd} {vs : List L2.V}, OpdsR K F H σ e os vs → ∀ {j : Nat} {o : Opd} {v : L2.V}, os[j]? = some o → vs[j]? = some v → OpdR K F H σ e o v
  | _ :: _, _ :: _, h, 0, o, v, h1, h2 => by simp at h1 h2; subst h1 h2; exact h.1
  | _ :: _, _ :: _, h, j + 1, o, v, h1, h2 => OpdsR.at h.2.1 (by simpa using h1) (by simpa using h2)
  | [], _, _, _, _, _, h1, _ => by simp at h1
  | _ :: _, [], h, _, _, _, _, _ => h.elim
theorem OpdsR.two {K : Frag} {F H : Hp} {σ : L2.St} {e : Env} : ∀ {os : List Opd} {vs : List L2.V}, OpdsR K F H σ e os vs → ∀ {i j : Nat} {xs ys : List D} {v : L2.V}, i < j → os[i]? = some (.v (.c xs)) → os[j]? = some (.v (.c ys)) → vs[i]? = some v → vs[j]? ≠ some v
  | o :: os, w :: vs, h, 0, j + 1, xs, ys, v, _, h1, h2, h3 => by
    simp at h1 h3
    subst h3
    have := h.2.2 xs h1 j ys (by simpa using h2)
    simpa using this
  | o :: os, w :: vs, h, i + 1, j + 1, xs, ys, v, hl, h1, h2, h3 => by
    have := OpdsR.two h.2.1 (i := i) (j := j) (by omega) (by simpa using h1) (by simpa using h2) (by simpa using h3)
    simpa using this
  | _, _, _, _, 0, _, _, _, hl, _, _, _ => by omega
  | [], _, _, _, _, _, _, _, _, h1, _, _ => by simp at h1
  | _ :: _, [], h, _, _, _, _, _, _, _, _, _ => h.elim
theorem sos_nil : SOs N sc CX [] φ (evalOs φ .nil) := by
  intro X G e xs e' hr F H σ Q rel k
  simp only [evalOs] at hr
  cases hr
  exact RA.of pa_nil (k [] F H (Post.refl rel) trivial fun j o v h => by simp at h)
theorem FromO.trans {K : Frag} {F H F1 H1 : Hp} {σ σ1 : L2.St} {e e1 : Env} (p : Post K F H σ e F1 H1 σ1 e1) {o : Opd} {v : L2.V} (h : FromO H1 σ1 e1 o v) : FromO H σ e o v := by
  cases o with
  | x i => trivial
  | v w => exact From.trans p h
theorem sos_cons {a : E} {as : Es} (hs : noStar ex = true) (h1 : SO N sc CX ex φ (opW (evalE φ a) a)) (h2 : SOs N sc CX exs φ (evalOs φ as)) : SOs N sc CX (ex :: exs) φ (evalOs φ (.cons a as)) := by
  intro X G e xs e' hr F H σ Q rel k
  simp only [evalOs] at hr
  obtain ⟨⟨o, e1⟩, r1, r2⟩ := bind_inv hr
  obtain ⟨⟨os, e2⟩, r3, r4⟩ := bind_inv r2
  cases r4
  refine RA.of (pa_cons (peE ex) (paA exs) (star_of hs)) ?_
  refine h1 X G e o e1 r1 F H σ _ rel fun v F1 H1 p1 d1 f1 => ?_
  refine h2 X G e1 os e2 r3 F1 H1 σ _ p1.rel fun vs F2 H2 p2 d2 f2 => ?_
  refine k (v :: vs) F2 H2 (p1.trans p2) ⟨d1.stay p2, d2, fun xs ho j ys hj hv => ?_⟩ fun j o' v' hj hv => ?_
  · subst ho
    obtain ⟨b, ws, q1, q2, q3, q4, q5⟩ := d1
    subst q1
    rcases f2 j _ _ hj hv b rfl with z | z
    · rw [q2] at z; cases z
    · exact q5 z
  · cases j with
    | zero => simp at hj hv; subst hj hv; exact f1
    | succ j => exact FromO.trans p1 (f2 j o' v' (by simpa using hj) (by simpa using hv))
theorem apart_at {e : Env} : ∀ {os : List Opd}, apart e os = true → ∀ {i j k : Nat}, i < j → os[i]? = some (.x k) → os[j]? = some (.x k) → isOwn (get e k) = false
  | [], _, _, _, _, _, h, _ => by simp at h
  | o :: os, h, 0, j + 1, k, _, h1, h2 => by
    simp at h1
    subst h1
    unfold apart at h
    simp only [Bool.and_eq_true, Bool.or_eq_true, Bool.not_eq_true'] at h
    rcases h.1 with z | z
    · exact z
    · have hm : Opd.x k ∈ os := List.mem_of_getElem? (by simpa using h2)
      have := List.any_eq_false.mp z _ hm
      simp at this
  | o :: os, h, i + 1, j + 1, k, hl, h1, h2 => by
    have h' : apart e os = true := by
      cases o with
      | x l => unfold apart at h; exact (Bool.and_eq_true _ _ ▸ h).2
      | v w => exact h
    exact apart_at h' (i := i) (j := j) (by omega) (by simpa using h1) (by simpa using h2)
  | _, _, _, 0, _, hl, _, _ => by omega
/-- what stands in a slot once the lists are handed back -/
theorem get_putBack {e0 : Env} : ∀ {os : List Opd} {outs : List V} {e : Env} (i : Nat), os.length = outs.length → e0.length = e.length → apart e0 os = true →
    (∃ (j : Nat) (o : V), os[j]? = some (Opd.x i) ∧ isOwn (get e0 i) = true ∧ outs[j]? = some o ∧ get (putBack e0 os outs e) i = o) ∨
    ((∀ j : Nat, os[j]? = some (Opd.x i) → isOwn (get e0 i) = false) ∧ get (putBack e0 os outs e) i = get e i)
  | [], _, e, i, _, _, _ => .inr ⟨fun j h => by simp at h, by cases ‹List V› <;> rfl⟩
  | .v w :: os, o :: outs, e, i, hl, hle, ha => by
    have hl' : os.length = outs.length := by simpa using hl
    rcases get_putBack (e0 := e0) (e := e) i hl' hle ha with ⟨j, o', h1, h2, h3, h4⟩ | ⟨h1, h2⟩
    · exact .inl ⟨j + 1, o', by simpa using h1, h2, by simpa using h3, h4⟩
    · refine .inr ⟨fun j hj => ?_, h2⟩
      cases j with
      | zero => simp at hj
      | succ j => exact h1 j (by simpa using hj)
  | .x l :: os, o :: outs, e, i, hl, hle, ha => by
    have hl' : os.length = outs.length := by simpa using hl
    have ha' : apart e0 os = true := by unfold apart at ha; exact (Bool.and_eq_true _ _ ▸ ha).2
    show (∃ (j : Nat) (o' : V), (Opd.x l :: os)[j]? = some (Opd.x i) ∧ isOwn (get e0 i) = true ∧ (o :: outs)[j]? = some o' ∧ get (putBack e0 os outs (if isOwn (get e0 l) then e.set l o else e)) i = o') ∨
      ((∀ j : Nat, (Opd.x l :: os)[j]? = some (Opd.x i) → isOwn (get e0 i) = false) ∧ get (putBack e0 os outs (if isOwn (get e0 l) then e.set l o else e)) i = get e i)
    have hle' : e0.length = (if isOwn (get e0 l) then e.set l o else e).length := by split <;> simp [hle]
    rcases get_putBack (e0 := e0) (e := if isOwn (get e0 l) then e.set l o else e) i hl' hle' ha' with ⟨j, o', h1, h2, h3, h4⟩ | ⟨h1, h2⟩
    · exact .inl ⟨j + 1, o', by simpa using h1, h2, by simpa using h3, h4⟩
    · by_cases hi : l = i
      · subst hi
        by_cases ho : isOwn (get e0 l) = true
        · refine .inl ⟨0, o, rfl, ho, rfl, ?_⟩
          have hl2 : l < e.length := by
            rw [← hle]
            by_cases z : l < e0.length
            · exact z
            · rw [get_ge (Nat.le_of_not_lt z)] at ho; cases ho
          rw [h2, if_pos ho, get_set, if_pos ⟨rfl, hl2⟩]
        · have ho' : isOwn (get e0 l) = false := by simpa using ho
          refine .inr ⟨fun _ _ => ho', ?_⟩
          rw [h2, if_neg ho]
      · refine .inr ⟨fun j hj => ?_, ?_⟩
        · cases j with
          | zero => simp at hj; exact absurd hj hi
          | succ j => exact h1 j (by simpa using hj)
        · rw [h2]
          split
          · rw [get_set, if_neg (fun z => hi z.1.symm)]
          · rfl
  | .v _ :: _, [], _, _, hl, _, _ => by simp at hl
  | .x _ :: _, [], _, _, hl, _, _ => by simp at hl
end
end Sw
end T_SwD
section T_SwE
set_option autoImplicit false
set_option linter.all false
set_option Elab.async false
set_option maxRecDepth 100000
/-! SwE: a def called. -/
namespace Sw
open PySem L2
section
variable {K : Frag} {F H F1 H1 F2 H2 : Hp} {σ : L2.St} {e e1 : Env} {os : List Opd} {vs : List L2.V} {outs : List V}
theorem get_map {os : List Opd} {e1 : Env} {j : Nat} : get (os.map (val · e1)) j = match os[j]? with | some o => val o e1 | none => .u := by
  unfold get
  rw [List.getD_eq_getElem?_getD, List.getElem?_map]
  cases os[j]? <;> rfl
theorem some_get {vs : List L2.V} {j : Nat} {v : L2.V} : (vs.map some)[j]? = some (some v) ↔ vs[j]? = some v := by
  rw [List.getElem?_map]
  cases vs[j]? <;> simp
theorem get_outs {outs : List V} {j : Nat} {o : V} (h : outs[j]? = some o) : get outs j = o := by
  unfold get
  rw [List.getD_eq_getElem?_getD, h]; rfl
/-- an operand that is one's own list: a name's, or a pending one -/
theorem own_arg {j : Nat} (h : isOwn (get (os.map (val · e1)) j) = true) : (∃ i, os[j]? = some (Opd.x i) ∧ isOwn (get e1 i) = true) ∨ (∃ w, os[j]? = some (Opd.v w) ∧ isOwn w = true) := by
  rw [get_map] at h
  cases q : os[j]? with
  | none => rw [q] at h; cases h
  | some o =>
    rw [q] at h
    cases o with
    | x i => exact .inl ⟨i, rfl, h⟩
    | v w => exact .inr ⟨w, rfl, h⟩
theorem own_v {w : V} {v : L2.V} (h : ResR K F H σ e w v) (ho : isOwn w = true) : ∃ xs, w = .c xs := by
  cases w with
  | c xs => exact ⟨xs, rfl⟩
  | u => cases ho
  | d _ => cases ho
  | k _ => exact False.elim h
theorem args_rel (r1 : Rel K F1 H1 σ e1) (hO : OpdsR K F1 H1 σ e1 os vs) (ha : apart e1 os = true) (hu : os.any (fun o => isU (val o e1)) = false) : Rel K F1 H1 (vs.map some) (os.map (val · e1)) := by
  have hlen := hO.len
  refine ⟨r1.sub, fun j => ?_, fun j l a h1 h2 h3 h4 => ?_⟩
  · rw [get_map]
    cases q : os[j]? with
    | none => trivial
    | some o =>
      have hj : j < vs.length := by rw [← hlen]; exact (List.getElem?_eq_some_iff.mp q).1
      obtain ⟨v, hv⟩ : ∃ v, vs[j]? = some v := ⟨_, List.getElem?_eq_getElem hj⟩
      have ho := hO.at q hv
      rw [some_get.mpr hv]
      cases o with
      | x i =>
        have := r1.slot i
        rw [show σ[i]? = some (some v) from ho] at this
        exact this
      | v w =>
        show SlotR K F1 H1 w (some (some v))
        have ho : ResR K F1 H1 σ e1 w v := ho
        cases w with
        | u => trivial
        | k _ => exact ho
        | d x => exact ⟨v, rfl, ho⟩
        | c xs =>
          obtain ⟨a, ws, q1, q2, q3, q4, _⟩ := ho
          exact ⟨a, ws, by rw [q1], q2, q3, q4⟩
  · rw [some_get] at h3 h4
    rcases own_arg h1 with ⟨i, g1, g2⟩ | ⟨w, g1, g2⟩
    · have s1 : σ[i]? = some (some (.ref a)) := hO.at g1 h3
      rcases own_arg h2 with ⟨m, g3, g4⟩ | ⟨w, g3, g4⟩
      · have s2 : σ[m]? = some (some (.ref a)) := hO.at g3 h4
        have e2 := r1.sep i m a g2 g4 s1 s2
        subst e2
        rcases Nat.lt_trichotomy j l with z | z | z
        · rw [apart_at ha z g1 g3] at g2; cases g2
        · exact z
        · rw [apart_at ha z g3 g1] at g2; cases g2
      · have rw' := hO.at g3 h4
        obtain ⟨xs, rfl⟩ := own_v rw' g4
        obtain ⟨b, ws, q1, _, _, _, q5⟩ := rw'
        cases q1
        exact absurd ⟨i, g2, s1⟩ q5
    · have rw' := hO.at g1 h3
      obtain ⟨xs, rfl⟩ := own_v rw' g2
      rcases own_arg h2 with ⟨m, g3, g4⟩ | ⟨w, g3, g4⟩
      · have s2 : σ[m]? = some (some (.ref a)) := hO.at g3 h4
        obtain ⟨b, ws, q1, _, _, _, q5⟩ := rw'
        cases q1
        exact absurd ⟨m, g4, s2⟩ q5
      · have rw2 := hO.at g3 h4
        obtain ⟨ys, rfl⟩ := own_v rw2 g4
        rcases Nat.lt_trichotomy j l with z | z | z
        · exact absurd h4 (hO.two z g1 g3 h3)
        · exact z
        · exact absurd h3 (hO.two z g3 g1 h4)
theorem call_post (p1 : Post K F H σ e F1 H1 σ e1) (hO : OpdsR K F1 H1 σ e1 os vs) (hF : FromOs H σ e os vs) (ha : apart e1 os = true) (hz : outs.length = os.length)
    {w : V} {v : L2.V} (p2 : Post K F1 H1 (vs.map some) (os.map (val · e1)) F2 H2 (vs.map some) outs) (hr : ResR K F2 H2 (vs.map some) outs w v) (hf : From H1 (vs.map some) (os.map (val · e1)) w v) :
    Post K F H σ e F2 H2 σ (putBack e1 os outs e1) ∧ ResR K F2 H2 σ (putBack e1 os outs e1) w v ∧ From H σ e w v := by
  have r1 := p1.rel
  have slotOf := fun i => get_putBack (e0 := e1) (os := os) (outs := outs) (e := e1) i hz.symm rfl ha
  have atV : ∀ {j : Nat} {o : Opd}, os[j]? = some o → ∃ u, vs[j]? = some u ∧ OpdR K F1 H1 σ e1 o u := fun {j o} q => by
    have hj : j < vs.length := by rw [← hO.len]; exact (List.getElem?_eq_some_iff.mp q).1
    exact ⟨_, List.getElem?_eq_getElem hj, hO.at q (List.getElem?_eq_getElem hj)⟩
  -- an own argument is one's own ahead, or new
  have ownArg : ∀ a, Own (vs.map some) (os.map (val · e1)) a → H a = none ∨ Own σ e a := fun a ⟨j, h1, h2⟩ => by
    rw [some_get] at h2
    rcases own_arg h1 with ⟨i, g1, g2⟩ | ⟨u, g1, g2⟩
    · have s1 : σ[i]? = some (some (.ref a)) := hO.at g1 h2
      rcases p1.own a ⟨i, g2, s1⟩ with z | z
      · exact .inr z
      · exact .inl z
    · obtain ⟨xs, rfl⟩ := own_v (hO.at g1 h2) g2
      exact hF j _ _ g1 h2 a rfl
  -- a list of one's own that isn't handed in
  have notArg : ∀ i a, isOwn (get e1 i) = true → σ[i]? = some (some (.ref a)) → (∀ j : Nat, os[j]? = some (Opd.x i) → isOwn (get e1 i) = false) → ¬ Own (vs.map some) (os.map (val · e1)) a := fun i a h1 h2 h3 ⟨j, h4, h5⟩ => by
    rw [some_get] at h5
    rcases own_arg h4 with ⟨m, g1, g2⟩ | ⟨u, g1, g2⟩
    · have s1 : σ[m]? = some (some (.ref a)) := hO.at g1 h5
      have := r1.sep i m a h1 g2 h2 s1
      subst this
      rw [h3 j g1] at h1; cases h1
    · have rr := hO.at g1 h5
      obtain ⟨xs, rfl⟩ := own_v rr g2
      obtain ⟨b, ws, q1, _, _, _, q5⟩ := rr
      cases q1
      exact q5 ⟨i, h1, h2⟩
  -- what is one's own behind
  have ownB : ∀ i a, isOwn (get (putBack e1 os outs e1) i) = true → σ[i]? = some (some (.ref a)) →
      isOwn (get e1 i) = true ∧ ((∃ j : Nat, os[j]? = some (Opd.x i) ∧ vs[j]? = some (.ref a) ∧ isOwn (get outs j) = true) ∨ (∀ j : Nat, os[j]? = some (Opd.x i) → isOwn (get e1 i) = false)) := fun i a h1 h2 => by
    rcases slotOf i with ⟨j, o, g1, g2, g3, g4⟩ | ⟨g1, g2⟩
    · rw [g4] at h1
      obtain ⟨u, hu, su⟩ := atV g1
      have su : σ[i]? = some (some u) := su
      rw [h2] at su; cases su
      exact ⟨g2, .inl ⟨j, g1, hu, by rw [get_outs g3]; exact h1⟩⟩
    · rw [g2] at h1
      exact ⟨h1, .inr g1⟩
  have rel2 : Rel K F2 H2 σ (putBack e1 os outs e1) := by
    refine ⟨p2.rel.sub, fun i => ?_, fun i m a h1 h2 h3 h4 => ?_⟩
    · rcases slotOf i with ⟨j, o, g1, g2, g3, g4⟩ | ⟨g1, g2⟩
      · rw [g4]
        obtain ⟨u, hu, su⟩ := atV g1
        have su : σ[i]? = some (some u) := su
        have := p2.rel.slot j
        rw [get_outs g3, some_get.mpr hu] at this
        rw [su]; exact this
      · rw [g2]
        have q := r1.slot i
        have na := notArg i
        revert q na g1
        cases get e1 i with
        | u => exact fun _ q _ => q
        | k _ => exact fun _ q _ => q
        | d x => rintro g1 ⟨u, q1, q2⟩ na; exact ⟨u, q1, p2.grow.rp _ _ q2⟩
        | c xs =>
          rintro g1 ⟨a, ws, q1, q2, q3, q4⟩ na
          have n := na a rfl q1 g1
          refine ⟨a, ws, q1, p2.keep a _ q2 n, ?_, p2.grow.rpAll _ _ q4⟩
          cases z : F2 a with
          | none => rfl
          | some u =>
            rcases p2.new a (by rw [z]; simp) with z | z | z
            · exact absurd q3 z
            · rw [q2] at z; cases z
            · exact absurd z n
    · exact r1.sep i m a (ownB i a h1 h3).1 (ownB m a h2 h4).1 h3 h4
  have post : Post K F H σ e F2 H2 σ (putBack e1 os outs e1) := by
    refine ⟨p1.grow.trans p2.grow, rel2, fun a o h n => ?_, fun a h => ?_, fun a h => p1.dom a (p2.dom a h), fun a ⟨i, h1, h2⟩ => ?_⟩
    · refine p2.keep a o (p1.keep a o h n) fun z => ?_
      rcases ownArg a z with z | z
      · rw [h] at z; cases z
      · exact n z
    · rcases p2.new a h with z | z | z
      · exact p1.new a z
      · exact .inr (.inl (p1.dom a z))
      · exact .inr (ownArg a z)
    · exact p1.own a ⟨i, (ownB i a h1 h2).1, h2⟩
  refine ⟨post, ?_, ?_⟩
  · cases w with
    | u => exact hr
    | k _ => exact hr
    | d x => exact hr
    | c xs =>
      obtain ⟨a, ws, q1, q2, q3, q4, q5⟩ := hr
      refine ⟨a, ws, q1, q2, q3, q4, fun ⟨i, h1, h2⟩ => ?_⟩
      obtain ⟨g1, ⟨j, g2, g3, g4⟩ | g2⟩ := ownB i a h1 h2
      · exact q5 ⟨j, g4, some_get.mpr g3⟩
      · rcases hf a q1 with z | z
        · obtain ⟨_, o, ho⟩ := r1.own ⟨i, g1, h2⟩
          rw [z] at ho; cases ho
        · exact notArg i a g1 h2 g2 z
  · cases w with
    | c xs =>
      intro a ha'
      rcases hf a ha' with z | z
      · exact .inl (p1.dom a z)
      · exact ownArg a z
    | _ => trivial
end
section
variable {N : List Str} {sc : Scope} {CX : CXT} {φ : Orc}
theorem se_call {f : String} {x : Str} {p pos : Pos} {ex : Expr} {es : List Expr} {as : Es} (hc0 : isCon f = none) (hx : x = Str.ofString f) (hg : sc.names.lookup x = some .globalImplicit) (hd : plainName x = true) (hs : noStars (ex :: es) = true)
    (h : SOs N sc CX (ex :: es) φ (evalOs φ as)) : SE N sc CX (.Call (.Name x p) (ex :: es) [] pos) φ (evalE φ (.call f as)) := by
  intro X G e w e' hr F H σ Q rel k
  simp only [evalE] at hr
  obtain ⟨⟨os, e1⟩, r1, r2⟩ := bind_inv hr
  unfold callE at r2
  dsimp only at r2
  split at r2
  case isFalse => cases r2
  rename_i hc
  simp only [Bool.and_eq_true, Bool.not_eq_true'] at hc
  obtain ⟨⟨w2, outs⟩, r3, r4⟩ := bind_inv r2
  dsimp only at r4
  split at r4
  case isFalse => cases r4
  rename_i hz
  cases r4
  obtain ⟨g, fd, ps, lv, FG, hroom, hm, hk, hb⟩ := G.fn f _ _ hc0 r3
  unfold plainName at hd
  simp only [Bool.and_eq_true, Bool.not_eq_true'] at hd
  simp only [noStars, Bool.and_eq_true] at hs
  subst hx
  have run : RA X (ex :: es) σ H (fun vs H1 => SpOf X.K φ f vs H1 Q fun _ _ _ => False) :=
    h X G e os e1 r1 F H σ _ rel fun vs F1 H1 p1 o1 f1 => ⟨_, w, outs, F1, r3, by rw [List.length_map]; exact o1.len.symm, args_rel p1.rel o1 hc.1 hc.2, fun v F2 H2 p2 q2 q3 => by
      obtain ⟨z1, z2, z3⟩ := call_post p1 o1 f1 hc.1 hz p2 q2 q3
      exact k v F2 H2 z1 z2 z3⟩
  intro pins s I
  refine wpAny_Call_Name_kw (ld_glob I (G.gl hg) hm ?_ hd.1)
  refine PySem.W.callWith_K (h₀ := X.base) I.ok.mod.kin hk (thn (run pos pins s I) fun us s1 hq => ?_) (star_of hs.1) (plain_of hs.2)
  obtain ⟨vs, H1, I1, r, q⟩ := hq
  refine ⟨I1.kIn, ?_⟩
  have hl : us.length = ps.length := by rw [← r.length]; exact FG.cnt _ _ _ _ q
  have bt := hb s1 us I1.kIn (by rw [List.append_nil]; exact hl)
  rw [List.append_nil] at bt
  refine wpAny_call (codeAny_mono (FG.go X.A X.stack s1 H1 ⟨us, []⟩ us vs Q _ G.guards hroom I1.env0 bt r q) fun res s2 hc2 => ?_)
  cases res with
  | error er => exact absurd hc2 (G.cx _ _ _ _ _)
  | ok fl =>
    cases fl with
    | ret u => exact I1.after hc2
    | next => exact hc2.elim
    | brk => exact hc2.elim
    | cont => exact hc2.elim
/-- a constant of the module -/
theorem se_con {f s : String} {x : Str} {pos : Pos} (hc : isCon f = some s) (hx : x = Str.ofString s) (hg : sc.names.lookup x = some .globalImplicit) (hd : plainName x = true) : SE N sc CX (.Name x pos) φ (evalE φ (.call f .nil)) := by
  intro X G e w e' hr F H σ Q rel k
  simp only [evalE, evalOs, R.bind_ok] at hr
  unfold callE at hr
  split at hr
  case isFalse => cases hr
  obtain ⟨⟨w2, outs⟩, r3, r4⟩ := bind_inv hr
  dsimp only at r4
  split at r4
  case isFalse => cases r4
  rename_i hz
  cases r4
  obtain ⟨d, v, u, hp, hm, rv, rp⟩ := G.con f s _ _ hc r3
  have hp : w = V.d d := hp
  subst hp
  subst hx
  have e0 : putBack e [] outs e = e := by cases outs <;> rfl
  unfold plainName at hd
  simp only [Bool.and_eq_true, Bool.not_eq_true'] at hd
  exact RE.of (pe_glob (G.gl hg) hm rv hd.1) (k v F H (by rw [e0]; exact Post.refl rel) (rp F) trivial)
end
end Sw
end T_SwE
section T_SwF
set_option autoImplicit false
set_option linter.all false
set_option Elab.async false
set_option maxRecDepth 100000
/-! SwF: operators of one operand. -/
namespace Sw
open PySem L2

/-- what is wanted of an operator's value, from its operands on -/
def Cont (K : Frag) (F H : Hp) (σ : L2.St) (e : Env) (w : V) (Q : VK) : Prop :=
  ∀ v F' H', Post K F H σ e F' H' σ e → ResR K F' H' σ e w v → From H σ e w v → Q v H'
section
variable {K : Frag} {F H : Hp} {σ : L2.St} {e : Env} {Q : VK} {x : D}
theorem Cont.val (k : Cont K F H σ e (.d x) Q) (r : Rel K F H σ e) {v : L2.V} (d : Rp K F v x) : Q v H := k v F H (Post.refl r) d trivial
theorem Cont.int {i : Int} (k : Cont K F H σ e (.d (.int i)) Q) (r : Rel K F H σ e) : Q (.int i) H := k.val r (.int i)
theorem Cont.bl {i : Bool} (k : Cont K F H σ e (.d (.bool i)) Q) (r : Rel K F H σ e) : Q (.bl i) H := k.val r (.bl i)
theorem Cont.str {i : Str} (k : Cont K F H σ e (.d (.str i)) Q) (r : Rel K F H σ e) : Q (.str i) H := k.val r (.str i)
theorem Cont.lst {xs : List D} {vs : List L2.V} (k : Cont K F H σ e (.c xs) Q) (r : Rel K F H σ e) (d : RpAll K F vs xs) {p : Addr} (hp : H p = none) : Q (.ref p) (upd H p (.lst vs)) := by
  obtain ⟨q1, q2, q3⟩ := fresh_res (Post.refl r) hp d
  exact k _ _ _ q1 q2 q3
theorem Cont.tup {xs : List D} {vs : List L2.V} (k : Cont K F H σ e (.d (.tuple xs)) Q) (r : Rel K F H σ e) (d : RpAll K F vs xs) {p : Addr} {o : Obj} (hp : H p = none) (ho : o.dict = none) : Q (.ref p) (upd H p (.frz o (.tup vs))) := by
  obtain ⟨q1, q2⟩ := data_res (Post.refl r) hp ho d
  exact k _ _ _ q1 q2 trivial
end
section
variable {N : List Str} {sc : Scope} {CX : CXT} {φ : Orc} {ex big : Expr}
/-- an operator's rule -/
def A1 (N : List Str) (sc : Scope) (CX : CXT) (φ : Orc) (o : O1) (ex big : Expr) : Prop :=
  ∀ X, Good N sc CX X φ → ∀ σ H (Q : VK) x w, op1 o x = some w →
    RE X ex σ H (fun v H1 => ∃ F e, Rel X.K F H1 σ e ∧ VwR X.K F H1 v x ∧ Cont X.K F H1 σ e w Q) → RE X big σ H Q
theorem ret1_inv {o : Option V} {e : Env} {w : V} {e' : Env} (h : ret1 o e = .ok (w, e')) : o = some w ∧ e' = e := by
  cases o with
  | none => cases h
  | some v => cases h; exact ⟨rfl, rfl⟩
theorem se_o1 {o : O1} {a : E} (so : SO N sc CX ex φ (opW (evalE φ a) a)) (r : A1 N sc CX φ o ex big) : SE N sc CX big φ (evalE φ (.o1 o a)) := by
  intro X G e w e' hr F H σ Q rel k
  simp only [evalE] at hr
  obtain ⟨⟨oa, e1⟩, r1, r2⟩ := bind_inv hr
  obtain ⟨x, r3, r4⟩ := bind_inv r2
  obtain ⟨r5, rfl⟩ := ret1_inv r4
  refine r X G σ H Q x w r5 ?_
  refine so X G e oa _ r1 F H σ _ rel fun v F1 H1 p1 o1 _ => ?_
  exact ⟨F1, _, p1.rel, o1.view p1.rel (ofO_inv r3), fun v' F' H' p2 q2 f2 => k v' F' H' (p1.trans p2) q2 (From.trans p1 f2)⟩

/-! ### a call of a built-in by its name -/
def GlS (sc : Scope) (x : Str) : Prop := sc.names.lookup x = some .globalImplicit
theorem pe_blt1 {X : Cx} {id : String} {r : List L2.V → Hp → VK → Prop} {b : String} {p pos : Pos} (G : Good N sc CX X φ) (hb : b ∈ blts) (hc : CallR X (.builtin id) r) (hg : GlS sc (Str.ofString b)) (hv : bootBuiltins (Str.ofString b) = some (.builtin id))
    (hn : Str.ofString b ≠ "__name__" ∧ (Str.ofString b == ("__debug__" : Str)) = false) (hs : noStar ex = true) :
    PE X (.Call (.Name (Str.ofString b) p) [ex] [] pos) (fun σ H Q => RE X ex σ H fun v H1 => r [v] H1 Q) :=
  pe_callB hc (G.gl hg) (G.blt b hb) hv (pa_cons (peE ex) pa_nil (star_of hs)) hn.1 hn.2 (star_of hs) rfl
theorem pe_type1 {X : Cx} {id : String} {r : List L2.V → Hp → VK → Prop} {b : String} {p pos : Pos} (G : Good N sc CX X φ) (hb : b ∈ blts) (hc : CallR X (.type id) r) (hg : GlS sc (Str.ofString b)) (hv : bootBuiltins (Str.ofString b) = some (.type id))
    (hn : Str.ofString b ≠ "__name__" ∧ (Str.ofString b == ("__debug__" : Str)) = false) (hs : noStar ex = true) :
    PE X (.Call (.Name (Str.ofString b) p) [ex] [] pos) (fun σ H Q => RE X ex σ H fun v H1 => r [v] H1 Q) :=
  pe_callTy hc (G.gl hg) (G.blt b hb) hv (pa_cons (peE ex) pa_nil (star_of hs)) hn.1 hn.2 (star_of hs) rfl
theorem RE.live {X : Cx} {σ : L2.St} {H : Hp} {Q : VK} (h : RE X ex σ H Q) : RE X ex σ H fun v H' => Live X σ H' ∧ Q v H' := fun pins s I =>
  thn (h pins s I) fun u s' ⟨v, H', I', r, q⟩ => ⟨v, H', I', r, ⟨pins, s', I'⟩, q⟩
theorem A1.mk {o : O1} {r : Cx → L2.V → Hp → VK → Prop} (pe : ∀ X, Good N sc CX X φ → PE X big fun σ H Q => RE X ex σ H fun v H1 => r X v H1 Q)
    (step : ∀ X, Good N sc CX X φ → ∀ σ H F e (Q : VK) x w v, op1 o x = some w → Live X σ H → Rel X.K F H σ e → VwR X.K F H v x → Cont X.K F H σ e w Q → r X v H Q) : A1 N sc CX φ o ex big := by
  intro X G σ H Q x w hw h
  refine RE.of (pe X G) (RE.mono (RE.live h) fun v H1 ⟨l, F, e, rel, vw, k⟩ => ?_)
  exact step X G σ H1 F e Q x w v hw l rel vw k

theorem a1_neg {pos : Pos} : A1 N sc CX φ .neg ex (.UnaryOp .USub ex pos) := by
  refine A1.mk (r := fun X v H Q => rU (fun i => .int (-i)) v H Q) (fun X G => pe_un un_neg (peE ex)) fun X G σ H F e Q x w v hw l rel vw k => ?_
  cases x <;> first | (cases hw; done) | skip
  cases hw
  exact ⟨_, vw.int, k.int rel⟩
theorem a1_len {p pos : Pos} (hg : GlS sc (Str.ofString "len")) (hs : noStar ex = true) : A1 N sc CX φ .len ex (.Call (.Name (Str.ofString "len") p) [ex] [] pos) := by
  refine A1.mk (fun X G => pe_blt1 G (by decide) call_len hg PySem.boot_len (by decide +kernel) hs) fun X G σ H F e Q x w v hw l rel vw k => ?_
  cases x <;> first | (cases hw; done) | skip
  · simp only [op1] at hw
    split at hw
    · rename_i hz
      cases hw
      cases vw.str
      exact ⟨_, _, rfl, ⟨hz, rfl⟩, k.int rel⟩
    · cases hw
  · cases hw
    obtain ⟨a, vs, rfl, h1, h2⟩ := vw.list rel.sub
    exact ⟨_, vs.length, rfl, .inl ⟨vs, h1, rfl⟩, by rw [rpAll_len h2]; exact k.int rel⟩
  · cases hw
    obtain ⟨a, vs, rfl, h1, h2⟩ := vw.tup rel.sub
    exact ⟨_, vs.length, rfl, .inr ⟨vs, rel.sub.sqT h1.sq, rfl⟩, by rw [rpAll_len h2]; exact k.int rel⟩
theorem call_tupleF {X : Cx} : CallR X (.type "tuple") fun xs H Q => ∃ p ys, xs = [.ref p] ∧ ((SqL X.K H p ys ∧ ∀ l o, H l = none → o.dict = none → Q (.ref l) (upd H l (.frz o (.tup ys)))) ∨ (SqT X.K H p ys ∧ Q (.ref p) H)) := by
  intro pins s σ H xs us Q I r h
  obtain ⟨p, ys, rfl, hq⟩ := h
  rcases hq with ⟨hq, q⟩ | hq
  · rw [Vals.ref1 r]
    obtain ⟨its, r', pl, hz⟩ := I.list hq
    have hlen := r'.length
    refine call_tuple_list pl.isList (fun h' kp => ?_) (by rw [List.size_toArray, ← hlen]; exact hz)
    have I1 : Inv X pins σ H { s with heap := h' } := I.kept (t' := s.toks) kp
    have get := Heap.get?_push_size h' (o := { cls := .type "tuple", data := .seq its.toArray }) rfl
    exact ⟨.ref h'.objs.size, _, I1.laid (o := .frz { cls := .type "tuple", data := .seq its.toArray } (.tup ys)) (t' := s.toks) (fun b o e => Heap.get?_push_of_some _ e) (Nat.le_refl _) ⟨get, hz, its, r', _, get, rfl, _, rfl⟩, rfl, q h'.objs.size { cls := .type "tuple", data := .seq its.toArray } (I1.hok.fresh (Nat.le_refl _)) rfl⟩
  · exact call_tuple_of pins s σ H _ us Q I r ⟨p, ys, rfl, .inr hq⟩
theorem a1_tuple {p pos : Pos} (hg : GlS sc (Str.ofString "tuple")) (hs : noStar ex = true) : A1 N sc CX φ .tupleOf ex (.Call (.Name (Str.ofString "tuple") p) [ex] [] pos) := by
  refine A1.mk (fun X G => pe_type1 G (by decide) call_tupleF hg PySem.Pv.boot_tuple (by decide +kernel) hs) fun X G σ H F e Q x w v hw l rel vw k => ?_
  cases x <;> first | (cases hw; done) | skip
  · cases hw
    obtain ⟨a, vs, rfl, h1, h2⟩ := vw.list rel.sub
    exact ⟨a, vs, rfl, .inl ⟨h1, fun p o hp ho => k.tup rel h2 hp ho⟩⟩
  · cases hw
    obtain ⟨a, vs, rfl, h1, h2⟩ := vw.tup rel.sub
    exact ⟨a, vs, rfl, .inr ⟨rel.sub.sqT h1.sq, k.val rel (.tup h1 h2)⟩⟩
theorem a1_list {p pos : Pos} (hg : GlS sc (Str.ofString "list")) (hs : noStar ex = true) : A1 N sc CX φ .listOf ex (.Call (.Name (Str.ofString "list") p) [ex] [] pos) := by
  refine A1.mk (fun X G => pe_type1 G (by decide) call_list_of hg PySem.Pv.boot_list (by decide +kernel) hs) fun X G σ H F e Q x w v hw l rel vw k => ?_
  cases x <;> first | (cases hw; done) | skip
  · cases hw
    obtain ⟨a, vs, rfl, h1, h2⟩ := vw.list rel.sub
    exact ⟨a, vs, rfl, .inl h1, fun p hp => k.lst rel h2 hp⟩
  · cases hw
    obtain ⟨a, vs, rfl, h1, h2⟩ := vw.tup rel.sub
    exact ⟨a, vs, rfl, .inr (rel.sub.sqT h1.sq), fun p hp => k.lst rel h2 hp⟩
/-! ### sum of a tuple -/
theorem sum_tup {prog : Program} {w : World} {A : Around} {E : Value → Shared → Prop} {s : Shared} {l : Addr} {its : List Value} {ns : List Int} {Q : Value → Shared → Prop} (hh : A.handled = none) (hl : PyProof.Rows.IsTup s.heap l its.toArray)
    (hi : PyProof.Rows.IntsAre its ns) (h : ∀ h' tk t', (∀ b o, s.heap.get? b = some o → h'.get? b = some o) → Q (.int ns.sum t') { s with heap := h', toks := tk }) :
    wpAny (model prog w) A (call (.builtin "sum") [.ref l]) Q E s := by
  obtain ⟨xs, e⟩ := hi.allInts.items
  have hn : numsOf (intItems xs).toList = ns := by rw [← e]; exact hi.numsOf
  rw [nums_intItems] at hn
  rw [e] at hl
  have hl' : s.heap.IsTuple l (intItems xs) := hl
  have hlt : l < s.heap.objs.size := hl.lt
  refine call_sum_walkG (wpAny_pyIter_tuple hl' ?_)
  refine ⟨s.heap.objs.size, _, _, _, _, _, numAt xs, rfl, Walks.tuple (A := A.in1) hh _ l (Nat.ne_of_lt hlt) (intItems xs), ⟨⟨_, Heap.get?_push_size _ rfl, rfl, rfl⟩, hl'.at fun o q => Heap.get?_push_of_some _ q⟩, fun b hb => ?_, fun _ _ => intItems_at, fun h' tk t' hk => ?_⟩
  · show b < (s.heap.push _).objs.size
    rw [Heap.size_push]
    simp only [List.mem_cons, List.not_mem_nil, or_false] at hb
    rcases hb with rfl | rfl
    · exact Nat.lt_succ_self _
    · exact Nat.lt_succ_of_lt hlt
  · have := h h' tk t' fun b o q => hk b o (by simp only [List.mem_cons, List.not_mem_nil, or_false]; exact Nat.ne_of_lt (Heap.lt_size q)) (Heap.get?_push_of_some _ q)
    have hz : (intItems xs).size = xs.size := by simp [intItems]
    rw [hz, preSum_eq, List.take_of_length_le (by simp), hn]
    exact this
theorem cr_sum2 (X : Cx) (hc : X.calm = true) : CallR X (.builtin "sum") fun xs H Q => ∃ (a : Addr) (ns : List Int), xs = [L2.V.ref a] ∧ (SqL X.K H a (ns.map L2.V.int) ∨ SqT X.K H a (ns.map L2.V.int)) ∧ Q (.int ns.sum) H := by
  intro pins s σ H vs us Q I r h
  obtain ⟨a, ns, rfl, hs, q⟩ := h
  rcases hs with hs | hs
  · exact cr_sum hc pins s σ H _ us Q I r ⟨a, ns, rfl, hs, q⟩
  · obtain ⟨its, rv, hl, _⟩ := I.tuple hs
    rw [Vals.ref1 r]
    exact sum_tup (I.ok.hd hc) hl rv.ints fun h' tk t' hk => ⟨.int _, H, I.kept hk, ⟨_, rfl⟩, q⟩
theorem a1_sum {p pos : Pos} (hg : GlS sc (Str.ofString "sum")) (hs : noStar ex = true) : A1 N sc CX φ .sum ex (.Call (.Name (Str.ofString "sum") p) [ex] [] pos) := by
  refine A1.mk (fun X G => pe_blt1 G (by decide) (cr_sum2 X G.calm) hg PyProof.Rows.boot_sum (by decide +kernel) hs) fun X G σ H F e Q x w v hw l rel vw k => ?_
  cases x <;> first | (cases hw; done) | skip
  · simp only [op1, Option.map_eq_some_iff] at hw
    obtain ⟨ns, h0, rfl⟩ := hw
    obtain ⟨a, vs, rfl, h1, h2⟩ := vw.list rel.sub
    rw [ints_eq h0] at h2
    have hv := vs_ints h2
    subst hv
    exact ⟨a, ns, rfl, .inl h1, k.int rel⟩
  · simp only [op1, Option.map_eq_some_iff] at hw
    obtain ⟨ns, h0, rfl⟩ := hw
    obtain ⟨a, vs, rfl, h1, h2⟩ := vw.tup rel.sub
    rw [ints_eq h0] at h2
    have hv := vs_ints h2
    subst hv
    exact ⟨a, ns, rfl, .inr (rel.sub.sqT h1.sq), k.int rel⟩
theorem minL_spec : ∀ (r : List Int) (n : Int), (r.foldl (fun a b => if b < a then b else a) n ∈ n :: r) ∧ ∀ y ∈ n :: r, r.foldl (fun a b => if b < a then b else a) n ≤ y
  | [], n => ⟨by simp, by simp⟩
  | m :: r, n => by
    obtain ⟨h1, h2⟩ := minL_spec r (if m < n then m else n)
    simp only [List.foldl_cons]
    refine ⟨?_, fun y hy => ?_⟩
    · rcases List.mem_cons.mp h1 with z | z
      · rw [z]; split <;> simp
      · exact List.mem_cons_of_mem _ (List.mem_cons_of_mem _ z)
    · have h3 := h2 _ List.mem_cons_self
      rcases List.mem_cons.mp hy with z | z
      · rw [z]; generalize (r.foldl _ _) = f at h3 ⊢; split at h3 <;> omega
      · rcases List.mem_cons.mp z with z | z
        · rw [z]; generalize (r.foldl _ _) = f at h3 ⊢; split at h3 <;> omega
        · exact h2 y (List.mem_cons_of_mem _ z)
theorem maxL_spec : ∀ (r : List Int) (n : Int), (r.foldl (fun a b => if a < b then b else a) n ∈ n :: r) ∧ ∀ y ∈ n :: r, y ≤ r.foldl (fun a b => if a < b then b else a) n
  | [], n => ⟨by simp, by simp⟩
  | m :: r, n => by
    obtain ⟨h1, h2⟩ := maxL_spec r (if n < m then m else n)
    simp only [List.foldl_cons]
    refine ⟨?_, fun y hy => ?_⟩
    · rcases List.mem_cons.mp h1 with z | z
      · rw [z]; split <;> simp
      · exact List.mem_cons_of_mem _ (List.mem_cons_of_mem _ z)
    · have h3 := h2 _ List.mem_cons_self
      rcases List.mem_cons.mp hy with z | z
      · rw [z]; generalize (r.foldl _ _) = f at h3 ⊢; split at h3 <;> omega
      · rcases List.mem_cons.mp z with z | z
        · rw [z]; generalize (r.foldl _ _) = f at h3 ⊢; split at h3 <;> omega
        · exact h2 y (List.mem_cons_of_mem _ z)
theorem a1_min {p pos : Pos} (hg : GlS sc (Str.ofString "min")) (hs : noStar ex = true) : A1 N sc CX φ .minOf ex (.Call (.Name (Str.ofString "min") p) [ex] [] pos) := by
  refine A1.mk (fun X G => pe_blt1 G (by decide) (cr_min G.calm) hg PyProof.Rows.boot_min (by decide +kernel) hs) fun X G σ H F e Q x w v hw l rel vw k => ?_
  cases x <;> first | (cases hw; done) | skip
  simp only [op1, Option.bind_eq_some_iff, Option.map_eq_some_iff] at hw
  obtain ⟨ns, h0, m, hm, rfl⟩ := hw
  obtain ⟨a, vs, rfl, h1, h2⟩ := vw.list rel.sub
  rw [ints_eq h0] at h2
  have hv := vs_ints h2
  subst hv
  cases ns with
  | nil => cases hm
  | cons n r =>
    cases hm
    refine ⟨a, n :: r, rfl, h1, by simp, fun m' i1 i2 => ?_⟩
    obtain ⟨j1, j2⟩ := minL_spec r n
    have : m' = r.foldl (fun a b => if b < a then b else a) n := by
      have := i2 _ j1
      have := j2 _ i1
      omega
    rw [this]; exact k.int rel
theorem a1_max {p pos : Pos} (hg : GlS sc (Str.ofString "max")) (hs : noStar ex = true) : A1 N sc CX φ .maxOf ex (.Call (.Name (Str.ofString "max") p) [ex] [] pos) := by
  refine A1.mk (fun X G => pe_blt1 G (by decide) (cr_max G.calm) hg PyProof.Rows.boot_max (by decide +kernel) hs) fun X G σ H F e Q x w v hw l rel vw k => ?_
  cases x <;> first | (cases hw; done) | skip
  simp only [op1, Option.bind_eq_some_iff, Option.map_eq_some_iff] at hw
  obtain ⟨ns, h0, m, hm, rfl⟩ := hw
  obtain ⟨a, vs, rfl, h1, h2⟩ := vw.list rel.sub
  rw [ints_eq h0] at h2
  have hv := vs_ints h2
  subst hv
  cases ns with
  | nil => cases hm
  | cons n r =>
    cases hm
    refine ⟨a, n :: r, rfl, h1, by simp, fun m' i1 i2 => ?_⟩
    obtain ⟨j1, j2⟩ := maxL_spec r n
    have : m' = r.foldl (fun a b => if a < b then b else a) n := by
      have := i2 _ j1
      have := j2 _ i1
      omega
    rw [this]; exact k.int rel
theorem a1_all {p pos : Pos} (hg : GlS sc (Str.ofString "all")) (hs : noStar ex = true) : A1 N sc CX φ .all ex (.Call (.Name (Str.ofString "all") p) [ex] [] pos) := by
  refine A1.mk (fun X G => pe_blt1 G (by decide) (cr_all G.calm) hg PyProof.Rows.boot_all (by decide +kernel) hs) fun X G σ H F e Q x w v hw l rel vw k => ?_
  cases x <;> first | (cases hw; done) | skip
  simp only [op1, Option.map_eq_some_iff] at hw
  obtain ⟨ns, h0, rfl⟩ := hw
  obtain ⟨a, vs, rfl, h1, h2⟩ := vw.list rel.sub
  rw [bools_eq h0] at h2
  have hv := vs_bools h2
  subst hv
  exact ⟨a, ns, rfl, h1, k.bl rel⟩
theorem a1_any {p pos : Pos} (hg : GlS sc (Str.ofString "any")) (hs : noStar ex = true) : A1 N sc CX φ .any ex (.Call (.Name (Str.ofString "any") p) [ex] [] pos) := by
  refine A1.mk (fun X G => pe_blt1 G (by decide) (cr_any G.calm) hg PyProof.Rows.boot_any (by decide +kernel) hs) fun X G σ H F e Q x w v hw l rel vw k => ?_
  cases x <;> first | (cases hw; done) | skip
  simp only [op1, Option.map_eq_some_iff] at hw
  obtain ⟨ns, h0, rfl⟩ := hw
  obtain ⟨a, vs, rfl, h1, h2⟩ := vw.list rel.sub
  rw [bools_eq h0] at h2
  have hv := vs_bools h2
  subst hv
  exact ⟨a, ns, rfl, h1, k.bl rel⟩
theorem a1_str {p pos : Pos} (hg : GlS sc (Str.ofString "str")) (hs : noStar ex = true) : A1 N sc CX φ .strOf ex (.Call (.Name (Str.ofString "str") p) [ex] [] pos) := by
  refine A1.mk (fun X G => pe_type1 G (by decide) call_str_int hg PySem.Pv.boot_str (by decide +kernel) hs) fun X G σ H F e Q x w v hw l rel vw k => ?_
  cases x <;> first | (cases hw; done) | skip
  simp only [op1] at hw
  split at hw
  · rename_i hz
    cases hw
    exact ⟨_, by rw [vw.int], hz, k.str rel⟩
  · cases hw
theorem a1_int {p pos : Pos} (hg : GlS sc (Str.ofString "int")) (hs : noStar ex = true) : A1 N sc CX φ .intOf ex (.Call (.Name (Str.ofString "int") p) [ex] [] pos) := by
  refine A1.mk (fun X G => pe_type1 G (by decide) call_int1 hg PySem.Pv.boot_int (by decide +kernel) hs) fun X G σ H F e Q x w v hw l rel vw k => ?_
  cases x <;> first | (cases hw; done) | skip
  · cases hw
    refine .inr ⟨_, by rw [vw.bool], ?_⟩
    exact k.int rel
  · cases hw
    exact .inl ⟨_, by rw [vw.int], k.int rel⟩
theorem a1_isNone {b : Bool} {j : Nat} {pos p2 : Pos} : A1 N sc CX φ (.isNone b) ex (.Compare ex [if b then .Is else .IsNot] [.Constant .none j p2] pos) := by
  refine A1.mk (r := fun X v H Q => Q (.bl (if b then decide (v = .non) else !decide (v = .non))) H) (fun X G => ?_) fun X G σ H F e Q x w v hw l rel vw k => ?_
  · cases b
    · exact pe_cmp (pc_notN (peE ex)) rfl
    · exact pe_cmp (pc_isN (peE ex)) rfl
  · have hv : decide (v = .non) = (match x with | .none => true | _ => false) := by
      rcases vw with h | ⟨a, vs, xs, rfl, rfl, _⟩
      · cases h <;> rfl
      · rfl
    rw [hv]
    cases x <;> cases hw <;> cases b <;> exact k.bl rel
theorem a1_isBool {y b : Bool} {j : Nat} {pos p2 : Pos} : A1 N sc CX φ (.isBool y b) ex (.Compare ex [if b then .Is else .IsNot] [.Constant (.bool y) j p2] pos) := by
  refine A1.mk (r := fun X v H Q => if b then rIsB v (.bl y) H Q else rNotB v (.bl y) H Q) (fun X G => ?_) fun X G σ H F e Q x w v hw l rel vw k => ?_
  · cases b
    · exact pe_cmpR op_notBl (peE ex) pe_bl rfl
    · exact pe_cmpR op_isBl (peE ex) pe_bl rfl
  · cases x <;> first | (cases hw; done) | skip
    cases hw
    have hv := vw.bool
    subst hv
    cases b
    · refine ⟨_, _, rfl, rfl, ?_⟩
      have := k.bl rel
      rename_i z
      cases z <;> cases y <;> exact this
    · refine ⟨_, _, rfl, rfl, ?_⟩
      have := k.bl rel
      rename_i z
      cases z <;> cases y <;> exact this
theorem cr_repr (X : Cx) (hg : X.A.guards = some []) (hu : X.A.units + 200 < cLine) : CallR X (.builtin "repr") fun xs H Q => ∃ v x, xs = [v] ∧ L2.Dp X.K H v x ∧ x.showable = true ∧ x.depth ≤ 40 ∧ x.hasDict = false ∧ x.shown.length ≤ sizeLine ∧ Q (.str x.shown) H := by
  intro pins s σ H xs us Q I r h
  obtain ⟨v, x, rfl, d, h1, h2, h3, h4, q⟩ := h
  obtain ⟨u, rfl, rv⟩ := vals1 r
  obtain ⟨as, rd⟩ := Dp.reads I x _ u d rv
  have fin : ∀ (y : Str) (t : Tok), x.shown = y → EP X pins σ Q (.str y t) { s with toks := s.toks + 1 } := fun y t e => ⟨.str y, H, I.tok _, ⟨_, rfl⟩, by rw [← e]; exact q⟩
  have ref : ∀ a, u = .ref a → wpAny (model X.prog X.w) X.A (call (.builtin "repr") [u]) (EP X pins σ Q) X.xe s := fun a e => by
    subst e
    exact PySem.repr_of_reads' rd h1 (fun z => by rw [h3] at z; cases z) hg (by omega) (fun _ _ z => z) (fun h' t tk hk => ⟨.str x.shown, H, I.kept hk, ⟨_, rfl⟩, q⟩) h4
  cases rd with
  | none => exact PySem.P.repr_of_none (fin _ _ (by simp only [PyData.shown]))
  | bool b => exact PySem.P.repr_of_bool (fin _ _ (by simp only [PyData.shown]))
  | int i t => exact PySem.P.repr_of_int (by simpa [PyData.showable] using h1) (fin _ _ (by simp only [PyData.shown]))
  | str y t => exact PySem.P.repr_of_str (fin _ _ (by simp only [PyData.shown])) (by simpa only [PyData.shown] using h4)
  | list => exact ref _ rfl
  | tuple => exact ref _ rfl
  | dict => exact ref _ rfl
theorem a1_repr {p pos : Pos} (hg : GlS sc (Str.ofString "repr")) (hs : noStar ex = true) : A1 N sc CX φ .repr ex (.Call (.Name (Str.ofString "repr") p) [ex] [] pos) := by
  refine A1.mk (fun X G => pe_blt1 G (by decide) (cr_repr X G.guards G.units) hg PyProof.Rows.boot_repr (by decide +kernel) hs) fun X G σ H F e Q x w v hw l rel vw k => ?_
  simp only [op1] at hw
  split at hw
  · rename_i hc
    cases hw
    unfold okRepr at hc
    simp only [Bool.and_eq_true, decide_eq_true_eq] at hc
    obtain ⟨⟨⟨h1, h2⟩, h3⟩, h45⟩ := hc
    rw [Bool.or_eq_true, Bool.and_eq_true, Bool.and_eq_true, decide_eq_true_eq, decide_eq_true_eq] at h45
    refine ⟨v, x, rfl, vw.dp rel.sub, h1, h2, PyData.hasDict_of_canLay x h3, ?_, k.str rel⟩
    rcases h45.symm with ⟨h4, h5⟩ | ⟨h4, h5⟩
    · have len := PyData.shown_le 60 (by decide) x (PyData.leavesShort_of_canLay0 60 x h3 h5)
      have mul : (60 + 2) * x.weight ≤ 62 * 20000 := Nat.mul_le_mul (by decide) h4
      rw [sizeLine_eq]; omega
    have lay : PyData.layable0 x = true := by
      unfold PyData.layable0
      simp only [Bool.and_eq_true, decide_eq_true_eq]
      exact ⟨⟨h3, by omega⟩, h4⟩
    have len := PyProof.Rows.shown_le13 lay h5
    rw [sizeLine_eq]; omega
  · cases hw
end
end Sw
end T_SwF
section T_SwGa
set_option autoImplicit false
set_option linter.all false
set_option Elab.async false
set_option maxRecDepth 100000
set_option maxHeartbeats 4000000
/-! SwGa: a tuple so many times. -/
namespace Sw
open PySem PySem.Spec PyProof.Rows L2
theorem mulT_same (l : Addr) (items : Array Value) (n : Nat) (dd : Option Addr) (sl : Array (Option Value)) (x : Int) (u : Tok) (c0 : (decide (x < -(2 ^ 63)) || decide (x ≥ 2 ^ 63)) = false) (c1 : (items.isEmpty || x == 1) = true) :
    Meets (Builtin.«tuple.__mul__» ⟨[.ref l, .int x u], []⟩) (fun _ R s => s.heap.get? l = some { cls := .type "tuple", dict := dd, data := .seq items n, slots := sl } ∧ R (.ok (.ret (Value.ref l))) s) :=
  .of_wp fun prog w A R s h => by
    obtain ⟨hp, g, d, tk, os⟩ := s
    obtain ⟨hl, h⟩ := h
    have f1 := AutoSeq1.idx_int
    wp_walk using wpAny_loadPart' hl
    refine wpAny_ite_false (decide_eq_false (by rw [c0]; exact Bool.false_ne_true)) ?_
    wp_walk using wpAny_loadPart' hl
    exact ⟨_, rfl, h⟩
theorem mulT_none (l : Addr) (items : Array Value) (n : Nat) (dd : Option Addr) (sl : Array (Option Value)) (x : Int) (u : Tok) (c0 : (decide (x < -(2 ^ 63)) || decide (x ≥ 2 ^ 63)) = false) (c1 : (items.isEmpty || x == 1) = false) (c2 : (decide (x ≤ 0) || items.isEmpty) = true) :
    Meets (Builtin.«tuple.__mul__» ⟨[.ref l, .int x u], []⟩) (fun _ R s => s.heap.get? l = some { cls := .type "tuple", dict := dd, data := .seq items n, slots := sl } ∧
      R (.ok (.ret (Value.ref s.heap.objs.size))) { s with heap := s.heap.push { cls := Value.type "tuple", data := Data.seq #[] }, toks := s.toks }) :=
  .of_wp fun prog w A R s h => by
    obtain ⟨hp, g, d, tk, os⟩ := s
    obtain ⟨hl, h⟩ := h
    have f1 := AutoSeq1.idx_int
    wp_walk using wpAny_loadPart' hl
    refine wpAny_ite_false (decide_eq_false (by rw [c0]; exact Bool.false_ne_true)) ?_
    wp_walk using wpAny_loadPart' hl
    repeat (first
      | (refine wpAny_ite_false (decide_eq_false (by rw [c1]; exact Bool.false_ne_true)) ?_; wp_walk using wpAny_loadPart' hl)
      | (refine wpAny_ite_true (decide_eq_true c2) ?_; wp_walk using wpAny_loadPart' hl))
    exact ⟨_, rfl, h⟩
def rMulT (K : Frag) : R2 := fun x y H Q => ∃ l k xs, x = L2.V.ref l ∧ y = L2.V.int k ∧ SqT K H l xs ∧ 0 ≤ k ∧ k ≤ 1000 ∧ xs.length ≤ 1000 ∧
  ((xs = [] ∨ k = 1) → Q (.ref l) H) ∧ (¬ (xs = [] ∨ k = 1) → ∀ p o, H p = none → o.dict = none → Q (.ref p) (upd H p (.frz o (.tup (List.replicate k.toNat xs).flatten))))
theorem op_mulT {X : Cx} : OpR X (binaryOp .Mult) (rMulT X.K) := by
  intro pins s σ H x y v u Q I rx ry h
  obtain ⟨l, k, xs, rfl, rfl, hT, h0, h2, hz, q1, q2⟩ := h
  cases rx
  obtain ⟨t, rfl⟩ := ry
  obtain ⟨its, r, ⟨⟨cls, dd, data, sl⟩, ho, hc, n, hd⟩, hs⟩ := I.tuple hT
  simp only at hc hd
  subst hc hd
  have le : its.length = xs.length := r.length.symm
  have c0 : (decide (k < -(2 ^ 63)) || decide (k ≥ 2 ^ 63)) = false := by
    rw [decide_eq_false (by omega), decide_eq_false (by omega)] <;> rfl
  have emp : its.toArray.isEmpty = true ↔ xs = [] := by
    cases its with
    | nil =>
      have : xs = [] := List.eq_nil_of_length_eq_zero le.symm
      simp [this]
    | cons a b =>
      have : xs ≠ [] := fun e => by rw [e] at le; cases le
      simp [this]
  by_cases c : xs = [] ∨ k = 1
  · have c1 : (its.toArray.isEmpty || k == 1) = true := by
      rw [Bool.or_eq_true]
      rcases c with z | z
      · exact .inl (emp.mpr z)
      · exact .inr (by rw [z]; rfl)
    refine wpAny_binaryOp_repeat_ref (T := "tuple") (U := "int") (by decide) ⟨_, ho, rfl⟩ (fun s' => typeIs_int s' k t) noFill_tuple_mul F.fills_int_mul F.slot_int_rmul repeat_tuple F.slot_int_index.lookup
      (call_meets F.slot_int_rmul (typeIs_int s k t) F.entry_int_rmul (F.args_int_rmul_2 _ _) (int_rmul_tuple k t l its.toArray n dd sl) ⟨ho, rfl, ⟨_, ho, rfl⟩, call_meets F.slot_tuple_mul ⟨_, ho, rfl⟩ F.entry_tuple_mul (F.args_tuple_mul_2 _ _) (mulT_same l its.toArray n dd sl k t c0 c1) ⟨ho, ?_⟩⟩)
    exact ⟨.ref l, H, I, rfl, q1 c⟩
  · have hk1 : k ≠ 1 := fun z => c (.inr z)
    have hxs : xs ≠ [] := fun z => c (.inl z)
    have ne : its.toArray.isEmpty = false := by
      cases e : its.toArray.isEmpty with
      | false => rfl
      | true => exact absurd (emp.mp e) hxs
    have c1 : (its.toArray.isEmpty || k == 1) = false := by
      rw [ne, Bool.false_or]
      exact beq_eq_false_iff_ne.mpr hk1
    have len : (List.replicate k.toNat xs).flatten.length ≤ sizeLine := by
      rw [PyProof.Rows.lm_len_rep_flat, sizeLine_eq]
      have : k.toNat * xs.length ≤ 1000 * 1000 := Nat.mul_le_mul (by omega) hz
      omega
    by_cases hk0 : k = 0
    · have c2 : (decide (k ≤ 0) || its.toArray.isEmpty) = true := by rw [decide_eq_true (by omega)]; rfl
      refine wpAny_binaryOp_repeat_ref (T := "tuple") (U := "int") (by decide) ⟨_, ho, rfl⟩ (fun s' => typeIs_int s' k t) noFill_tuple_mul F.fills_int_mul F.slot_int_rmul repeat_tuple F.slot_int_index.lookup
        (call_meets F.slot_int_rmul (typeIs_int s k t) F.entry_int_rmul (F.args_int_rmul_2 _ _) (int_rmul_tuple k t l its.toArray n dd sl) ⟨ho, rfl, ⟨_, ho, rfl⟩, call_meets F.slot_tuple_mul ⟨_, ho, rfl⟩ F.entry_tuple_mul (F.args_tuple_mul_2 _ _) (mulT_none l its.toArray n dd sl k t c0 c1 c2) ⟨ho, ?_⟩⟩)
      subst hk0
      have get := Heap.get?_push_size s.heap (o := { cls := .type "tuple", data := .seq #[] }) rfl
      exact ⟨.ref s.heap.objs.size, _, I.laid (t' := s.toks) (o := .frz { cls := .type "tuple", data := .seq #[] } (.tup (List.replicate (0 : Int).toNat xs).flatten)) (fun b ob z => Heap.get?_push_of_some _ z) (Nat.le_refl _)
        (show ObjOk X.prog X.w _ _ _ (.frz _ _) from ⟨get, len, _, .nil, _, get, rfl, _, rfl⟩), rfl, q2 c _ _ I.fresh rfl⟩
    · have i1 : ((its.toArray.size : Nat) : Int) * k ≤ 1000000 := by
        rw [List.size_toArray, le]
        have : ((xs.length : Nat) : Int) * k ≤ 1000 * k := Int.mul_le_mul_of_nonneg_right (by omega) (by omega)
        omega
      have c2 : (decide (k ≤ 0) || its.toArray.isEmpty) = false := by
        rw [ne, Bool.or_false]
        exact decide_eq_false (by omega)
      have c4 : Builtin.Tuple.tupleTooMany (((its.toArray.size : Nat) : Int) * k) = false := by
        unfold Builtin.Tuple.tupleTooMany
        rw [sizeLine_eq]
        exact decide_eq_false (by omega)
      have vl := r.rep k.toNat
      have fit : (List.replicate k.toNat its).flatten.length ≤ sizeLine := by rw [← vl.length]; exact len
      refine wpAny_binaryOp_repeat_ref (T := "tuple") (U := "int") (by decide) ⟨_, ho, rfl⟩ (fun s' => typeIs_int s' k t) noFill_tuple_mul F.fills_int_mul F.slot_int_rmul repeat_tuple F.slot_int_index.lookup
        (call_meets F.slot_int_rmul (typeIs_int s k t) F.entry_int_rmul (F.args_int_rmul_2 _ _) (int_rmul_tuple k t l its.toArray n dd sl) ⟨ho, rfl, ⟨_, ho, rfl⟩, call_meets F.slot_tuple_mul ⟨_, ho, rfl⟩ F.entry_tuple_mul (F.args_tuple_mul_2 _ _) (tuple_mulW l its.toArray n dd sl k t c0 c1 c2 (by omega) c4 (by rw [size_rep, List.size_toArray]; exact fit)) ⟨ho, ?_⟩⟩)
      rw [size_rep]
      have get := Heap.get?_push_size s.heap (o := { cls := .type "tuple", data := .seq (List.replicate k.toNat its).flatten.toArray }) rfl
      exact ⟨.ref s.heap.objs.size, _, I.laid (t' := s.toks) (o := .frz { cls := .type "tuple", data := .seq (List.replicate k.toNat its).flatten.toArray } (.tup (List.replicate k.toNat xs).flatten)) (fun b ob z => Heap.get?_push_of_some _ z) (Nat.le_refl _)
        (show ObjOk X.prog X.w _ _ _ (.frz _ _) from ⟨get, len, _, vl, _, get, rfl, _, rfl⟩), rfl, q2 c _ _ I.fresh rfl⟩
theorem rpAll_times {K : Frag} {F : Hp} {vs : List L2.V} {xs : List D} (h : RpAll K F vs xs) : ∀ n : Nat, RpAll K F (List.replicate n vs).flatten (List.replicate n xs).flatten
  | 0 => .nil
  | n + 1 => by
    rw [List.replicate_succ, List.replicate_succ, List.flatten_cons, List.flatten_cons]
    exact rpAll_app h (rpAll_times h n)
theorem times_nil {α : Type} : ∀ n : Nat, (List.replicate n ([] : List α)).flatten = []
  | 0 => rfl
  | n + 1 => by rw [List.replicate_succ, List.flatten_cons, times_nil n]; rfl
theorem times_one {α : Type} (xs : List α) : (List.replicate (1 : Int).toNat xs).flatten = xs := by
  show xs ++ [] = xs
  exact List.append_nil _
end Sw
end T_SwGa
section T_SwG
set_option autoImplicit false
set_option linter.all false
set_option Elab.async false
set_option maxRecDepth 100000
/-! SwG: operators of two operands. -/
namespace Sw
open PySem L2
section
variable {N : List Str} {sc : Scope} {CX : CXT} {φ : Orc} {ex ey big : Expr}
def A2 (N : List Str) (sc : Scope) (CX : CXT) (φ : Orc) (o : O2) (ex ey big : Expr) : Prop :=
  ∀ X, Good N sc CX X φ → ∀ σ H (Q : VK) x y w, op2 o x y = some w →
    RE X ex σ H (fun u H1 => RE X ey σ H1 fun v H2 => ∃ F e, Rel X.K F H2 σ e ∧ VwR X.K F H2 u x ∧ VwR X.K F H2 v y ∧ Cont X.K F H2 σ e w Q) → RE X big σ H Q
theorem se_o2 {o : O2} {a b : E} (sa : SO N sc CX ex φ (opW (evalE φ a) a)) (sb : SO N sc CX ey φ (opW (evalE φ b) b)) (r : A2 N sc CX φ o ex ey big) : SE N sc CX big φ (evalE φ (.o2 o a b)) := by
  intro X G e w e' hr F H σ Q rel k
  simp only [evalE] at hr
  obtain ⟨⟨oa, e1⟩, r1, r2⟩ := bind_inv hr
  obtain ⟨⟨ob, e2⟩, r3, r4⟩ := bind_inv r2
  obtain ⟨x, r5, r6⟩ := bind_inv r4
  obtain ⟨y, r7, r8⟩ := bind_inv r6
  obtain ⟨r9, rfl⟩ := ret1_inv r8
  refine r X G σ H Q x y w r9 ?_
  refine sa X G e oa e1 r1 F H σ _ rel fun u F1 H1 p1 o1 _ => ?_
  refine sb X G e1 ob _ r3 F1 H1 σ _ p1.rel fun v F2 H2 p2 o2 _ => ?_
  have p := p1.trans p2
  exact ⟨F2, _, p.rel, (o1.stay p2).view p.rel (ofO_inv r5), o2.view p.rel (ofO_inv r7), fun v' F' H' p3 q3 f3 => k v' F' H' (p.trans p3) q3 (From.trans p f3)⟩
theorem A2.mk {o : O2} {r : Cx → R2} (pe : ∀ X, Good N sc CX X φ → PE X big fun σ H Q => RE X ex σ H fun u H1 => RE X ey σ H1 fun v H2 => r X u v H2 Q)
    (step : ∀ X, Good N sc CX X φ → ∀ σ H F e (Q : VK) x y w u v, op2 o x y = some w → Live X σ H → Rel X.K F H σ e → VwR X.K F H u x → VwR X.K F H v y → Cont X.K F H σ e w Q → r X u v H Q) : A2 N sc CX φ o ex ey big := by
  intro X G σ H Q x y w hw h
  refine RE.of (pe X G) (RE.mono h fun u H1 h2 => RE.mono (RE.live h2) fun v H2 ⟨l, F, e, rel, vu, vv, k⟩ => ?_)
  exact step X G σ H2 F e Q x y w u v hw l rel vu vv k
theorem A2.bin {op : Operator} {o : O2} {r : Cx → R2} {pos : Pos} (ho : ∀ X, Good N sc CX X φ → OpR X (binaryOp op) (r X))
    (step : ∀ X, Good N sc CX X φ → ∀ σ H F e (Q : VK) x y w u v, op2 o x y = some w → Live X σ H → Rel X.K F H σ e → VwR X.K F H u x → VwR X.K F H v y → Cont X.K F H σ e w Q → r X u v H Q) : A2 N sc CX φ o ex ey (.BinOp ex op ey pos) :=
  A2.mk (r := r) (fun X G => pe_op (ho X G) (peE ex) (peE ey)) step
/-- a comparison -/
def OC (N : List Str) (sc : Scope) (CX : CXT) (φ : Orc) (o : O2) (op : CmpOp) : Prop :=
  ∀ X, Good N sc CX X φ → ∃ r : R2, OpR X (compareOp op) r ∧ ∀ σ H F e (Q : VK) x y w u v, op2 o x y = some w → Live X σ H → Rel X.K F H σ e → VwR X.K F H u x → VwR X.K F H v y → Cont X.K F H σ e w Q → r u v H Q
theorem OC.a2 {op : CmpOp} {o : O2} {pos : Pos} (h : OC N sc CX φ o op) (hm : behindInMarks op ey = false) : A2 N sc CX φ o ex ey (.Compare ex [op] [ey] pos) := by
  intro X G σ H Q x y w hw hr
  obtain ⟨r, ho, step⟩ := h X G
  refine RE.of (pe_cmpR ho (peE ex) (peE ey) hm) (RE.mono hr fun u H1 h2 => RE.mono (RE.live h2) fun v H2 ⟨l, F, e, rel, vu, vv, k⟩ => ?_)
  exact step σ H2 F e Q x y w u v hw l rel vu vv k
theorem int2_inv {x y : D} {C : Int → Int → Bool} {f : Int → Int → D} {w : V} (h : int2 x y C f = some w) : ∃ i j, x = .int i ∧ y = .int j ∧ C i j = true ∧ w = .d (f i j) := by
  unfold int2 at h
  split at h
  · split at h
    · rename_i i j hc
      cases h
      exact ⟨i, j, rfl, rfl, hc, rfl⟩
    · cases h
  · cases h

theorem lst_addW (l : Addr) (items : Array Value) (n : Nat) (sl : Array (Option Value)) (b : Addr) (items2 : Array Value) (n2 : Nat) (sl2 : Array (Option Value)) (hc0 : items.size + items2.size ≤ sizeLine) :
    Meets (Builtin.«list.__add__» ⟨[.ref l, .ref b], []⟩) (fun _ R s => s.heap.get? l = some ⟨.type "list", none, .seq items n, sl⟩ ∧ s.heap.get? b = some ⟨.type "list", none, .seq items2 n2, sl2⟩ ∧
      R (.ok (.ret (Value.ref s.heap.objs.size))) { s with heap := s.heap.push { cls := Value.type "list", data := Data.seq (items ++ items2) } }) :=
  .of_wp fun prog w A R s h => by
    obtain ⟨hp, g, d, tk, os⟩ := s
    obtain ⟨hl, hb, h⟩ := h
    have f3 := PySem.AutoSeq1.sub_list_list
    have hz' : (items ++ items2).size ≤ sizeLine := by rw [Array.size_append]; exact hc0
    wp_walk using wpAny_loadPart' hl, wpAny_loadPart' hb
    exact ⟨_, rfl, h⟩
theorem op_catL {X : Cx} : OpR X (binaryOp .Add) fun x y H Q => ∃ l b xs zs, x = .ref l ∧ y = .ref b ∧ SqL X.K H l xs ∧ SqL X.K H b zs ∧ xs.length + zs.length ≤ sizeLine ∧ ∀ p, H p = none → Q (.ref p) (upd H p (.lst (xs ++ zs))) := by
  intro pins s σ H x y v u Q I rx ry h
  obtain ⟨l, b, xs, zs, rfl, rfl, h1, h2, hz, q⟩ := h
  cases rx
  cases ry
  obtain ⟨its, r, ⟨⟨c1, d1, t1, s1⟩, n, e1, g1, g2, g3⟩, _⟩ := I.list h1
  obtain ⟨its2, r2, ⟨⟨c2, d2, t2, s2⟩, n2, e2, g4, g5, g6⟩, _⟩ := I.list h2
  simp only at g1 g2 g3 g4 g5 g6
  subst g1 g2 g3 g4 g5 g6
  have l1 := r.length
  have l2 := r2.length
  refine concat_meets ⟨_, e1, rfl⟩ ⟨_, e2, rfl⟩ PySem.noFill_list_add PySem.seq_list_add PySem.F.slot_list_add PySem.F.entry_list_add (PySem.F.args_list_add_2 _ _)
    (lst_addW l its.toArray n s1 b its2.toArray n2 s2 (by rw [List.size_toArray, List.size_toArray, ← l1, ← l2]; exact hz)) ⟨e1, e2, ?_⟩
  have ea : its.toArray ++ its2.toArray = (its ++ its2).toArray := by simp
  rw [ea]
  exact ⟨.ref _, _, I.lnew (t' := s.toks) (r.append r2) (by rw [List.length_append]; exact hz), rfl, q _ I.fresh⟩
theorem op_catF {X : Cx} : OpR X (binaryOp .Add) fun x y H Q => ∃ a b xs ys, x = .ref a ∧ y = .ref b ∧ SqT X.K H a xs ∧ SqT X.K H b ys ∧ xs.length + ys.length ≤ sizeLine ∧
    (xs = [] → Q (.ref b) H) ∧ (xs ≠ [] → ys = [] → Q (.ref a) H) ∧ (xs ≠ [] → ys ≠ [] → ∀ p o, H p = none → o.dict = none → Q (.ref p) (upd H p (.frz o (.tup (xs ++ ys))))) := by
  intro pins s σ H x y v u Q I rx ry h
  obtain ⟨a, b, xs, ys, rfl, rfl, ha, hb, hz, q0, q1, q2⟩ := h
  by_cases hx : xs = []
  · exact op_catA pins s σ H _ _ v u Q I rx ry ⟨a, b, xs, ys, rfl, rfl, ha, hb, hz, q0, fun z => absurd hx z, fun z => absurd hx z⟩
  · cases rx
    cases ry
    obtain ⟨its, r1, p1, _⟩ := I.tuple ha
    obtain ⟨its2, r2, p2, _⟩ := I.tuple hb
    have l1 := r1.length
    have l2 := r2.length
    have n1 : its ≠ [] := fun z => hx (by rw [z] at l1; exact List.length_eq_zero_iff.mp l1)
    refine HT.cat_tup p1 p2 n1 (fun z => ?_) (fun z => ?_) (by rw [← l1, ← l2]; exact hz)
    · have : ys = [] := List.length_eq_zero_iff.mp (by rw [l2, z]; rfl)
      exact ⟨.ref a, H, I, rfl, q1 hx this⟩
    · have hy : ys ≠ [] := fun w => z (by rw [w] at l2; exact List.length_eq_zero_iff.mp l2.symm)
      have get := Heap.get?_push_size s.heap (o := { cls := .type "tuple", data := .seq (its ++ its2).toArray }) rfl
      exact ⟨.ref s.heap.objs.size, _, I.laid (o := .frz { cls := .type "tuple", data := .seq (its ++ its2).toArray } (.tup (xs ++ ys))) (t' := s.toks) (fun b o e => Heap.get?_push_of_some _ e) (Nat.le_refl _)
        (show ObjOk X.prog X.w _ _ _ (.frz _ _) from ⟨get, by rw [List.length_append]; exact hz, _, r1.append r2, _, get, rfl, _, rfl⟩), rfl, q2 hx hy _ _ I.fresh rfl⟩
theorem a2_add {pos : Pos} : A2 N sc CX φ .add ex ey (.BinOp ex .Add ey pos) := by
  refine A2.bin (fun X G => (op_add.or (op_add_ib.or (op_add_str.or (op_catF.or op_catL))))) fun X G σ H F e Q x y w u v hw l rel vu vv k => ?_
  cases x <;> cases y <;> first | (cases hw; done) | skip
  · cases hw
    exact .inr (.inl ⟨_, _, vu.int, vv.bool, k.int rel⟩)
  · cases hw
    exact .inl ⟨_, _, vu.int, vv.int, k.int rel⟩
  · simp only [op2, addD] at hw
    split at hw
    · rename_i hz
      cases hw
      exact .inr (.inr (.inl ⟨_, _, vu.str, vv.str, hz, k.str rel⟩))
    · cases hw
  · simp only [op2, addD] at hw
    split at hw
    · rename_i hz
      cases hw
      obtain ⟨a, us, rfl, h1, h2⟩ := vu.list rel.sub
      obtain ⟨b, vs, rfl, h3, h4⟩ := vv.list rel.sub
      exact .inr (.inr (.inr (.inr ⟨a, b, us, vs, rfl, rfl, h1, h3, by rw [rpAll_len h2, rpAll_len h4]; exact hz, fun p hp => k.lst rel (rpAll_app h2 h4) hp⟩)))
    · cases hw
  · simp only [op2, addD] at hw
    split at hw
    · rename_i hz
      cases hw
      obtain ⟨a, us, rfl, h1, h2⟩ := vu.tup rel.sub
      obtain ⟨b, vs, rfl, h3, h4⟩ := vv.tup rel.sub
      refine .inr (.inr (.inr (.inl ⟨a, b, us, vs, rfl, rfl, rel.sub.sqT h1.sq, rel.sub.sqT h3.sq, by rw [rpAll_len h2, rpAll_len h4]; exact hz, fun z => ?_, fun _ z => ?_, fun _ _ p o hp ho => k.tup rel (rpAll_app h2 h4) hp ho⟩)))
      · subst z
        cases h2
        exact k.val rel (.tup h3 h4)
      · subst z
        cases h4
        rw [List.append_nil] at k
        exact k.val rel (.tup h1 h2)
    · cases hw
theorem a2_sub {pos : Pos} : A2 N sc CX φ .sub ex ey (.BinOp ex .Sub ey pos) := by
  refine A2.bin (fun X G => op_sub) fun X G σ H F e Q x y w u v hw l rel vu vv k => ?_
  obtain ⟨i, j, rfl, rfl, _, rfl⟩ := int2_inv hw
  exact ⟨i, j, vu.int, vv.int, k.int rel⟩
theorem cMul_of {i j : Int} (h : i.natAbs < 2 ^ 64 ∨ j.natAbs < 2 ^ 64) : CMul i j := by
  unfold CMul
  rcases h with h | h
  · left; omega
  · right; omega
theorem a2_mul {pos : Pos} : A2 N sc CX φ .mul ex ey (.BinOp ex .Mult ey pos) := by
  refine A2.bin (fun X G => (op_mul.or (op_mulW.or op_mulT))) fun X G σ H F e Q x y w u v hw l rel vu vv k => ?_
  cases x <;> cases y <;> first | (cases hw; done) | skip
  · simp only [op2, mulD, intMul] at hw
    split at hw
    · rename_i hc
      cases hw
      rcases hc with hc | hc | hc
      · exact .inl ⟨_, _, vu.int, vv.int, cMul_of (.inl hc), k.int rel⟩
      · exact .inl ⟨_, _, vu.int, vv.int, cMul_of (.inr hc), k.int rel⟩
      · exact .inr (.inl ⟨_, _, vu.int, vv.int, hc, k.int rel⟩)
    · cases hw
  · simp only [op2, mulD] at hw
    split at hw
    · rename_i hc
      cases hw
      obtain ⟨a, us, rfl, h1, h2⟩ := vu.tup rel.sub
      have ln := rpAll_len h2
      refine .inr (.inr ⟨a, _, us, rfl, vv.int, rel.sub.sqT h1.sq, hc.1, hc.2.1, by rw [ln]; exact hc.2.2, fun z => ?_, fun _ p o hp ho => k.tup rel (rpAll_times h2 _) hp ho⟩)
      rcases z with z | z
      · subst z
        cases h2
        rw [times_nil] at k
        exact k.val rel (.tup h1 .nil)
      · subst z
        rw [times_one] at k
        exact k.val rel (.tup h1 h2)
    · cases hw
theorem a2_fdiv {pos : Pos} : A2 N sc CX φ .fdiv ex ey (.BinOp ex .FloorDiv ey pos) := by
  refine A2.bin (fun X G => op_fdivW) fun X G σ H F e Q x y w u v hw l rel vu vv k => ?_
  obtain ⟨i, j, rfl, rfl, hc, rfl⟩ := int2_inv hw
  have z := of_decide_eq_true hc
  refine ⟨i, j, vu.int, vv.int, ⟨z.1, ?_⟩, k.int rel⟩
  rcases z.2 with z2 | z2
  · have h0 : j.natAbs ≠ 0 := by have := z.1; omega
    have h1 : j.natAbs < 2 ^ 64 := by omega
    have := (Nat.log2_lt h0).mpr h1
    omega
  · exact z2
theorem a2_mod {pos : Pos} : A2 N sc CX φ .mod ex ey (.BinOp ex .Mod ey pos) := by
  refine A2.bin (fun X G => op_mod) fun X G σ H F e Q x y w u v hw l rel vu vv k => ?_
  obtain ⟨i, j, rfl, rfl, hc, rfl⟩ := int2_inv hw
  exact ⟨i, j, vu.int, vv.int, (by have z := of_decide_eq_true hc; exact z), k.int rel⟩
theorem a2_pow {pos : Pos} : A2 N sc CX φ .pow ex ey (.BinOp ex .Pow ey pos) := by
  refine A2.bin (fun X G => op_pow) fun X G σ H F e Q x y w u v hw l rel vu vv k => ?_
  obtain ⟨i, j, rfl, rfl, hc, rfl⟩ := int2_inv hw
  exact ⟨i, j, vu.int, vv.int, (by have z := of_decide_eq_true hc; exact z), k.int rel⟩
theorem a2_shl {pos : Pos} : A2 N sc CX φ .shl ex ey (.BinOp ex .LShift ey pos) := by
  refine A2.bin (fun X G => op_shl) fun X G σ H F e Q x y w u v hw l rel vu vv k => ?_
  obtain ⟨i, j, rfl, rfl, hc, rfl⟩ := int2_inv hw
  exact ⟨i, j, vu.int, vv.int, (by have z := of_decide_eq_true hc; exact z), k.int rel⟩
theorem a2_shr {pos : Pos} : A2 N sc CX φ .shr ex ey (.BinOp ex .RShift ey pos) := by
  refine A2.bin (fun X G => op_shr) fun X G σ H F e Q x y w u v hw l rel vu vv k => ?_
  obtain ⟨i, j, rfl, rfl, hc, rfl⟩ := int2_inv hw
  exact ⟨i, j, vu.int, vv.int, (by have z := of_decide_eq_true hc; exact z), k.int rel⟩
theorem a2_band {pos : Pos} : A2 N sc CX φ .band ex ey (.BinOp ex .BitAnd ey pos) := by
  refine A2.bin (fun X G => op_and) fun X G σ H F e Q x y w u v hw l rel vu vv k => ?_
  obtain ⟨i, j, rfl, rfl, hc, rfl⟩ := int2_inv hw
  exact ⟨i, j, vu.int, vv.int, k.int rel⟩
theorem a2_bxor {pos : Pos} : A2 N sc CX φ .bxor ex ey (.BinOp ex .BitXor ey pos) := by
  refine A2.bin (fun X G => op_xor) fun X G σ H F e Q x y w u v hw l rel vu vv k => ?_
  obtain ⟨i, j, rfl, rfl, hc, rfl⟩ := int2_inv hw
  exact ⟨i, j, vu.int, vv.int, k.int rel⟩
/-! ### comparisons -/
theorem eqD_inv {x y : D} {b : Bool} (h : eqD x y = some b) : (∃ i j, x = .int i ∧ y = .int j ∧ b = (i == j)) ∨ (∃ i j, x = .bool i ∧ y = .bool j ∧ b = (i == j)) ∨ (∃ i j, x = .str i ∧ y = .str j ∧ b = (i == j)) ∨
    (SeqAt.shaped x = true ∧ SeqAt.shaped y = true ∧ b = x.eqv y) := by
  unfold eqD at h
  split at h
  · cases h; exact .inl ⟨_, _, rfl, rfl, rfl⟩
  · cases h; exact .inr (.inl ⟨_, _, rfl, rfl, rfl⟩)
  · cases h; exact .inr (.inr (.inl ⟨_, _, rfl, rfl, rfl⟩))
  · split at h
    · rename_i hc
      rw [Bool.and_eq_true] at hc
      cases h
      exact .inr (.inr (.inr ⟨hc.1, hc.2, rfl⟩))
    · cases h
theorem oc_eq : OC N sc CX φ .eq .Eq := by
  refine fun X G => ⟨_, op_eq.or (op_eqD (by have := G.units; omega)), fun σ H F e Q x y w u v hw l rel vu vv k => ?_⟩
  simp only [op2, Option.map_eq_some_iff] at hw
  obtain ⟨b, hb, rfl⟩ := hw
  rcases eqD_inv hb with ⟨i, j, rfl, rfl, rfl⟩ | ⟨i, j, rfl, rfl, rfl⟩ | ⟨i, j, rfl, rfl, rfl⟩ | ⟨h1, h2, rfl⟩
  · rw [vu.int, vv.int]; exact .inl ⟨rfl, by rw [dec_int]; exact k.bl rel⟩
  · rw [vu.bool, vv.bool]; exact .inl ⟨rfl, by rw [dec_bl]; exact k.bl rel⟩
  · rw [vu.str, vv.str]; exact .inl ⟨rfl, by rw [dec_str]; exact k.bl rel⟩
  · exact .inr ⟨x, y, vu.dp rel.sub, vv.dp rel.sub, h1, h2, k.bl rel⟩
theorem oc_ne : OC N sc CX φ .ne .NotEq := by
  refine fun X G => ⟨_, op_ne.or (op_neD (by have := G.units; omega)), fun σ H F e Q x y w u v hw l rel vu vv k => ?_⟩
  simp only [op2, Option.map_eq_some_iff] at hw
  obtain ⟨b, hb, rfl⟩ := hw
  rcases eqD_inv hb with ⟨i, j, rfl, rfl, rfl⟩ | ⟨i, j, rfl, rfl, rfl⟩ | ⟨i, j, rfl, rfl, rfl⟩ | ⟨h1, h2, rfl⟩
  · rw [vu.int, vv.int]; exact .inl ⟨rfl, by rw [dec_int]; exact k.bl rel⟩
  · rw [vu.bool, vv.bool]; exact .inl ⟨rfl, by rw [dec_bl]; exact k.bl rel⟩
  · rw [vu.str, vv.str]; exact .inl ⟨rfl, by rw [dec_str]; exact k.bl rel⟩
  · exact .inr ⟨x, y, vu.dp rel.sub, vv.dp rel.sub, h1, h2, k.bl rel⟩
theorem cmpD_inv {x y : D} {f : Int → Int → Bool} {g : List Int → List Int → Option Bool} {w : V} (h : cmpD x y f g = some w) :
    (∃ i j, x = .int i ∧ y = .int j ∧ w = .d (.bool (f i j))) ∨ (∃ ns ms r, x = .tuple (ns.map .int) ∧ y = .tuple (ms.map .int) ∧ g ns ms = some r ∧ w = .d (.bool r)) := by
  unfold cmpD at h
  split at h
  · cases h; exact .inl ⟨_, _, rfl, rfl, rfl⟩
  · simp only [Option.bind_eq_some_iff, Option.map_eq_some_iff] at h
    obtain ⟨ns, h1, ms, h2, r, h3, rfl⟩ := h
    exact .inr ⟨ns, ms, r, by rw [ints_eq h1], by rw [ints_eq h2], h3, rfl⟩
  · cases h
theorem lexB_eq : ∀ ns ms : List Int, lexB ns ms = HT.lexLt ns ms
  | [], [] => rfl
  | [], _ :: _ => rfl
  | _ :: _, [] => rfl
  | x :: xs, y :: ys => by
    rw [HT.lexLt_cons, ← lexB_eq xs ys]; rfl
theorem tup_ints {K : Frag} {F H : Hp} (s : Sub F H) {v : L2.V} {ns : List Int} (h : VwR K F H v (.tuple (ns.map .int))) : ∃ a, v = .ref a ∧ SqT K H a (ns.map L2.V.int) := by
  obtain ⟨a, vs, rfl, h1, h2⟩ := h.tup s
  rw [vs_ints h2] at h1
  exact ⟨a, rfl, s.sqT h1.sq⟩
theorem oc_lt : OC N sc CX φ .lt .Lt := by
  refine fun X G => ⟨_, op_lt.or (op_ltT (by have := G.units; omega)), fun σ H F e Q x y w u v hw l rel vu vv k => ?_⟩
  rcases cmpD_inv hw with ⟨i, j, rfl, rfl, rfl⟩ | ⟨ns, ms, r, rfl, rfl, hg, rfl⟩
  · exact .inl ⟨i, j, vu.int, vv.int, k.bl rel⟩
  · cases hg
    obtain ⟨a, rfl, h1⟩ := tup_ints rel.sub vu
    obtain ⟨b, rfl, h2⟩ := tup_ints rel.sub vv
    exact .inr ⟨a, b, ns, ms, rfl, rfl, h1, h2, by rw [← lexB_eq]; exact k.bl rel⟩
theorem oc_le : OC N sc CX φ .le .LtE := by
  refine fun X G => ⟨_, op_le, fun σ H F e Q x y w u v hw l rel vu vv k => ?_⟩
  rcases cmpD_inv hw with ⟨i, j, rfl, rfl, rfl⟩ | ⟨ns, ms, r, rfl, rfl, hg, rfl⟩
  · exact ⟨i, j, vu.int, vv.int, k.bl rel⟩
  · cases hg
theorem oc_gt : OC N sc CX φ .gt .Gt := by
  refine fun X G => ⟨_, op_gt, fun σ H F e Q x y w u v hw l rel vu vv k => ?_⟩
  rcases cmpD_inv hw with ⟨i, j, rfl, rfl, rfl⟩ | ⟨ns, ms, r, rfl, rfl, hg, rfl⟩
  · exact ⟨i, j, vu.int, vv.int, k.bl rel⟩
  · cases hg
theorem oc_ge : OC N sc CX φ .ge .GtE := by
  refine fun X G => ⟨_, op_ge, fun σ H F e Q x y w u v hw l rel vu vv k => ?_⟩
  rcases cmpD_inv hw with ⟨i, j, rfl, rfl, rfl⟩ | ⟨ns, ms, r, rfl, rfl, hg, rfl⟩
  · exact ⟨i, j, vu.int, vv.int, k.bl rel⟩
  · cases hg
/-! ### items -/
theorem ixN_eq (n : Nat) (i : Int) : ixN n i = L2.ixN n i := by
  unfold ixN L2.ixN
  split
  · rfl
  · split
    · rw [if_pos (by omega)]
    · rw [if_neg (by omega)]
theorem a2_idx {pos : Pos} (hp : PlainIx ey) : A2 N sc CX φ .idx ex ey (.Subscript ex ey pos) := by
  refine A2.mk (r := fun X u v H Q => rIxL X.K u v H Q ∨ rIxT X.K u v H Q) (fun X G => pe_ix (ix_list.or ix_tup) (peE ex) (peE ey) hp) fun X G σ H F e Q x y w u v hw l rel vu vv k => ?_
  cases y <;> first | (cases hw; done) | skip
  rename_i i
  simp only [op2, Option.bind_eq_some_iff, Option.map_eq_some_iff] at hw
  obtain ⟨xs, h0, z, hz, rfl⟩ := hw
  unfold atI at hz
  simp only [Option.bind_eq_some_iff] at hz
  obtain ⟨j, hj, hz⟩ := hz
  rw [ixN_eq] at hj
  cases x <;> first | (cases h0; done) | skip
  · cases h0
    obtain ⟨a, vs, rfl, h1, h2⟩ := vu.list rel.sub
    obtain ⟨v', h3, h4⟩ := rpAll_get h2 hz
    refine .inl ⟨a, vs, i, v', rfl, vv.int, h1, ?_, k.val rel h4⟩
    unfold L2.atI
    rw [rpAll_len h2, hj]; exact h3
  · cases h0
    obtain ⟨a, vs, rfl, h1, h2⟩ := vu.tup rel.sub
    obtain ⟨v', h3, h4⟩ := rpAll_get h2 hz
    refine .inr ⟨a, vs, i, v', rfl, vv.int, rel.sub.sqT h1.sq, ?_, k.val rel h4⟩
    unfold L2.atI
    rw [rpAll_len h2, hj]; exact h3
/-! ### min, max of two -/
theorem a2_min {p pos : Pos} (hg : GlS sc (Str.ofString "min")) (h1 : noStar ex = true) (h2 : noStar ey = true) : A2 N sc CX φ .min2 ex ey (.Call (.Name (Str.ofString "min") p) [ex, ey] [] pos) := by
  refine A2.mk (r := fun X u v H Q => ∃ i j, [u, v] = [L2.V.int i, .int j] ∧ Q (.int (if j < i then j else i)) H)
    (fun X G => pe_callB (call_min2 G.calm) (G.gl hg) (G.blt "min" (by decide)) PyProof.Rows.boot_min (pa_cons (peE ex) (pa_cons (peE ey) pa_nil (star_of h2)) (star_of h1)) (by decide) (by decide) (star_of h1) (plain_of (es := [ey]) (by simp [noStars, h2]))) fun X G σ H F e Q x y w u v hw l rel vu vv k => ?_
  obtain ⟨i, j, rfl, rfl, _, rfl⟩ := int2_inv hw
  exact ⟨i, j, by rw [vu.int, vv.int], k.int rel⟩
theorem a2_max {p pos : Pos} (hg : GlS sc (Str.ofString "max")) (h1 : noStar ex = true) (h2 : noStar ey = true) : A2 N sc CX φ .max2 ex ey (.Call (.Name (Str.ofString "max") p) [ex, ey] [] pos) := by
  refine A2.mk (r := fun X u v H Q => ∃ i j, [u, v] = [L2.V.int i, .int j] ∧ Q (.int (if j > i then j else i)) H)
    (fun X G => pe_callB (call_max2 G.calm) (G.gl hg) (G.blt "max" (by decide)) PyProof.Rows.boot_max (pa_cons (peE ex) (pa_cons (peE ey) pa_nil (star_of h2)) (star_of h1)) (by decide) (by decide) (star_of h1) (plain_of (es := [ey]) (by simp [noStars, h2]))) fun X G σ H F e Q x y w u v hw l rel vu vv k => ?_
  obtain ⟨i, j, rfl, rfl, _, rfl⟩ := int2_inv hw
  exact ⟨i, j, by rw [vu.int, vv.int], k.int rel⟩
/-! ### in, not in -/
theorem op_inX (X : Cx) (hu : X.A.units + 65 < cLine) : OpR X (compareOp .In) fun x y H Q => ∃ d ds, L2.Dp X.K H x d ∧ (L2.Dp X.K H y (.list ds) ∨ L2.Dp X.K H y (.tuple ds)) ∧ SeqAt.shaped d = true ∧ SeqAt.shaped (.list ds) = true ∧ Q (.bl (ds.any fun z => PyData.eqv z d)) H := by
  intro pins s σ H x y v u Q I rx ry h
  obtain ⟨d, ds, hd, he, sd, se, q⟩ := h
  obtain ⟨as, r1⟩ := Dp.reads I d x v hd rx
  rcases he with he | he
  · obtain ⟨bs, r2⟩ := Dp.reads I (.list ds) y u he ry
    exact SeqAt.in_list_reads r2 r1 (SeqAt.canLay_of_shaped se) (SeqAt.canLay_of_shaped sd) (PyProof.Rows.room_in_shaped sd hu) ⟨.bl _, H, I, rfl, q⟩
  · obtain ⟨bs, r2⟩ := Dp.reads I (.tuple ds) y u he ry
    exact SeqAt.in_tuple_reads r2 r1 (SeqAt.canLay_of_shaped se) (SeqAt.canLay_of_shaped sd) (PyProof.Rows.room_in_shaped sd hu) ⟨.bl _, H, I, rfl, q⟩
theorem op_notInX (X : Cx) (hu : X.A.units + 65 < cLine) : OpR X (compareOp .NotIn) fun x y H Q => ∃ d ds, L2.Dp X.K H x d ∧ (L2.Dp X.K H y (.list ds) ∨ L2.Dp X.K H y (.tuple ds)) ∧ SeqAt.shaped d = true ∧ SeqAt.shaped (.list ds) = true ∧ Q (.bl (!ds.any fun z => PyData.eqv z d)) H := by
  intro pins s σ H x y v u Q I rx ry h
  obtain ⟨d, ds, hd, he, sd, se, q⟩ := h
  obtain ⟨as, r1⟩ := Dp.reads I d x v hd rx
  rcases he with he | he
  · obtain ⟨bs, r2⟩ := Dp.reads I (.list ds) y u he ry
    exact SeqAt.notIn_list_reads r2 r1 (SeqAt.canLay_of_shaped se) (SeqAt.canLay_of_shaped sd) (PyProof.Rows.room_in_shaped sd hu) ⟨.bl _, H, I, rfl, q⟩
  · obtain ⟨bs, r2⟩ := Dp.reads I (.tuple ds) y u he ry
    exact SeqAt.notIn_tuple_reads r2 r1 (SeqAt.canLay_of_shaped se) (SeqAt.canLay_of_shaped sd) (PyProof.Rows.room_in_shaped sd hu) ⟨.bl _, H, I, rfl, q⟩
theorem shaped_tup {ds : List D} (h : shapedB (.tuple ds) = true) : SeqAt.shaped (.list ds) = true := by
  have h' : ((PyData.tuple ds).canLay0 && decide ((PyData.tuple ds).depth ≤ 64)) = true := h
  simpa [SeqAt.shaped, PyData.canLay0, PyData.depth] using h'
theorem inD_inv {x y : D} {b : Bool} (h : inD x y = some b) : ∃ ds, (y = .list ds ∨ y = .tuple ds) ∧ SeqAt.shaped x = true ∧ SeqAt.shaped (.list ds) = true ∧ b = ds.any fun z => z.eqv x := by
  unfold inD at h
  split at h
  · split at h
    · rename_i hc
      rw [Bool.and_eq_true] at hc
      cases h
      exact ⟨_, .inl rfl, hc.1, hc.2, rfl⟩
    · cases h
  · split at h
    · rename_i hc
      rw [Bool.and_eq_true] at hc
      cases h
      exact ⟨_, .inr rfl, hc.1, shaped_tup hc.2, rfl⟩
    · cases h
  · cases h
theorem oc_in : OC N sc CX φ .inn .In := by
  refine fun X G => ⟨_, op_inX X (by have := G.units; omega), fun σ H F e Q x y w u v hw l rel vu vv k => ?_⟩
  simp only [op2, Option.map_eq_some_iff] at hw
  obtain ⟨b, hb, rfl⟩ := hw
  obtain ⟨ds, hy, h1, h2, rfl⟩ := inD_inv hb
  refine ⟨x, ds, vu.dp rel.sub, ?_, h1, h2, k.bl rel⟩
  rcases hy with rfl | rfl
  · exact .inl (vv.dp rel.sub)
  · exact .inr (vv.dp rel.sub)
theorem oc_notin : OC N sc CX φ .notin .NotIn := by
  refine fun X G => ⟨_, op_notInX X (by have := G.units; omega), fun σ H F e Q x y w u v hw l rel vu vv k => ?_⟩
  simp only [op2, Option.map_eq_some_iff] at hw
  obtain ⟨b, hb, rfl⟩ := hw
  obtain ⟨ds, hy, h1, h2, rfl⟩ := inD_inv hb
  refine ⟨x, ds, vu.dp rel.sub, ?_, h1, h2, k.bl rel⟩
  rcases hy with rfl | rfl
  · exact .inl (vv.dp rel.sub)
  · exact .inr (vv.dp rel.sub)
end
end Sw
end T_SwG
section T_SwH
set_option autoImplicit false
set_option linter.all false
set_option Elab.async false
set_option maxRecDepth 100000
/-! SwH: repeats, slices, places, methods of one operand. -/
namespace Sw
open PySem L2
section
variable {N : List Str} {sc : Scope} {CX : CXT} {φ : Orc} {ex ey ez big : Expr} {exs : List Expr}

theorem rpAll_rep {K : Frag} {F : Hp} {vs : List L2.V} {xs : List D} (h : RpAll K F vs xs) : ∀ n : Nat, RpAll K F (List.replicate n vs).flatten (List.replicate n xs).flatten
  | 0 => .nil
  | n + 1 => by
    rw [List.replicate_succ, List.replicate_succ, List.flatten_cons, List.flatten_cons]
    exact rpAll_app h (rpAll_rep h n)
theorem se_rep {as : Es} {a : E} {p1 pos : Pos} (h : SDs N sc CX exs φ (evalDs φ as)) (hb : SO N sc CX ey φ (opW (evalE φ a) a)) :
    SE N sc CX (.BinOp (.List exs p1) .Mult ey pos) φ (evalE φ (.rep false as a)) := by
  intro X G e w e' hr F H σ Q rel k
  simp only [evalE] at hr
  obtain ⟨⟨xs, e1⟩, r1, r2⟩ := bind_inv hr
  obtain ⟨⟨o, e2⟩, r3, r4⟩ := bind_inv r2
  obtain ⟨y, r5, r6⟩ := bind_inv r4
  unfold repR at r6
  dsimp only at r6
  cases y <;> first | (cases r6; done) | skip
  rename_i j
  dsimp only at r6
  split at r6
  case isFalse => cases r6
  rename_i hz0
  have hz := of_decide_eq_true hz0
  simp only [Bool.false_eq_true, if_false] at r6
  cases r6
  refine RE.of (pe_op op_rep (pe_lst (paA exs)) (peE ey)) ?_
  refine h X G e xs e1 r1 F H σ _ rel fun vs F1 H1 p1 d1 => ⟨by rw [rpAll_len d1]; exact hz.1, fun p hp => ?_⟩
  obtain ⟨q1, q2, q3⟩ := fresh_res p1 hp d1
  refine hb X G e1 o _ r3 F1 _ σ _ q1.rel fun v F2 H2 p2 o2 _ => ?_
  obtain ⟨a, vs', ha, h1, h2, h3, h4⟩ := q2.stay p2
  cases ha
  have vv := o2.view p2.rel (ofO_inv r5)
  refine ⟨p, j, vs', rfl, vv.int, h1, hz.2.1, hz.2.2.1, by rw [rpAll_len h3]; exact hz.2.2.2, fun p' hp' => ?_⟩
  obtain ⟨s1, s2, s3⟩ := fresh_res (q1.trans p2) hp' (rpAll_rep h3 _)
  exact k _ _ _ s1 s2 s3

/-! ### slices -/
def RO (X : Cx) : Option Expr → TO
  | none => tNoPart
  | some e => tPart (RE X e)
theorem poO {X : Cx} : ∀ eo : Option Expr, PO X eo (RO X eo)
  | none => po_none
  | some e => po_some (peE e)
def SPt (N : List Str) (sc : Scope) (CX : CXT) (eo : Option Expr) (φ : Orc) (r : Env → R (Option Int × Env)) : Prop :=
  ∀ X, Good N sc CX X φ → ∀ e w e', r e = .ok (w, e') → ∀ F H σ (Q : Option Int → Hp → Prop), Rel X.K F H σ e →
    (∀ F' H', Post X.K F H σ e F' H' σ e' → Q w H') → RO X eo σ H Q
theorem sp_none : SPt N sc CX none φ (evalPart φ .no) := by
  intro X G e w e' hr F H σ Q rel k
  simp only [evalPart] at hr
  cases hr
  exact k F H (Post.refl rel)
theorem sp_some {a : E} (h : SD N sc CX ex φ (daW (evalE φ a))) : SPt N sc CX (some ex) φ (evalPart φ (.yes a)) := by
  intro X G e w e' hr F H σ Q rel k
  simp only [evalPart] at hr
  obtain ⟨⟨x, e1⟩, r1, r2⟩ := bind_inv hr
  dsimp only at r2
  cases x <;> first | (cases r2; done) | skip
  cases r2
  refine h X G e _ _ r1 F H σ _ rel fun v F' H' p d => ?_
  cases d
  exact ⟨_, rfl, k F' H' p⟩
theorem cutIx_eq (n d : Nat) (i : Option Int) : HT.sIx n d i = cutIx n d i := by
  cases i with
  | none => rfl
  | some v => rfl
theorem cutV_eq (xs : List L2.V) (lo hi : Option Int) : cutV xs lo hi = cut xs lo hi := by
  unfold cutV cut
  rw [cutIx_eq, cutIx_eq]
theorem rpAll_cut {K : Frag} {F : Hp} {vs : List L2.V} {xs : List D} (h : RpAll K F vs xs) (lo hi : Option Int) : RpAll K F (cut vs lo hi) (cut xs lo hi) := by
  have hl := rpAll_len h
  refine rpAll_of ?_ fun i v d h1 h2 => ?_
  · unfold cut
    rw [hl]
    simp [List.length_take, List.length_drop, hl]
  · unfold cut at h1 h2
    rw [hl] at h1
    rw [List.getElem?_take] at h1 h2
    split at h1
    · rename_i hc
      rw [if_pos hc] at h2
      rw [List.getElem?_drop] at h1 h2
      obtain ⟨v', e1, r⟩ := rpAll_get h h2
      rw [h1] at e1; cases e1
      exact r
    · cases h1
theorem sl_tupF {X : Cx} : SlR X fun x lo hi H Q => ∃ a xs, x = .ref a ∧ SqT X.K H a xs ∧
    (HT.sIx xs.length 0 lo = 0 ∧ HT.sIx xs.length xs.length hi = xs.length → Q (.ref a) H) ∧
    (¬ (HT.sIx xs.length 0 lo = 0 ∧ HT.sIx xs.length xs.length hi = xs.length) → ∀ p o, H p = none → o.dict = none → Q (.ref p) (upd H p (.frz o (.tup (cutV xs lo hi))))) := by
  intro pins s σ H x v vl vu lo hi sl Q I rx hs pl pu h
  obtain ⟨a, xs, rfl, hx, q1, q2⟩ := h
  by_cases hw : HT.sIx xs.length 0 lo = 0 ∧ HT.sIx xs.length xs.length hi = xs.length
  · exact sl_tupA pins s σ H _ v vl vu lo hi sl Q I rx hs pl pu ⟨a, xs, rfl, hx, q1, fun z => absurd hw z⟩
  · cases rx
    obtain ⟨its, r, ht, hz⟩ := I.tuple hx
    have hn : its.toArray.size = xs.length := by rw [List.size_toArray]; exact r.length.symm
    refine ⟨"tuple", _, PyProof.Rows.slot_tuple_getitem.lookup, ht.typeIs, ?_⟩
    refine HT.getItem_tuple_cut ht hs pl pu (by rw [hn]; exact hw) ?_ (by rw [hn]; exact hz)
    rw [hn]
    have get := Heap.get?_push_size s.heap (o := { cls := .type "tuple", data := .seq ((its.drop (HT.sIx xs.length 0 lo)).take (HT.sIx xs.length xs.length hi - HT.sIx xs.length 0 lo)).toArray }) rfl
    have hc : Vals (cutV xs lo hi) ((its.drop (HT.sIx xs.length 0 lo)).take (HT.sIx xs.length xs.length hi - HT.sIx xs.length 0 lo)) := Vals.take _ (Vals.drop _ r)
    exact ⟨.ref s.heap.objs.size, _, I.laid (o := .frz { cls := .type "tuple", data := .seq ((its.drop (HT.sIx xs.length 0 lo)).take (HT.sIx xs.length xs.length hi - HT.sIx xs.length 0 lo)).toArray } (.tup (cutV xs lo hi))) (t' := s.toks) (fun b o e => Heap.get?_push_of_some _ e) (Nat.le_refl _)
      (show ObjOk X.prog X.w _ _ _ (.frz _ _) from ⟨get, Nat.le_trans (cutV_length xs lo hi) hz, _, hc, _, get, rfl, _, rfl⟩), rfl, q2 hw _ _ I.fresh rfl⟩
theorem cut_whole {α : Type} {xs : List α} {lo hi : Option Int} (h : HT.sIx xs.length 0 lo = 0 ∧ HT.sIx xs.length xs.length hi = xs.length) : cut xs lo hi = xs := by
  unfold cut
  rw [← cutIx_eq, ← cutIx_eq, h.1, h.2]
  simp
theorem se_slice {a : E} {lo hi : Eo} {el eh : Option Expr} {p2 pos : Pos} (ha : SO N sc CX ex φ (opW (evalE φ a) a)) (hl : SPt N sc CX el φ (evalPart φ lo)) (hh : SPt N sc CX eh φ (evalPart φ hi)) :
    SE N sc CX (.Subscript ex (.Slice el eh none p2) pos) φ (evalE φ (.slice a lo hi)) := by
  intro X G e w e' hr F H σ Q rel k
  simp only [evalE] at hr
  obtain ⟨⟨oa, e1⟩, r1, r2⟩ := bind_inv hr
  obtain ⟨⟨l, e2⟩, r3, r4⟩ := bind_inv r2
  obtain ⟨⟨u, e3⟩, r5, r6⟩ := bind_inv r4
  obtain ⟨x, r7, r8⟩ := bind_inv r6
  obtain ⟨r9, rfl⟩ := ret1_inv r8
  refine RE.of (pe_slice (sl_list.or sl_tupF) (peE ex) (poO el) (poO eh)) ?_
  refine ha X G e oa e1 r1 F H σ _ rel fun u0 F1 H1 p1 o1 _ => ?_
  refine hl X G e1 l e2 r3 F1 H1 σ _ p1.rel fun F2 H2 p2 => ?_
  refine hh X G e2 u _ r5 F2 H2 σ _ p2.rel fun F3 H3 p3 => ?_
  have p := p1.trans (p2.trans p3)
  have vu := (o1.stay (p2.trans p3)).view p.rel (ofO_inv r7)
  cases x <;> first | (cases r9; done) | skip
  · cases r9
    obtain ⟨b, vs, rfl, h1, h2⟩ := vu.list p.rel.sub
    refine .inl ⟨b, vs, rfl, h1, fun q hq => ?_⟩
    rw [cutV_eq]
    obtain ⟨s1, s2, s3⟩ := fresh_res p hq (rpAll_cut h2 l u)
    exact k _ _ _ s1 s2 s3
  · cases r9
    obtain ⟨b, vs, rfl, h1, h2⟩ := vu.tup p.rel.sub
    refine .inr ⟨b, vs, rfl, p.rel.sub.sqT h1.sq, fun hw => ?_, fun _ q o hq ho => ?_⟩
    · have hw' := hw
      rw [rpAll_len h2] at hw'
      rw [cut_whole hw'] at k
      exact k _ _ _ p (.tup h1 h2) trivial
    · rw [cutV_eq]
      obtain ⟨s1, s2⟩ := data_res p hq ho (rpAll_cut h2 l u)
      exact k _ _ _ s1 s2 trivial

/-! ### methods -/
def isBase : Expr → Bool
  | .Call _ [] [] _ => false
  | _ => true
theorem base_of {o : Expr} {n : Str} {env : PySem.Env} {t : Sem Value} (h : isBase o = true) : attributeBase o n env t = t := by
  unfold attributeBase
  split
  · cases h
  · rfl
/-- a value's type, wherever the state is -/
def Ty (X : Cx) (T : String) (u : L2.V) (σ : L2.St) (H : Hp) : Prop := ∀ pins s v, Inv X pins σ H s → RelV u v → s.TypeIs v T ∧ ∀ a, v = .ref a → ∃ ob, s.heap.get? a = some ob ∧ ob.dict = none
theorem ty_list {X : Cx} {σ : L2.St} {H : Hp} {a : Addr} {xs : List L2.V} (h : SqL X.K H a xs) : Ty X "list" (.ref a) σ H := fun pins s v I r => tyV_is I r (.inl ⟨rfl, xs, h⟩)
theorem ty_tup {X : Cx} {σ : L2.St} {H : Hp} {a : Addr} {xs : List L2.V} (h : TupX X.K H a xs) : Ty X "tuple" (.ref a) σ H := fun pins s v I r => by
  rcases h with ⟨o, h, hd⟩ | ⟨o, its, n, h1, h2, h3, _⟩
  · cases r
    obtain ⟨get, _, its, _, o', get', hc, _⟩ := I.hok a _ h
    rw [get] at get'
    cases get'
    exact ⟨⟨o, get, hc⟩, fun b e => by cases e; exact ⟨o, get, hd⟩⟩
  · exact tyV_is I r (.inr (.inl ⟨rfl, o, h1, h2, h3⟩))
theorem few1 {ey : Expr} {env : PySem.Env} {cpos : Pos} (h : noStar ey = true) : ((backTo cpos (starEach [ey] env)).all (fun x => !x.1) && (backToKw cpos (keywordEach [] env)).all (fun x => x.1.isSome)
      && decide ([ey].length + ([] : List Keyword).length + (if ([] : List Keyword).isEmpty then 0 else 1) < 30)) = true := by
  rw [star_of h]; rfl
theorem pe_m1 {X : Cx} {T id : String} {name : Str} {apos cpos : Pos} {r : L2.V → List L2.V → Hp → VK → Prop} (pa : PlainAttrs T) (slot : Slot T name id) (hty : typeOf (.builtin id) = pure (.type "method_descriptor")) (hm : MtR X id r)
    (hb : isBase ex = true) (hline : (apos.endLine == cpos.line) = true) (hs : noStar ey = true) :
    PE X (.Call (.Attribute ex name apos) [ey] [] cpos) fun σ H Q => RE X ex σ H fun u H1 => Ty X T u σ H1 ∧ RE X ey σ H1 fun v H2 => r u [v] H2 Q := by
  refine ⟨fun pins s σ H Q I h => ?_⟩
  refine wpAny_Call_method_late (base_of hb) (few1 hs) hline rfl (thn (h pins s I) fun v s1 ⟨u, H1, I1, r1, ty, q1⟩ => ?_)
  obtain ⟨h1, h2⟩ := ty pins s1 v I1 r1
  refine ⟨T, id, pa, slot, hty, h1, h2, ?_⟩
  have hA := (pa_cons (peE ey) pa_nil (star_of hs)).run cpos pins s1 σ H1 (fun vs H2 => r u vs H2 Q) I1 q1
  rw [star_of hs] at hA ⊢
  exact Calls.callWith_builtin rfl (Calls.evalArgs_plain (thn hA fun us s2 ⟨vs, H2, I2, r2, q2⟩ => hm pins s2 σ H2 u vs v us Q I2 r1 r2 q2))
theorem pe_m0 {X : Cx} {T id : String} {name : Str} {apos cpos : Pos} {r : L2.V → List L2.V → Hp → VK → Prop} (pa : PlainAttrs T) (slot : Slot T name id) (hty : typeOf (.builtin id) = pure (.type "method_descriptor")) (hm : MtR X id r)
    (hb : isBase ex = true) (hline : (apos.endLine == cpos.line) = true) :
    PE X (.Call (.Attribute ex name apos) [] [] cpos) fun σ H Q => RE X ex σ H fun u H1 => Ty X T u σ H1 ∧ r u [] H1 Q := by
  refine ⟨fun pins s σ H Q I h => ?_⟩
  refine wpAny_Call_method0_late (base_of hb) hline (thn (h pins s I) fun v s1 ⟨u, H1, I1, r1, ty, q1⟩ => ?_)
  obtain ⟨h1, h2⟩ := ty pins s1 v I1 r1
  exact ⟨T, id, pa, slot, hty, h1, h2, Calls.callWith_builtin rfl (PySem.evalArgs_none (hm pins s1 σ H1 u [] v [] Q I1 r1 .nil q1))⟩

/-! ### the first place -/
theorem find_at {x : D} : ∀ {xs : List D} {n j : Nat}, find x xs n = some j → ∃ i z, j = n + i ∧ xs[i]? = some z ∧ z.eqv x = true ∧ ∀ (m : Nat) (z' : D), m < i → xs[m]? = some z' → z'.eqv x = false
  | [], _, _, h => by cases h
  | y :: r, n, j, h => by
    unfold find at h
    split at h
    · rename_i hy
      cases h
      exact ⟨0, y, rfl, rfl, hy, fun m z' hm => absurd hm (Nat.not_lt_zero _)⟩
    · rename_i hy
      obtain ⟨i, z, h1, h2, h3, h4⟩ := find_at h
      refine ⟨i + 1, z, by omega, by simpa using h2, h3, fun m z' hm hz => ?_⟩
      cases m with
      | zero => simp at hz; subst hz; simpa using hy
      | succ m => exact h4 m z' (by omega) (by simpa using hz)
theorem mt_indexT {X : Cx} (hu : X.A.units + 65 < cLine) : MtR X "tuple.index" fun x xs H Q => ∃ (a : Addr) (ys : List L2.V) (y : L2.V) (d : PyData) (ds : List PyData) (j : Nat) (z : PyData), x = L2.V.ref a ∧ xs = [y] ∧ SqT X.K H a ys ∧ DpAll X.K H ys ds ∧ Dp X.K H y d ∧
    SeqAt.shaped (.list ds) = true ∧ SeqAt.shaped d = true ∧ ds[j]? = some z ∧ PyData.eqv z d = true ∧ (∀ (m : Nat) (z' : PyData), m < j → ds[m]? = some z' → PyData.eqv z' d = false) ∧ Q (.int (j : Nat)) H := by
  intro pins s σ H x xs v us Q I rx rxs h
  obtain ⟨a, ys, y, d, ds, j, z, rfl, rfl, hs, ha, hy, sl, sd, hz, hzj, hno, q⟩ := h
  cases rx
  obtain ⟨uy, rfl, ry⟩ := rxs.one
  obtain ⟨bs, r1⟩ := Dp.reads I d y uy hy ry
  have can : PyData.canLayAll0 ds = true := SeqAt.canLay_of_shaped sl
  have room : X.A.units + 1 + min (PyData.depthAll ds) d.depth < cLine := PyProof.Rows.room_in_shaped sd hu
  obtain ⟨its, rv, ⟨⟨cls, dd, data, sls⟩, ho, hc, n, hdt⟩, hlen⟩ := I.tuple hs
  simp only at hc hdt
  subst hc hdt
  obtain ⟨as, h4⟩ := Dp.readsAll I ds _ its ha rv
  have hn := SeqAt.ReadsAll.length ds its as h4
  have hmap := SeqAt.readsAll_map ds its as can h4
  have hvl := rv.length
  have hsl := sizeLine_eq
  have hjd := (List.getElem?_eq_some_iff.mp hz).1
  have hj : j < its.toArray.size := by rw [List.size_toArray]; omega
  have at_ : ∀ (m : Nat) (hm : m < its.toArray.size) (z' : PyData), ds[m]? = some z' → SeqAt.readOf s.heap its.toArray[m] = z' := fun m hm z' hz' => by
    have hml : m < its.length := by simpa using hm
    rw [← hmap, List.getElem?_map, List.getElem?_eq_getElem hml] at hz'
    simpa using hz'
  refine call_meets PySem.F.slot_tuple_index ⟨_, ho, rfl⟩ PySem.F.entry_tuple_index (PySem.F.args_tuple_index_2 _ _)
    (_root_.TI.tuple_indexAt a its.toArray n dd sls uy (fun u => PyData.eqv (SeqAt.readOf s.heap u) d) j hj ?_ ?_) ⟨ho, SeqAt.items_eqAt (vs := its.toArray) (show ReadsAll s.heap its.toArray.toList ds as from h4) r1 can (SeqAt.canLay_of_shaped sd) room, ?_⟩
  · rw [at_ j hj z hz]; exact hzj
  · intro m hm hmj
    have hm' : m < ds.length := by rw [List.size_toArray] at hm; omega
    rw [at_ m hm _ (List.getElem?_eq_getElem hm')]
    exact hno m _ hmj (List.getElem?_eq_getElem hm')
  · exact ⟨L2.V.int (j : Nat), H, I.tok _, ⟨_, rfl⟩, q⟩
theorem OpdR.seq {K : Frag} {F H : Hp} {σ : L2.St} {e : Env} (r : Rel K F H σ e) {o : Opd} {v : L2.V} {x : D} {xs : List D} (h : OpdR K F H σ e o v) (hv : Sw.view o e = some x) (hx : seqOf x = some xs) :
    (isL x = true ∧ ∃ a vs, v = .ref a ∧ SqL K H a vs) ∨ (isL x = false ∧ ∃ a vs, v = .ref a ∧ TupX K H a vs) := by
  have vw := h.view r hv
  cases x <;> first | (cases hx; done) | skip
  · obtain ⟨a, vs, rfl, h1, h2⟩ := vw.list r.sub
    exact .inl ⟨rfl, a, vs, rfl, h1⟩
  · obtain ⟨a, vs, rfl, h1, h2⟩ := vw.tup r.sub
    exact .inr ⟨rfl, a, vs, rfl, r.sub.tupX h1⟩
theorem indexD_inv {x y : D} {w : V} (h : indexD x y = some w) : ∃ xs, ∃ j : Nat, seqOf x = some xs ∧ shapedB x = true ∧ shapedB y = true ∧ find y xs 0 = some j ∧ w = .d (.int j) := by
  unfold indexD at h
  simp only [Option.bind_eq_some_iff] at h
  obtain ⟨xs, h1, h2⟩ := h
  split at h2
  · rename_i hc
    rw [Bool.and_eq_true] at hc
    simp only [Option.map_eq_some_iff] at h2
    obtain ⟨j, h3, rfl⟩ := h2
    exact ⟨xs, j, h1, hc.1, hc.2, h3, rfl⟩
  · cases h2
theorem se_index {a b : E} {apos cpos : Pos} (ha : SO N sc CX ex φ (opW (evalE φ a) a)) (hb : SO N sc CX ey φ (opW (evalE φ b) b)) (hs : isBase ex = true) (hline : (apos.endLine == cpos.line) = true) (hn : noStar ey = true) :
    SE N sc CX (.Call (.Attribute ex (Str.ofString "index") apos) [ey] [] cpos) φ (evalE φ (.index a b)) := by
  intro X G e w e' hr F H σ Q rel k
  simp only [evalE] at hr
  obtain ⟨⟨oa, e1⟩, r1, r2⟩ := bind_inv hr
  obtain ⟨x0, r3, r4⟩ := bind_inv r2
  obtain ⟨xs0, r5, r6⟩ := bind_inv r4
  obtain ⟨⟨ob, e2⟩, r7, r8⟩ := bind_inv r6
  obtain ⟨x, r9, r10⟩ := bind_inv r8
  obtain ⟨y, r11, r12⟩ := bind_inv r10
  dsimp only at r12
  split at r12
  case isFalse => cases r12
  rename_i hk
  obtain ⟨r13, rfl⟩ := ret1_inv r12
  obtain ⟨xs, j, i1, i2, i3, i4, rfl⟩ := indexD_inv r13
  obtain ⟨i, z, j1, j2, j3, j4⟩ := find_at i4
  have hj : j = i := by omega
  subst hj
  have hu : X.A.units + 65 < cLine := by have := G.units; omega
  by_cases hL : isL x0 = true
  · refine RE.of (pe_m1 PySem.F.plainAttrs_list PySem.F.slot_list_index PySem.F.type_list_index (mt_indexD hu) hs hline hn) ?_
    refine ha X G e oa e1 r1 F H σ _ rel fun u F1 H1 p1 o1 _ => ?_
    rcases o1.seq p1.rel (ofO_inv r3) (ofO_inv r5) with ⟨_, c, vs, rfl, hc⟩ | ⟨z, _⟩
    · refine ⟨ty_list hc, hb X G e1 ob _ r7 F1 H1 σ _ p1.rel fun v F2 H2 p2 o2 _ => ?_⟩
      have p := p1.trans p2
      have vx := (o1.stay p2).view p.rel (ofO_inv r9)
      have vy := o2.view p.rel (ofO_inv r11)
      rw [hL] at hk
      cases x <;> first | (cases i1; done) | skip
      · cases i1
        exact ⟨c, v, y, _, j, z, rfl, rfl, vx.dp p.rel.sub, vy.dp p.rel.sub, i2, i3, j2, j3, j4, k _ _ _ p (.int _) trivial⟩
      · cases hk
    · rw [hL] at z; cases z
  · have hL' : isL x0 = false := by simpa using hL
    refine RE.of (pe_m1 PySem.F.plainAttrs_tuple PySem.F.slot_tuple_index PySem.F.type_tuple_index (mt_indexT hu) hs hline hn) ?_
    refine ha X G e oa e1 r1 F H σ _ rel fun u F1 H1 p1 o1 _ => ?_
    rcases o1.seq p1.rel (ofO_inv r3) (ofO_inv r5) with ⟨z, _⟩ | ⟨_, c, vs, rfl, hc⟩
    · rw [hL'] at z; cases z
    · refine ⟨ty_tup hc, hb X G e1 ob _ r7 F1 H1 σ _ p1.rel fun v F2 H2 p2 o2 _ => ?_⟩
      have p := p1.trans p2
      have vx := (o1.stay p2).view p.rel (ofO_inv r9)
      have vy := o2.view p.rel (ofO_inv r11)
      rw [hL'] at hk
      cases x <;> first | (cases i1; done) | skip
      · cases hk
      · cases i1
        obtain ⟨c', vs', e3, h1, h2⟩ := vx.tup p.rel.sub
        cases e3
        exact ⟨c, vs', v, y, _, j, z, rfl, rfl, p.rel.sub.sqT h1.sq, Rp.dps _ _ (p.rel.sub.rpAll _ _ h2), vy.dp p.rel.sub, shaped_tup i2, i3, j2, j3, j4, k _ _ _ p (.int _) trivial⟩
end
end Sw
end T_SwH
section T_SwI
set_option autoImplicit false
set_option linter.all false
set_option Elab.async false
set_option maxRecDepth 100000
/-! SwI: truth, tests; and, or, not, if-else, chains. -/
namespace Sw
open PySem L2
section
variable {N : List Str} {sc : Scope} {CX : CXT} {φ : Orc} {ex ey ez big : Expr} {exs : List Expr}

theorem truth_ok {K : Frag} {F H : Hp} (s : Sub F H) {v : L2.V} {x : D} {b : Bool} (h : VwR K F H v x) (ht : truth x = some b) : TruV K v H b := by
  have h := h.rp s
  cases h with
  | non => cases ht; rfl
  | bl c => cases ht; rfl
  | int i => cases ht; rfl
  | str y =>
    simp only [truth] at ht
    split at ht
    · rename_i hz
      cases ht
      refine ⟨hz, ?_⟩
      by_cases z : y.length = 0
      · rw [z]; rfl
      · have z2 : ((y.length : Nat) : Int) ≠ 0 := by omega
        simp only [bne, beq_eq_false_iff_ne.mpr z, beq_eq_false_iff_ne.mpr z2]
    · cases ht
  | lst h1 h2 =>
    cases ht
    refine .inl ⟨_, h1, ?_⟩
    cases h2 <;> rfl
  | tup h1 h2 =>
    cases ht
    refine .inr (.inl ⟨_, h1.sq, ?_⟩)
    cases h2 <;> rfl
theorem ptW {X : Cx} (ex : Expr) : PW X ex (RW X ex) := ⟨fun wh pins s σ H Q I h => h wh pins s I⟩
def SW (N : List Str) (sc : Scope) (CX : CXT) (ex : Expr) (φ : Orc) (r : Env → R (Bool × Env)) : Prop :=
  ∀ X, Good N sc CX X φ → ∀ e w e', r e = .ok (w, e') → ∀ F H σ (Q : Bool → Hp → Prop), Rel X.K F H σ e →
    (∀ F' H', Post X.K F H σ e F' H' σ e' → Q w H') → RW X ex σ H Q
/-- its value's truth -/
def SB (N : List Str) (sc : Scope) (CX : CXT) (ex : Expr) (φ : Orc) (r : Env → R (Bool × Env)) : Prop :=
  ∀ X, Good N sc CX X φ → ∀ e w e', r e = .ok (w, e') → ∀ F H σ (Q : VK), Rel X.K F H σ e →
    (∀ v F' H', Post X.K F H σ e F' H' σ e' → TruV X.K v H' w → Q v H') → RE X ex σ H Q
def andR (ra rb : Env → R (Bool × Env)) : Env → R (Bool × Env) := fun e => (ra e).bind fun p => if p.1 then rb p.2 else .ok (false, p.2)
def orR (ra rb : Env → R (Bool × Env)) : Env → R (Bool × Env) := fun e => (ra e).bind fun p => if p.1 then .ok (true, p.2) else rb p.2
theorem evalT_and (a b : Te) : evalT φ (.and a b) = andR (evalT φ a) (evalT φ b) := by funext e; simp only [evalT, andR]
theorem evalT_or (a b : Te) : evalT φ (.or a b) = orR (evalT φ a) (evalT φ b) := by funext e; simp only [evalT, orR]
theorem SW.st {r : Env → R (Bool × Env)} (h : SW N sc CX ex φ r) : ST N sc CX ex φ r := fun X G e w e' hr F H σ Q rel k pins s I => h X G e w e' hr F H σ Q rel k _ pins s I
section
variable {ra rb : Env → R (Bool × Env)} {pos : Pos} {rest : List Expr}
theorem RW.of {X : Cx} {σ : L2.St} {H : Hp} {t : TT} {Q : Bool → Hp → Prop} (h : PW X ex t) (q : t σ H Q) : RW X ex σ H Q := fun wh pins s I => h.run wh pins s σ H Q I q
theorem sw_and1 (ha : ST N sc CX ex φ ra) : SW N sc CX (.BoolOp .And [ex] pos) φ ra := fun X G e w e' hr F H σ Q rel k => RW.of (pw_and1 (ptT ex)) (ha X G e w e' hr F H σ Q rel k)
theorem sw_or1 (ha : ST N sc CX ex φ ra) : SW N sc CX (.BoolOp .Or [ex] pos) φ ra := fun X G e w e' hr F H σ Q rel k => RW.of (pw_or1 (ptT ex)) (ha X G e w e' hr F H σ Q rel k)
theorem sw_and (ha : ST N sc CX ex φ ra) (hb : SW N sc CX (.BoolOp .And (ey :: rest) pos) φ rb) : SW N sc CX (.BoolOp .And (ex :: ey :: rest) pos) φ (andR ra rb) := by
  intro X G e w e' hr F H σ Q rel k
  obtain ⟨⟨b, e1⟩, r1, r2⟩ := bind_inv hr
  refine RW.of (pw_and (ptT ex) (ptW _)) (ha X G e b e1 r1 F H σ _ rel fun F1 H1 p1 => ?_)
  cases b with
  | true => exact hb X G e1 w e' r2 F1 H1 σ Q p1.rel fun F2 H2 p2 => k F2 H2 (p1.trans p2)
  | false => cases r2; exact k F1 H1 p1
theorem sw_or (ha : ST N sc CX ex φ ra) (hb : SW N sc CX (.BoolOp .Or (ey :: rest) pos) φ rb) : SW N sc CX (.BoolOp .Or (ex :: ey :: rest) pos) φ (orR ra rb) := by
  intro X G e w e' hr F H σ Q rel k
  obtain ⟨⟨b, e1⟩, r1, r2⟩ := bind_inv hr
  refine RW.of (pw_or (ptT ex) (ptW _)) (ha X G e b e1 r1 F H σ _ rel fun F1 H1 p1 => ?_)
  cases b with
  | false => exact hb X G e1 w e' r2 F1 H1 σ Q p1.rel fun F2 H2 p2 => k F2 H2 (p1.trans p2)
  | true => cases r2; exact k F1 H1 p1
theorem sb_one {op : PySem.BoolOp} (ha : SB N sc CX ex φ ra) : SB N sc CX (.BoolOp op [ex] pos) φ ra := fun X G e w e' hr F H σ Q rel k => RE.of (pe_one (peE ex)) (ha X G e w e' hr F H σ Q rel k)
theorem sb_and (ha : SB N sc CX ex φ ra) (hb : SB N sc CX (.BoolOp .And (ey :: rest) pos) φ rb) : SB N sc CX (.BoolOp .And (ex :: ey :: rest) pos) φ (andR ra rb) := by
  intro X G e w e' hr F H σ Q rel k
  obtain ⟨⟨b, e1⟩, r1, r2⟩ := bind_inv hr
  refine RE.of (pe_andT (peE ex) (peE _)) (ha X G e b e1 r1 F H σ _ rel fun v F1 H1 p1 t1 => ⟨b, t1, ?_⟩)
  cases b with
  | true => exact hb X G e1 w e' r2 F1 H1 σ Q p1.rel fun v F2 H2 p2 t2 => k v F2 H2 (p1.trans p2) t2
  | false => cases r2; exact k v F1 H1 p1 t1
theorem sb_or (ha : SB N sc CX ex φ ra) (hb : SB N sc CX (.BoolOp .Or (ey :: rest) pos) φ rb) : SB N sc CX (.BoolOp .Or (ex :: ey :: rest) pos) φ (orR ra rb) := by
  intro X G e w e' hr F H σ Q rel k
  obtain ⟨⟨b, e1⟩, r1, r2⟩ := bind_inv hr
  refine RE.of (pe_orT (peE ex) (peE _)) (ha X G e b e1 r1 F H σ _ rel fun v F1 H1 p1 t1 => ⟨b, t1, ?_⟩)
  cases b with
  | false => exact hb X G e1 w e' r2 F1 H1 σ Q p1.rel fun v F2 H2 p2 t2 => k v F2 H2 (p1.trans p2) t2
  | true => cases r2; exact k v F1 H1 p1 t1
end
theorem st_not {a : Te} {pos : Pos} (h : ST N sc CX ex φ (evalT φ a)) : ST N sc CX (.UnaryOp .Not ex pos) φ (evalT φ (.not a)) := by
  intro X G e w e' hr F H σ Q rel k
  simp only [evalT] at hr
  obtain ⟨⟨b, e1⟩, r1, r2⟩ := bind_inv hr
  cases r2
  exact RT.of (pt_not (ptT ex)) (h X G e b _ r1 F H σ _ rel k)
theorem sb_not {a : Te} {pos : Pos} (h : SB N sc CX ex φ (evalT φ a)) : SB N sc CX (.UnaryOp .Not ex pos) φ (evalT φ (.not a)) := by
  intro X G e w e' hr F H σ Q rel k
  simp only [evalT] at hr
  obtain ⟨⟨b, e1⟩, r1, r2⟩ := bind_inv hr
  cases r2
  exact RE.of (pe_notT (peE ex)) (h X G e b _ r1 F H σ _ rel fun v F1 H1 p1 t1 => ⟨b, t1, k _ F1 H1 p1 rfl⟩)
theorem se_not {a : Te} {pos : Pos} (h : SB N sc CX ex φ (evalT φ a)) : SE N sc CX (.UnaryOp .Not ex pos) φ (evalE φ (.not a)) := by
  intro X G e w e' hr F H σ Q rel k
  simp only [evalE] at hr
  obtain ⟨⟨b, e1⟩, r1, r2⟩ := bind_inv hr
  cases r2
  exact RE.of (pe_notT (peE ex)) (h X G e b _ r1 F H σ _ rel fun v F1 H1 p1 t1 => ⟨b, t1, k _ F1 H1 p1 (.bl _) trivial⟩)
theorem pt_ifExp {X : Cx} {c : Expr} {pos : Pos} : PT X (.IfExp c ex ey pos) fun σ H Q => RT X c σ H fun b H1 => if b = true then RT X ex σ H1 Q else RT X ey σ H1 Q := by
  refine ⟨fun pins s σ H Q I h => ?_⟩
  rw [arm_isTrue_IfExp]
  refine wpAny_bind (wpAny_mono (h pins s I) (fun b s1 q => ?_) fun _ _ z => z)
  obtain ⟨H1, I1, q⟩ := q
  cases b with
  | true => exact q pins s1 I1
  | false => exact q pins s1 I1
theorem st_ite {t a b : Te} {et : Expr} {pos : Pos} (ht : ST N sc CX et φ (evalT φ t)) (ha : ST N sc CX ex φ (evalT φ a)) (hb : ST N sc CX ey φ (evalT φ b)) : ST N sc CX (.IfExp et ex ey pos) φ (evalT φ (.ite t a b)) := by
  intro X G e w e' hr F H σ Q rel k
  simp only [evalT] at hr
  obtain ⟨⟨c, e1⟩, r1, r2⟩ := bind_inv hr
  refine RT.of pt_ifExp (ht X G e c e1 r1 F H σ _ rel fun F1 H1 p1 => ?_)
  cases c with
  | true => exact ha X G e1 w e' r2 F1 H1 σ Q p1.rel fun F2 H2 p2 => k F2 H2 (p1.trans p2)
  | false => exact hb X G e1 w e' r2 F1 H1 σ Q p1.rel fun F2 H2 p2 => k F2 H2 (p1.trans p2)
theorem sb_ite {t a b : Te} {et : Expr} {pos : Pos} (ht : ST N sc CX et φ (evalT φ t)) (ha : SB N sc CX ex φ (evalT φ a)) (hb : SB N sc CX ey φ (evalT φ b)) : SB N sc CX (.IfExp et ex ey pos) φ (evalT φ (.ite t a b)) := by
  intro X G e w e' hr F H σ Q rel k
  simp only [evalT] at hr
  obtain ⟨⟨c, e1⟩, r1, r2⟩ := bind_inv hr
  refine RE.of (pe_ifExp (ptT et) (peE ex) (peE ey)) (ht X G e c e1 r1 F H σ _ rel fun F1 H1 p1 => ?_)
  cases c with
  | true => exact ha X G e1 w e' r2 F1 H1 σ Q p1.rel fun v F2 H2 p2 => k v F2 H2 (p1.trans p2)
  | false => exact hb X G e1 w e' r2 F1 H1 σ Q p1.rel fun v F2 H2 p2 => k v F2 H2 (p1.trans p2)
theorem se_ite {t : Te} {a b : E} {et : Expr} {pos : Pos} (ht : ST N sc CX et φ (evalT φ t)) (ha : SE N sc CX ex φ (evalE φ a)) (hb : SE N sc CX ey φ (evalE φ b)) : SE N sc CX (.IfExp et ex ey pos) φ (evalE φ (.ite t a b)) := by
  intro X G e w e' hr F H σ Q rel k
  simp only [evalE] at hr
  obtain ⟨⟨c, e1⟩, r1, r2⟩ := bind_inv hr
  refine RE.of (pe_ifExp (ptT et) (peE ex) (peE ey)) (ht X G e c e1 r1 F H σ _ rel fun F1 H1 p1 => ?_)
  cases c with
  | true => exact ha X G e1 w e' r2 F1 H1 σ Q p1.rel fun v F2 H2 p2 q2 f2 => k v F2 H2 (p1.trans p2) q2 (From.trans p1 f2)
  | false => exact hb X G e1 w e' r2 F1 H1 σ Q p1.rel fun v F2 H2 p2 q2 f2 => k v F2 H2 (p1.trans p2) q2 (From.trans p1 f2)
theorem se_one {r : Env → R (V × Env)} {op : PySem.BoolOp} {pos : Pos} (h : SE N sc CX ex φ r) : SE N sc CX (.BoolOp op [ex] pos) φ r := fun X G e w e' hr F H σ Q rel k => RE.of (pe_one (peE ex)) (h X G e w e' hr F H σ Q rel k)
theorem se_and {a b : E} {rest : List Expr} {pos : Pos} (ha : SD N sc CX ex φ (daW (evalE φ a))) (hb : SE N sc CX (.BoolOp .And (ey :: rest) pos) φ (evalE φ b)) : SE N sc CX (.BoolOp .And (ex :: ey :: rest) pos) φ (evalE φ (.and a b)) := by
  intro X G e w e' hr F H σ Q rel k
  simp only [evalE] at hr
  obtain ⟨⟨x, e1⟩, r1, r2⟩ := bind_inv hr
  dsimp only at r2
  refine RE.of (pe_andT (peE ex) (peE _)) (ha X G e x e1 r1 F H σ _ rel fun v F1 H1 p1 d1 => ?_)
  cases ht : truth x with
  | none => rw [ht] at r2; cases r2
  | some c =>
    rw [ht] at r2
    refine ⟨c, truth_ok p1.rel.sub (.inl d1) ht, ?_⟩
    cases c with
    | true => exact hb X G e1 w e' r2 F1 H1 σ Q p1.rel fun v F2 H2 p2 q2 f2 => k v F2 H2 (p1.trans p2) q2 (From.trans p1 f2)
    | false => cases r2; exact k v F1 H1 p1 d1 trivial
theorem se_or {a b : E} {rest : List Expr} {pos : Pos} (ha : SD N sc CX ex φ (daW (evalE φ a))) (hb : SE N sc CX (.BoolOp .Or (ey :: rest) pos) φ (evalE φ b)) : SE N sc CX (.BoolOp .Or (ex :: ey :: rest) pos) φ (evalE φ (.or a b)) := by
  intro X G e w e' hr F H σ Q rel k
  simp only [evalE] at hr
  obtain ⟨⟨x, e1⟩, r1, r2⟩ := bind_inv hr
  dsimp only at r2
  refine RE.of (pe_orT (peE ex) (peE _)) (ha X G e x e1 r1 F H σ _ rel fun v F1 H1 p1 d1 => ?_)
  cases ht : truth x with
  | none => rw [ht] at r2; cases r2
  | some c =>
    rw [ht] at r2
    refine ⟨c, truth_ok p1.rel.sub (.inl d1) ht, ?_⟩
    cases c with
    | false => exact hb X G e1 w e' r2 F1 H1 σ Q p1.rel fun v F2 H2 p2 q2 f2 => k v F2 H2 (p1.trans p2) q2 (From.trans p1 f2)
    | true => cases r2; exact k v F1 H1 p1 d1 trivial

/-! ### a plain expression as a test -/
def isPlainT : Expr → Bool
  | .UnaryOp .Not _ _ => false
  | .BoolOp _ _ _ => false
  | .IfExp _ _ _ _ => false
  | .Compare _ _ _ _ => false
  | _ => true
theorem plainT_of {env : PySem.Env} (h : isPlainT ex = true) (whole : Sem Value) : isTrue ex env whole = (do let v ← whole; standAt ex.pos; holding [v] (truthy v)) := by
  cases ex <;> first | rfl | (cases h; done) | skip
  rename_i op a p
  cases op <;> first | rfl | cases h
theorem evalT_e {a : E} {e : Env} {w : Bool} {e' : Env} (h : evalT φ (.e a) e = .ok (w, e')) : ∃ o x, opW (evalE φ a) a e = .ok (o, e') ∧ view o e' = some x ∧ truth x = some w := by
  simp only [evalT] at h
  obtain ⟨⟨o, e1⟩, r1, r2⟩ := bind_inv h
  obtain ⟨x, r3, r4⟩ := bind_inv r2
  obtain ⟨b, r5, r6⟩ := bind_inv r4
  cases r6
  exact ⟨o, x, r1, ofO_inv r3, ofO_inv r5⟩
theorem st_plain {a : E} (so : SO N sc CX ex φ (opW (evalE φ a) a)) (h : isPlainT ex = true) : ST N sc CX ex φ (evalT φ (.e a)) := by
  intro X G e w e' hr F H σ Q rel k
  obtain ⟨o, x, r1, r2, r3⟩ := evalT_e hr
  refine RT.of (pt_truth (peE ex) (plainT_of h)) (so X G e o e' r1 F H σ _ rel fun v F1 H1 p1 o1 _ => ?_)
  exact ⟨w, truth_ok p1.rel.sub (o1.view p1.rel r2) r3, k F1 H1 p1⟩
theorem sb_e {a : E} (so : SO N sc CX ex φ (opW (evalE φ a) a)) : SB N sc CX ex φ (evalT φ (.e a)) := by
  intro X G e w e' hr F H σ Q rel k
  obtain ⟨o, x, r1, r2, r3⟩ := evalT_e hr
  exact so X G e o e' r1 F H σ _ rel fun v F1 H1 p1 o1 _ => k v F1 H1 p1 (truth_ok p1.rel.sub (o1.view p1.rel r2) r3)

/-! ### comparisons as tests, chains -/
def isCmp : O2 → Bool
  | .eq | .ne | .lt | .le | .gt | .ge | .inn | .notin => true
  | _ => false
theorem cmpD_bool {x y : D} {f : Int → Int → Bool} {g : List Int → List Int → Option Bool} {w : V} (h : cmpD x y f g = some w) : ∃ b, w = .d (.bool b) := by
  rcases cmpD_inv h with ⟨i, j, _, _, rfl⟩ | ⟨_, _, r, _, _, _, rfl⟩
  · exact ⟨_, rfl⟩
  · exact ⟨_, rfl⟩
theorem cmp_bool {o : O2} {x y : D} {w : V} (hc : isCmp o = true) (h : op2 o x y = some w) : ∃ b, w = .d (.bool b) := by
  cases o <;> first | (cases hc; done) | skip
  · simp only [op2, Option.map_eq_some_iff] at h; obtain ⟨b, _, rfl⟩ := h; exact ⟨_, rfl⟩
  · simp only [op2, Option.map_eq_some_iff] at h; obtain ⟨b, _, rfl⟩ := h; exact ⟨_, rfl⟩
  · exact cmpD_bool h
  · exact cmpD_bool h
  · exact cmpD_bool h
  · exact cmpD_bool h
  · simp only [op2, Option.map_eq_some_iff] at h; obtain ⟨b, _, rfl⟩ := h; exact ⟨_, rfl⟩
  · simp only [op2, Option.map_eq_some_iff] at h; obtain ⟨b, _, rfl⟩ := h; exact ⟨_, rfl⟩
theorem so_l {r : Env → R (Opd × Env)} (h : SO N sc CX ex φ r) : ∀ X, Good N sc CX X φ → ∀ e w e', r e = .ok (w, e') → ∀ F H σ (Q : VK), Rel X.K F H σ e →
    (∀ v F' H', Live X σ H' → Post X.K F H σ e F' H' σ e' → OpdR X.K F' H' σ e' w v → FromO H σ e w v → Q v H') → RE X ex σ H Q := by
  intro X G e w e' hr F H σ Q rel k
  refine RE.mono (RE.live (h X G e w e' hr F H σ (fun v H' => ∃ F', Post X.K F H σ e F' H' σ e' ∧ OpdR X.K F' H' σ e' w v ∧ FromO H σ e w v) rel fun v F' H' p o f => ⟨F', p, o, f⟩)) ?_
  rintro v H' ⟨l, F', p, o, f⟩
  exact k v F' H' l p o f
theorem st_cmp {o : O2} {op : CmpOp} {a b : E} {pos : Pos} (hc : isCmp o = true) (sa : SO N sc CX ex φ (opW (evalE φ a) a)) (sb : SO N sc CX ey φ (opW (evalE φ b) b)) (oc : OC N sc CX φ o op) (hm : behindInMarks op ey = false) :
    ST N sc CX (.Compare ex [op] [ey] pos) φ (evalT φ (.e (.o2 o a b))) := by
  intro X G e w e' hr F H σ Q rel k
  obtain ⟨o', x', r1, r2, r3⟩ := evalT_e hr
  obtain ⟨⟨w2, e2⟩, r4, r5⟩ := bind_inv (r := evalE φ (.o2 o a b) e) (f := fun p => R.ok (Opd.v p.1, p.2)) r1
  cases r5
  simp only [evalE] at r4
  obtain ⟨⟨oa, e1⟩, g1, g2⟩ := bind_inv r4
  obtain ⟨⟨ob, e2⟩, g3, g4⟩ := bind_inv g2
  obtain ⟨x, g5, g6⟩ := bind_inv g4
  obtain ⟨y, g7, g8⟩ := bind_inv g6
  obtain ⟨g9, rfl⟩ := ret1_inv g8
  obtain ⟨c, rfl⟩ := cmp_bool hc g9
  cases r2
  have hw : c = w := Option.some.inj r3
  subst hw
  obtain ⟨r, ho, step⟩ := oc X G
  refine RT.of (pt_cmpR ho (peE ex) (peE ey) hm) ?_
  refine sa X G e oa e1 g1 F H σ _ rel fun u F1 H1 p1 o1 _ => ?_
  refine so_l sb X G e1 ob _ g3 F1 H1 σ _ p1.rel fun v F2 H2 l p2 o2 _ => ?_
  have p := p1.trans p2
  refine step σ H2 F2 _ _ x y _ u v g9 l p.rel ((o1.stay p2).view p.rel (ofO_inv g5)) (o2.view p.rel (ofO_inv g7)) fun z F' H' p3 q3 _ => ?_
  cases q3
  exact ⟨c, rfl, k F' H' (p.trans p3)⟩
theorem chain_run {o o' : O2} {a b c : E} (hc : isCmp o = true) (sa : SO N sc CX ex φ (opW (evalE φ a) a)) (sb : SO N sc CX ey φ (opW (evalE φ b) b)) (sz : SO N sc CX ez φ (opW (evalE φ c) c))
    {X : Cx} (G : Good N sc CX X φ) {r r' : R2}
    (step : ∀ σ H F e (Q : VK) x y w u v, op2 o x y = some w → Live X σ H → Rel X.K F H σ e → VwR X.K F H u x → VwR X.K F H v y → Cont X.K F H σ e w Q → r u v H Q)
    (step' : ∀ σ H F e (Q : VK) x y w u v, op2 o' x y = some w → Live X σ H → Rel X.K F H σ e → VwR X.K F H u x → VwR X.K F H v y → Cont X.K F H σ e w Q → r' u v H Q)
    {e : Env} {w : V} {e' : Env} (hr : evalE φ (.chain o o' a b c) e = .ok (w, e')) {F H : Hp} {σ : L2.St} {Q : VK} (rel : Rel X.K F H σ e)
    (k : ∀ v F' H', Post X.K F H σ e F' H' σ e' → ResR X.K F' H' σ e' w v → From H σ e w v → Q v H') : tChain r r' (RE X ex) (RE X ey) (RE X ez) σ H Q := by
  simp only [evalE] at hr
  obtain ⟨⟨oa, e1⟩, g1, g2⟩ := bind_inv hr
  obtain ⟨⟨ob, e2⟩, g3, g4⟩ := bind_inv g2
  obtain ⟨x, g5, g6⟩ := bind_inv g4
  obtain ⟨y, g7, g8⟩ := bind_inv g6
  dsimp only at g8
  refine sa X G e oa e1 g1 F H σ _ rel fun u F1 H1 p1 o1 _ => ?_
  refine so_l sb X G e1 ob e2 g3 F1 H1 σ _ p1.rel fun v F2 H2 l p2 o2 _ => ?_
  have p := p1.trans p2
  cases g9 : op2 o x y with
  | none => rw [g9] at g8; cases g8
  | some w1 =>
    obtain ⟨t, rfl⟩ := cmp_bool hc g9
    rw [g9] at g8
    refine step σ H2 F2 _ _ x y _ u v g9 l p.rel ((o1.stay p2).view p.rel (ofO_inv g5)) (o2.view p.rel (ofO_inv g7)) fun z F3 H3 p3 q3 _ => ?_
    cases q3
    refine ⟨t, rfl, ?_⟩
    cases t with
    | false =>
      cases g8
      exact k _ F3 H3 (p.trans p3) (.bl _) trivial
    | true =>
      obtain ⟨⟨oc, e4⟩, j1, j2⟩ := bind_inv g8
      obtain ⟨y1, j0, j2⟩ := bind_inv j2
      obtain ⟨z', j3, j4⟩ := bind_inv j2
      obtain ⟨j5, rfl⟩ := ret1_inv j4
      refine so_l sz X G e2 oc _ j1 F3 H3 σ _ (p.trans p3).rel fun v4 F4 H4 l4 p4 o4 _ => ?_
      have q := (p.trans p3).trans p4
      exact step' σ H4 F4 _ _ y1 z' w v v4 j5 l4 q.rel ((o2.stay (p3.trans p4)).view q.rel (ofO_inv j0)) (o4.view q.rel (ofO_inv j3)) fun v' F' H' p5 q5 f5 => k v' F' H' (q.trans p5) q5 (From.trans q f5)
theorem se_chain {o o' : O2} {op op' : CmpOp} {a b c : E} {pos : Pos} (hc : isCmp o = true) (sa : SO N sc CX ex φ (opW (evalE φ a) a)) (sb : SO N sc CX ey φ (opW (evalE φ b) b)) (sz : SO N sc CX ez φ (opW (evalE φ c) c))
    (oc : OC N sc CX φ o op) (oc' : OC N sc CX φ o' op') (hm : lastMarks [op, op'] [ey, ez] = false) : SE N sc CX (.Compare ex [op, op'] [ey, ez] pos) φ (evalE φ (.chain o o' a b c)) := by
  intro X G e w e' hr F H σ Q rel k
  obtain ⟨r, ho, step⟩ := oc X G
  obtain ⟨r', ho', step'⟩ := oc' X G
  exact RE.of (pe_chain ho ho' (peE ex) (peE ey) (peE ez) hm) (chain_run hc sa sb sz G step step' hr rel k)
theorem chain_bool {o o' : O2} {a b c : E} (hc : isCmp o' = true) {e : Env} {w : V} {e' : Env} (hr : evalE φ (.chain o o' a b c) e = .ok (w, e')) : ∃ t, w = .d (.bool t) := by
  simp only [evalE] at hr
  obtain ⟨⟨oa, e1⟩, g1, g2⟩ := bind_inv hr
  obtain ⟨⟨ob, e2⟩, g3, g4⟩ := bind_inv g2
  obtain ⟨x, g5, g6⟩ := bind_inv g4
  obtain ⟨y, g7, g8⟩ := bind_inv g6
  dsimp only at g8
  split at g8
  · obtain ⟨⟨oc, e4⟩, j1, j2⟩ := bind_inv g8
    obtain ⟨y1, j0, j2⟩ := bind_inv j2
    obtain ⟨z', j3, j4⟩ := bind_inv j2
    obtain ⟨j5, rfl⟩ := ret1_inv j4
    exact cmp_bool hc j5
  · cases g8; exact ⟨_, rfl⟩
  · cases g8
theorem st_chain {o o' : O2} {op op' : CmpOp} {a b c : E} {pos : Pos} (hc : isCmp o = true) (hc' : isCmp o' = true) (sa : SO N sc CX ex φ (opW (evalE φ a) a)) (sb : SO N sc CX ey φ (opW (evalE φ b) b)) (sz : SO N sc CX ez φ (opW (evalE φ c) c))
    (oc : OC N sc CX φ o op) (oc' : OC N sc CX φ o' op') (hm : lastMarks [op, op'] [ey, ez] = false) : ST N sc CX (.Compare ex [op, op'] [ey, ez] pos) φ (evalT φ (.e (.chain o o' a b c))) := by
  intro X G e w e' hr F H σ Q rel k
  obtain ⟨o2, x', r1, r2, r3⟩ := evalT_e hr
  obtain ⟨⟨w2, e2⟩, r4, r5⟩ := bind_inv (r := evalE φ (.chain o o' a b c) e) (f := fun p => R.ok (Opd.v p.1, p.2)) r1
  cases r5
  obtain ⟨t, rfl⟩ := chain_bool hc' r4
  cases r2
  have hw : t = w := Option.some.inj r3
  subst hw
  obtain ⟨r, ho, step⟩ := oc X G
  obtain ⟨r', ho', step'⟩ := oc' X G
  refine RT.of (pt_chain ho ho' (peE ex) (peE ey) (peE ez) hm) (chain_run hc sa sb sz G step step' r4 rel fun v F' H' p q _ => ?_)
  cases q
  exact ⟨t, rfl, k F' H' p⟩
def noneB : D → Bool | .none => true | _ => false
/-- is None, is True as tests -/
theorem st_isNone {b : Bool} {a : E} {j : Nat} {pos p2 : Pos} (so : SO N sc CX ex φ (opW (evalE φ a) a)) : ST N sc CX (.Compare ex [if b then .Is else .IsNot] [.Constant .none j p2] pos) φ (evalT φ (.e (.o1 (.isNone b) a))) := by
  intro X G e w e' hr F H σ Q rel k
  obtain ⟨o2, x', r1, r2, r3⟩ := evalT_e hr
  obtain ⟨⟨w2, e2⟩, r4, r5⟩ := bind_inv (r := evalE φ (.o1 (.isNone b) a) e) (f := fun p => R.ok (Opd.v p.1, p.2)) r1
  cases r5
  simp only [evalE] at r4
  obtain ⟨⟨oa, e1⟩, g1, g2⟩ := bind_inv r4
  obtain ⟨x, g3, g4⟩ := bind_inv g2
  obtain ⟨g5, rfl⟩ := ret1_inv g4
  have run : RE X ex σ H (fun v H1 => Q (if b then decide (v = .non) else !decide (v = .non)) H1) := by
    refine so X G e oa _ g1 F H σ _ rel fun v F1 H1 p1 o1 _ => ?_
    have vw := o1.view p1.rel (ofO_inv g3)
    have hv : decide (v = .non) = noneB x := by
      rcases vw with h | ⟨a, vs, xs, rfl, rfl, _⟩
      · cases h <;> rfl
      · rfl
    rw [hv]
    have hw : (if b = true then noneB x else !noneB x) = w := by
      cases x <;> cases g5 <;> cases r2 <;> cases b <;> exact Option.some.inj r3
    rw [hw]
    exact k F1 H1 p1
  cases b
  · exact RT.of (pt_cmp (pc_notN (peE ex)) rfl) (RE.mono run fun v H1 q => ⟨_, rfl, q⟩)
  · exact RT.of (pt_cmp (pc_isN (peE ex)) rfl) (RE.mono run fun v H1 q => ⟨_, rfl, q⟩)
end
end Sw
end T_SwI
section T_SwJ
set_option autoImplicit false
set_option linter.all false
set_option Elab.async false
set_option maxRecDepth 100000
/-! SwJ: slots stored, lists changed, statements without loops. -/
namespace Sw
open PySem L2
section
variable {K : Frag} {F H F1 H1 : Hp} {σ σ1 : L2.St} {e e1 : Env}
theorem Post.set (p : Post K F H σ e F1 H1 σ1 e1) {i : Nat} {v : L2.V} {w : V} (hi : i < σ1.length) (r : ResR K F1 H1 σ1 e1 w v) (f : From H σ e w v) : Post K F H σ e F1 H1 (σ1.set i (some v)) (e1.set i w) := by
  have self : (σ1.set i (some v))[i]? = some (some v) := List.getElem?_set_self hi
  have other : ∀ j, j ≠ i → (σ1.set i (some v))[j]? = σ1[j]? := fun j hj => List.getElem?_set_ne fun q => hj q.symm
  have old : ∀ j, isOwn (get (e1.set i w) j) = true → (j = i ∧ isOwn w = true) ∨ (j ≠ i ∧ isOwn (get e1 j) = true) := fun j h => by
    rw [get_set] at h
    by_cases hj : j = i
    · subst hj
      split at h
      · exact .inl ⟨rfl, h⟩
      · rename_i z
        rw [get_ge (by omega)] at h; cases h
    · rw [if_neg (fun z => hj z.1)] at h
      exact .inr ⟨hj, h⟩
  have wown : isOwn w = true → ∀ a, v = .ref a → ¬ Own σ1 e1 a := fun ho a ha => by
    obtain ⟨xs, rfl⟩ := own_v r ho
    obtain ⟨b, vs, h1, h2, h3, h4, h5⟩ := r
    rw [ha] at h1; cases h1
    exact h5
  refine ⟨p.grow, ⟨p.rel.sub, fun j => ?_, fun j l a h1 h2 h3 h4 => ?_⟩, p.keep, p.new, p.dom, fun a h => ?_⟩
  · rw [get_set]
    by_cases hj : j = i
    · subst hj
      split
      · rw [self]
        cases w with
        | u => exact False.elim r
        | k _ => exact False.elim r
        | d x => exact ⟨v, rfl, r⟩
        | c xs =>
          obtain ⟨b, vs, h1, h2, h3, h4, h5⟩ := r
          subst h1
          exact ⟨b, vs, rfl, h2, h3, h4⟩
      · rename_i z
        rw [get_ge (by omega)]; trivial
    · rw [if_neg (fun z => hj z.1), other j hj]
      exact p.rel.slot j
  · rcases old j h1 with ⟨rfl, o1⟩ | ⟨n1, o1⟩
    · rcases old l h2 with ⟨rfl, o2⟩ | ⟨n2, o2⟩
      · rfl
      · rw [self] at h3
        have hv : v = .ref a := by injection h3 with h3; injection h3
        rw [other l n2] at h4
        exact absurd ⟨l, o2, h4⟩ (wown o1 a hv)
    · rcases old l h2 with ⟨rfl, o2⟩ | ⟨n2, o2⟩
      · rw [self] at h4
        have hv : v = .ref a := by injection h4 with h4; injection h4
        rw [other j n1] at h3
        exact absurd ⟨j, o1, h3⟩ (wown o2 a hv)
      · rw [other j n1] at h3
        rw [other l n2] at h4
        exact p.rel.sep j l a o1 o2 h3 h4
  · obtain ⟨j, h1, h2⟩ := h
    rcases old j h1 with ⟨rfl, o1⟩ | ⟨n1, o1⟩
    · rw [self] at h2
      have hv : v = .ref a := by injection h2 with h2; injection h2
      obtain ⟨xs, rfl⟩ := own_v r o1
      rcases f a hv with z | z
      · exact .inr z
      · exact .inl z
    · rw [other j n1] at h2
      exact p.own a ⟨j, o1, h2⟩
/-- a list of one's own is changed -/
theorem Post.cell (r : Rel K F H σ e) {i : Nat} {xs ys : List D} {vs : List L2.V} {a : Addr} (g : get e i = .c xs) (hσ : σ[i]? = some (some (.ref a))) (d : RpAll K F vs ys) : Post K F H σ e F (upd H a (.lst vs)) σ (e.set i (.c ys)) := by
  have q := r.slot i
  rw [g] at q
  obtain ⟨b, us, q1, q2, q3, q4⟩ := q
  rw [hσ] at q1; cases q1
  have hi : i < e.length := by
    by_cases z : i < e.length
    · exact z
    · rw [get_ge (Nat.le_of_not_lt z)] at g; cases g
  have old : ∀ j, isOwn (get (e.set i (.c ys)) j) = true → isOwn (get e j) = true := fun j h => by
    rw [get_set] at h
    split at h
    · rename_i z
      rw [z.1, g]; rfl
    · exact h
  refine ⟨Sub.refl _, ⟨fun b u h => ?_, fun j => ?_, fun j l b h1 h2 => r.sep j l b (old j h1) (old l h2)⟩, fun b u h n => ?_, fun b h => .inl h, fun b h => ?_, fun b ⟨j, h1, h2⟩ => .inl ⟨j, old j h1, h2⟩⟩
  · rw [upd_ne (ne_of_none h q3)]; exact r.sub b u h
  · rw [get_set]
    split
    · rename_i z
      rw [z.1]
      exact ⟨a, vs, hσ, upd_same, q3, d⟩
    · rename_i z
      have s := r.slot j
      have own : ∀ b, isOwn (get e j) = true → σ[j]? = some (some (.ref b)) → b ≠ a := fun b g1 g2 w => by
        subst w
        exact z ⟨r.sep j i b g1 (by rw [g]; rfl) g2 hσ, hi⟩
      revert s own
      cases get e j with
      | u => exact fun s _ => s
      | d x => exact fun s _ => s
      | k x => exact fun s _ => s
      | c zs =>
        rintro ⟨b, ws, g1, g2, g3, g4⟩ own
        exact ⟨b, ws, g1, by rw [upd_ne (own b rfl g1)]; exact g2, g3, g4⟩
  · by_cases z : b = a
    · subst z; exact absurd ⟨i, by rw [g]; rfl, hσ⟩ n
    · rw [upd_ne z]; exact h
  · by_cases z : b = a
    · subst z; rw [upd_same] at h; cases h
    · rw [upd_ne z] at h; exact h
theorem killAll_len : ∀ (l : List Nat) (e : Env), (killAll l e).length = e.length
  | [], _ => rfl
  | i :: r, e => by unfold killAll; rw [List.length_set, killAll_len r e]
theorem get_kill {i : Nat} : ∀ {l : List Nat} {e : Env}, get (killAll l e) i = .u ∨ (get (killAll l e) i = get e i ∧ i ∉ l)
  | [], e => .inr ⟨rfl, by simp⟩
  | j :: r, e => by
    unfold killAll
    rw [get_set]
    by_cases h : i = j
    · subst h
      by_cases hl : i < (killAll r e).length
      · rw [if_pos ⟨rfl, hl⟩]; exact .inl rfl
      · rw [if_neg (fun z => hl z.2)]
        exact .inl (get_ge (by omega))
    · rw [if_neg (fun z => h z.1)]
      rcases get_kill (l := r) (e := e) with z | ⟨z1, z2⟩
      · exact .inl z
      · exact .inr ⟨z1, by simp only [List.mem_cons, not_or]; exact ⟨h, z2⟩⟩
theorem kill_own {l : List Nat} {i : Nat} (h : isOwn (get (killAll l e) i) = true) : isOwn (get e i) = true ∧ i ∉ l := by
  rcases get_kill (l := l) (e := e) (i := i) with z | ⟨z1, z2⟩
  · rw [z] at h; cases h
  · rw [z1] at h; exact ⟨h, z2⟩
theorem Post.kill (r : Rel K F H σ e) (l : List Nat) {σ' : L2.St} (hs : ∀ i, i ∉ l → σ'[i]? = σ[i]?) : Post K F H σ e F H σ' (killAll l e) := by
  refine ⟨Sub.refl _, ⟨r.sub, fun i => ?_, fun i j a h1 h2 h3 h4 => ?_⟩, fun _ _ h _ => h, fun _ h => .inl h, fun _ h => h, fun a ⟨i, h1, h2⟩ => ?_⟩
  · rcases get_kill (l := l) (e := e) (i := i) with z | ⟨z1, z2⟩
    · rw [z]; trivial
    · rw [z1, hs i z2]; exact r.slot i
  · obtain ⟨o1, n1⟩ := kill_own h1
    obtain ⟨o2, n2⟩ := kill_own h2
    rw [hs i n1] at h3
    rw [hs j n2] at h4
    exact r.sep i j a o1 o2 h3 h4
  · obtain ⟨o1, n1⟩ := kill_own h1
    rw [hs i n1] at h2
    exact .inl ⟨i, o1, h2⟩
end
section
variable {N : List Str} {sc : Scope} {CX : CXT} {φ : Orc} {ex ey ez big : Expr} {exs : List Expr}

/-! ### append, extend, pop -/
theorem isC_of {v : V} (h : isC v = true) : ∃ xs, v = .c xs := by
  cases v with
  | c xs => exact ⟨xs, rfl⟩
  | u => cases h
  | d _ => cases h
  | k _ => cases h
theorem Rel.cellAt {K : Frag} {F H : Hp} {σ : L2.St} {e : Env} (r : Rel K F H σ e) {i : Nat} {xs : List D} (g : get e i = .c xs) : ∃ a vs, σ[i]? = some (some (.ref a)) ∧ H a = some (.lst vs) ∧ F a = none ∧ RpAll K F vs xs := by
  have q := r.slot i
  rw [g] at q
  exact q
theorem se_app {i : Nat} {x : Str} {p apos cpos : Pos} {a : E} (hi : N[i]? = some x) (hv : isVis sc x = true) (hp : plainName x = true) (ha : SD N sc CX ey φ (daW (evalE φ a))) (hline : (apos.endLine == cpos.line) = true) (hn : noStar ey = true) :
    SE N sc CX (.Call (.Attribute (.Name x p) (Str.ofString "append") apos) [ey] [] cpos) φ (evalE φ (.app i a)) := by
  intro X G e w e' hr F H σ Q rel k
  simp only [evalE] at hr
  split at hr
  case isFalse => cases hr
  rename_i hc
  obtain ⟨xs0, g0⟩ := isC_of hc
  obtain ⟨⟨y, e1⟩, r1, r2⟩ := bind_inv hr
  dsimp only at r2
  split at r2
  case h_2 => cases r2
  rename_i xs g1
  split at r2
  case isFalse => cases r2
  rename_i hz
  cases r2
  obtain ⟨l, vs0, hσ, hl, _, _⟩ := rel.cellAt g0
  refine RE.of (pe_m1 PySem.F.plainAttrs_list PySem.F.slot_list_append PySem.F.type_list_append mt_append rfl hline hn) ?_
  refine RE.of (pe_name G hi hv hp) ⟨.ref l, hσ, ty_list (SqL.of hl), ha X G e y e1 r1 F H σ _ rel fun v F1 H1 p1 d1 => ?_⟩
  obtain ⟨l', vs, hσ', hl', _, hd⟩ := p1.rel.cellAt g1
  rw [hσ] at hσ'; cases hσ'
  exact ⟨l, vs, v, rfl, rfl, hl', by rw [rpAll_len hd]; exact hz, k _ _ _ (p1.trans (Post.cell p1.rel g1 hσ (rpAll_app hd (.cons d1 .nil)))) .non trivial⟩
theorem seqIx (n : Nat) (i : Int) : seqIndex? i n = ixN n i := by
  unfold ixN
  by_cases h : 0 ≤ i
  · rw [if_pos h]
    by_cases h2 : i < (n : Int)
    · rw [if_pos h2, seqIndex_of h h2]
    · rw [if_neg h2]
      unfold seqIndex?
      simp only [if_neg (show ¬ i < 0 by omega)]
      rw [if_neg (by simp only [Bool.and_eq_true, decide_eq_true_eq]; omega)]
  · rw [if_neg h]
    by_cases h2 : 0 ≤ i + (n : Int)
    · rw [if_pos h2, seqIndex_neg (by omega) (by omega)]
    · rw [if_neg h2]
      unfold seqIndex?
      simp only [if_pos (show i < 0 by omega)]
      rw [if_neg (by simp only [Bool.and_eq_true, decide_eq_true_eq]; omega)]
theorem rpAll_set {K : Frag} {F : Hp} {vs : List L2.V} {xs : List D} (h : RpAll K F vs xs) {v : L2.V} {x : D} (d : Rp K F v x) (j : Nat) : RpAll K F (vs.set j v) (xs.set j x) := by
  induction xs generalizing vs j with
  | nil => cases h; exact .nil
  | cons x xs ih =>
    cases h with
    | cons h1 h2 =>
      cases j with
      | zero => exact .cons d h2
      | succ j => exact .cons h1 (ih h2 j)
theorem rpAll_erase {K : Frag} {F : Hp} {vs : List L2.V} {xs : List D} (h : RpAll K F vs xs) (j : Nat) : RpAll K F (vs.eraseIdx j) (xs.eraseIdx j) := by
  induction xs generalizing vs j with
  | nil => cases h; exact .nil
  | cons x xs ih =>
    cases h with
    | cons h1 h2 =>
      cases j with
      | zero => exact h2
      | succ j => exact .cons h1 (ih h2 j)
theorem rpAll_dropLast {K : Frag} {F : Hp} {vs : List L2.V} {xs : List D} (h : RpAll K F vs xs) : RpAll K F vs.dropLast xs.dropLast := by
  induction xs generalizing vs with
  | nil => cases h; exact .nil
  | cons x xs ih =>
    cases h with
    | cons h1 h2 =>
      cases h2 with
      | nil => exact .nil
      | cons g1 g2 => exact .cons h1 (ih (.cons g1 g2))
theorem popAt_inv {xs : List D} {i : Int} {r : D × List D} (h : popAt xs i = some r) : -(2 ^ 63) ≤ i ∧ i < 2 ^ 63 ∧ ∃ j x, ixN xs.length i = some j ∧ xs[j]? = some x ∧ r = (x, xs.eraseIdx j) := by
  unfold popAt at h
  split at h
  · rename_i hc
    simp only [Option.bind_eq_some_iff, Option.map_eq_some_iff] at h
    obtain ⟨j, h1, x, h2, h3⟩ := h
    exact ⟨hc.1, hc.2, j, x, h1, h2, h3.symm⟩
  · cases h
theorem se_pop {i : Nat} {x : Str} {p apos cpos : Pos} {a : E} (hi : N[i]? = some x) (hv : isVis sc x = true) (hp : plainName x = true) (ha : SO N sc CX ey φ (opW (evalE φ a) a)) (hline : (apos.endLine == cpos.line) = true) (hn : noStar ey = true) :
    SE N sc CX (.Call (.Attribute (.Name x p) (Str.ofString "pop") apos) [ey] [] cpos) φ (evalE φ (.pop i a)) := by
  intro X G e w e' hr F H σ Q rel k
  simp only [evalE] at hr
  split at hr
  case isFalse => cases hr
  rename_i hc
  obtain ⟨xs0, g0⟩ := isC_of hc
  obtain ⟨⟨oa, e1⟩, r1, r2⟩ := bind_inv hr
  obtain ⟨y, r3, r4⟩ := bind_inv r2
  dsimp only at r4
  split at r4
  case h_2 => cases r4
  rename_i xs j g1
  split at r4
  case h_2 => cases r4
  rename_i r hr'
  cases r4
  obtain ⟨b1, b2, n, z, b3, b4, rfl⟩ := popAt_inv hr'
  obtain ⟨l, vs0, hσ, hl, _, _⟩ := rel.cellAt g0
  refine RE.of (pe_m1 PySem.F.plainAttrs_list PySem.F.slot_list_pop PySem.F.type_list_pop mt_popAt rfl hline hn) ?_
  refine RE.of (pe_name G hi hv hp) ⟨.ref l, hσ, ty_list (SqL.of hl), ha X G e oa e1 r1 F H σ _ rel fun v F1 H1 p1 o1 _ => ?_⟩
  obtain ⟨l', vs, hσ', hl', _, hd⟩ := p1.rel.cellAt g1
  rw [hσ] at hσ'; cases hσ'
  have hvv := (o1.view p1.rel (ofO_inv r3)).int
  subst hvv
  obtain ⟨u, hu, ru⟩ := rpAll_get hd b4
  exact ⟨l, vs, j, n, u, rfl, rfl, hl', b1, b2, by rw [seqIx, rpAll_len hd]; exact b3, hu, k _ _ _ (p1.trans (Post.cell p1.rel g1 hσ (rpAll_erase hd n))) ru trivial⟩
theorem se_popl {i : Nat} {x : Str} {p apos cpos : Pos} (hi : N[i]? = some x) (hv : isVis sc x = true) (hp : plainName x = true) (hline : (apos.endLine == cpos.line) = true) :
    SE N sc CX (.Call (.Attribute (.Name x p) (Str.ofString "pop") apos) [] [] cpos) φ (evalE φ (.popl i)) := by
  intro X G e w e' hr F H σ Q rel k
  simp only [evalE] at hr
  split at hr
  case h_2 => cases hr
  rename_i xs g1
  split at hr
  case h_2 => cases hr
  rename_i z hz
  cases hr
  obtain ⟨l, vs, hσ, hl, _, hd⟩ := rel.cellAt g1
  obtain ⟨u, hu, ru⟩ := rpAll_get hd hz
  refine RE.of (pe_m0 PySem.F.plainAttrs_list PySem.F.slot_list_pop PySem.F.type_list_pop mt_pop rfl hline) ?_
  exact RE.of (pe_name G hi hv hp) ⟨.ref l, hσ, ty_list (SqL.of hl), l, vs, u, rfl, rfl, hl, by rw [rpAll_len hd]; exact hu, k _ _ _ (Post.cell rel g1 hσ (rpAll_dropLast hd)) ru trivial⟩
end
end Sw
end T_SwJ
section T_SwK
set_option autoImplicit false
set_option linter.all false
set_option Elab.async false
set_option maxRecDepth 100000
/-! SwK: extend; targets; statements without loops. -/
namespace Sw
open PySem L2
section
variable {N : List Str} {sc : Scope} {CX : CXT} {φ : Orc} {ex ey ez big : Expr} {exs : List Expr}

theorem lst_extW (l : Addr) (items : Array Value) (n : Nat) (b : Addr) (dd : Option Addr) (items2 : Array Value) (n2 : Nat) (sl2 : Array (Option Value)) (T : String) (hT : T = "list" ∨ T = "tuple") (hs0 : ¬(!items.isEmpty && Builtin.List.listTooLong (items.size + items2.size)) = true) (hs1 : items.size ≤ sizeLine) (hs2 : items.size + items2.size ≤ sizeLine + 1) :
    Meets (Builtin.«list.extend» ⟨[.ref l, .ref b], []⟩) (fun _ R s => s.heap.get? l = some ⟨.type "list", none, .seq items n, #[]⟩ ∧ s.heap.get? b = some ⟨.type T, dd, .seq items2 n2, sl2⟩ ∧
      R (.ok (.ret Value.none)) { s with heap := s.heap.update l (Obj.mapSeq fun x => x ++ items2), toks := s.toks }) := by
  rcases hT with rfl | rfl
  · exact .of_wp fun prog w A R s h => by
      obtain ⟨hp, g, d, tk, os⟩ := s; obtain ⟨hl, hb, h⟩ := h
      have f3 := PySem.AutoSeq1.sub_list_list
      have f2 := PySem.AutoSeq1.sub_tuple_tuple
      have f4 := PySem.AutoSeq1.sub_tuple_list
      have f5 := PySem.AutoSeq1.sub_list_tuple
      have hz' : (items ++ items2).size ≤ sizeLine + 1 := by rw [Array.size_append]; exact hs2
      wp_walk using (wpAny_updateSeq hl rfl (hz := hs1) (_hz' := hz')), wpAny_loadPart' hl, wpAny_loadPart' hb
      exact ⟨_, rfl, h⟩
  · exact .of_wp fun prog w A R s h => by
      obtain ⟨hp, g, d, tk, os⟩ := s; obtain ⟨hl, hb, h⟩ := h
      have f3 := PySem.AutoSeq1.sub_list_list
      have f2 := PySem.AutoSeq1.sub_tuple_tuple
      have f4 := PySem.AutoSeq1.sub_tuple_list
      have f5 := PySem.AutoSeq1.sub_list_tuple
      have hz' : (items ++ items2).size ≤ sizeLine + 1 := by rw [Array.size_append]; exact hs2
      wp_walk using (wpAny_updateSeq hl rfl (hz := hs1) (_hz' := hz')), wpAny_loadPart' hl, wpAny_loadPart' hb
      exact ⟨_, rfl, h⟩
theorem mt_ext {X : Cx} : MtR X "list.extend" fun x vs H Q => ∃ l b xs zs, x = .ref l ∧ vs = [.ref b] ∧ H l = some (.lst xs) ∧ (SqL X.K H b zs ∨ SqT X.K H b zs) ∧ xs.length + zs.length ≤ sizeLine ∧ Q .non (upd H l (.lst (xs ++ zs))) := by
  intro pins s σ H x vs v us Q I rx rv h
  obtain ⟨l, b, xs, zs, rfl, rfl, hH, hB, hz, q⟩ := h
  cases rx
  obtain ⟨u, rfl, ru⟩ := rv.one
  cases ru
  obtain ⟨z, its, n, r, hl, e⟩ := I.lstM hH
  have src : ∃ (its2 : List Value) (n2 : Nat) (dd : Option Addr) (sl2 : Array (Option Value)) (T : String), (T = "list" ∨ T = "tuple") ∧ Vals zs its2 ∧ s.heap.get? b = some ⟨.type T, dd, .seq its2.toArray n2, sl2⟩ := by
    rcases hB with hB | hB
    · obtain ⟨its2, r2, ⟨⟨c2, d2, t2, s2⟩, n2, e2, g4, g5, g6⟩, _⟩ := I.list hB
      simp only at g4 g5 g6
      subst g4 g5 g6
      exact ⟨its2, n2, _, _, _, .inl rfl, r2, e2⟩
    · obtain ⟨its2, r2, ⟨⟨c2, d2, t2, s2⟩, e2, g4, n2, g5⟩, _⟩ := I.tuple hB
      simp only at g4 g5
      subst g4 g5
      exact ⟨its2, n2, _, _, _, .inr rfl, r2, e2⟩
  obtain ⟨its2, n2, dd, sl2, T, hT, r2, e2⟩ := src
  have l2 := r2.length
  have hsz : its.toArray.size + its2.toArray.size ≤ sizeLine := by rw [List.size_toArray, List.size_toArray]; omega
  have hlong : ¬ (!its.toArray.isEmpty && Builtin.List.listTooLong (its.toArray.size + its2.toArray.size)) = true := by
    rw [notLongL hsz, Bool.and_false]
    exact Bool.false_ne_true
  refine call_meets F.slot_list_extend ⟨_, e, rfl⟩ F.entry_list_extend (F.args_list_extend_2 _ _)
    (lst_extW l its.toArray n b dd its2.toArray n2 sl2 T hT hlong (by rw [List.size_toArray]; omega) (by omega)) ⟨e, e2, ?_⟩
  refine ⟨.non, _, I.lset (its' := its ++ its2) hH e (by simp) (r.append r2) ?_, rfl, q⟩
  rw [List.length_append]
  omega
theorem se_ext {i : Nat} {x : Str} {p apos cpos : Pos} {a : E} (hi : N[i]? = some x) (hv : isVis sc x = true) (hp : plainName x = true) (ha : SO N sc CX ey φ (opW (evalE φ a) a)) (hline : (apos.endLine == cpos.line) = true) (hn : noStar ey = true) :
    SE N sc CX (.Call (.Attribute (.Name x p) (Str.ofString "extend") apos) [ey] [] cpos) φ (evalE φ (.ext i a)) := by
  intro X G e w e' hr F H σ Q rel k
  simp only [evalE] at hr
  split at hr
  case isFalse => cases hr
  rename_i hc
  obtain ⟨xs0, g0⟩ := isC_of hc
  obtain ⟨⟨oa, e1⟩, r1, r2⟩ := bind_inv hr
  obtain ⟨y, r3, r4⟩ := bind_inv r2
  dsimp only at r4
  obtain ⟨l, vs0, hσ, hl, _, _⟩ := rel.cellAt g0
  refine RE.of (pe_m1 PySem.F.plainAttrs_list PySem.F.slot_list_extend PySem.F.type_list_extend mt_ext rfl hline hn) ?_
  refine RE.of (pe_name G hi hv hp) ⟨.ref l, hσ, ty_list (SqL.of hl), ha X G e oa e1 r1 F H σ _ rel fun v F1 H1 p1 o1 _ => ?_⟩
  have vw := o1.view p1.rel (ofO_inv r3)
  split at r4
  · rename_i xs ys g1
    split at r4
    case isFalse => cases r4
    rename_i hz
    cases r4
    obtain ⟨l', vs, hσ', hl', _, hd⟩ := p1.rel.cellAt g1
    rw [hσ] at hσ'; cases hσ'
    obtain ⟨b, us, rfl, h1, h2⟩ := vw.list p1.rel.sub
    exact ⟨l, b, vs, us, rfl, rfl, hl', .inl h1, by rw [rpAll_len hd, rpAll_len h2]; exact hz, k _ _ _ (p1.trans (Post.cell p1.rel g1 hσ (rpAll_app hd h2))) .non trivial⟩
  · rename_i xs ys g1
    split at r4
    case isFalse => cases r4
    rename_i hz
    cases r4
    obtain ⟨l', vs, hσ', hl', _, hd⟩ := p1.rel.cellAt g1
    rw [hσ] at hσ'; cases hσ'
    obtain ⟨b, us, rfl, h1, h2⟩ := vw.tup p1.rel.sub
    exact ⟨l, b, vs, us, rfl, rfl, hl', .inr (p1.rel.sub.sqT h1.sq), by rw [rpAll_len hd, rpAll_len h2]; exact hz, k _ _ _ (p1.trans (Post.cell p1.rel g1 hσ (rpAll_app hd h2))) .non trivial⟩
  · cases r4

/-! ### targets -/
/-- an item that comes: data, or a new tuple of data -/
def IR (K : Frag) (F H : Hp) (v : L2.V) (d : D) : Prop := Rp K F v d ∨ ∃ a vs ds, v = .ref a ∧ d = .tuple ds ∧ SqT K H a vs ∧ RpAll K F vs ds
mutual
def slotsT : T → List Nat
  | .n i => [i]
  | .p ts => slotsTs ts
def slotsTs : List T → List Nat
  | [] => []
  | t :: ts => slotsT t ++ slotsTs ts
end
def isP : T → Bool | .p _ => true | _ => false
structure Stored (K : Frag) (F H : Hp) (σ : L2.St) (e : Env) (l : List Nat) (σ' : L2.St) (e' : Env) : Prop where
  post : Post K F H σ e F H σ' e'
  kept : ∀ j, j ∉ l → σ'[j]? = σ[j]?
  len : σ'.length = σ.length
def TgOk (X : Cx) (tg : Expr) (t : T) : Prop := ∃ g, PG X tg g ∧ ∀ (F H : Hp) (e : Env) (v : L2.V) (d : D) (e' : Env) (σ : L2.St) (Q : L2.St → Hp → Prop), σ.length = X.N.length → Rel X.K F H σ e → (Rp X.K F v d ∨ (isP t = true ∧ IR X.K F H v d)) → asgT t d e = some e' →
  (∀ σ', Stored X.K F H σ e (slotsT t) σ' e' → Q σ' H) → g v σ H Q
def TgsOk (X : Cx) (tgs : List Expr) (ts : List T) : Prop := ∃ g, PGs X tgs g ∧ ∀ (F H : Hp) (e : Env) (vs : List L2.V) (ds : List D) (e' : Env) (σ : L2.St) (Q : L2.St → Hp → Prop), σ.length = X.N.length → Rel X.K F H σ e → RpAll X.K F vs ds → ds.length = ts.length → asgTs ts ds e = some e' →
  (∀ σ', Stored X.K F H σ e (slotsTs ts) σ' e' → Q σ' H) → g vs σ H Q
theorem tg_n {X : Cx} {i : Nat} {x : Str} {p : Pos} (hN : X.N.Nodup) (hi : X.N[i]? = some x) (hx : Loc X.env.scope x) (hf : X.fn x = true ∨ X.env.scope.names.lookup x = some .local) : TgOk X (.Name x p) (.n i) := by
  refine ⟨_, pg_name hN hi hx hf, fun F H e v d e' σ Q hl rel r ha k => ?_⟩
  have hd : Rp X.K F v d := by
    rcases r with r | ⟨z, _⟩
    · exact r
    · cases z
  simp only [asgT] at ha
  cases ha
  have hiσ : i < σ.length := by rw [hl]; exact (List.getElem?_eq_some_iff.mp hi).1
  exact k _ ⟨Post.set (Post.refl rel) (w := .d d) hiσ hd trivial, fun j hj => List.getElem?_set_ne fun q => hj (by simp [slotsT, q]), by simp⟩
theorem tgs_nil {X : Cx} : TgsOk X [] [] := by
  refine ⟨_, pgs_nil, fun F H e vs ds e' σ Q hl rel r hn ha k => ?_⟩
  simp only [asgTs] at ha
  cases ha
  cases ds with
  | nil => cases r; exact ⟨rfl, k σ ⟨Post.refl rel, fun _ _ => rfl, rfl⟩⟩
  | cons _ _ => cases hn
theorem tgs_cons {X : Cx} {tg : Expr} {tgs : List Expr} {t : T} {ts : List T} (hs : noStar tg = true) (h1 : TgOk X tg t) (h2 : TgsOk X tgs ts) : TgsOk X (tg :: tgs) (t :: ts) := by
  obtain ⟨g1, p1, q1⟩ := h1
  obtain ⟨g2, p2, q2⟩ := h2
  refine ⟨_, pgs_cons p1 p2 (by cases tg <;> first | rfl | cases hs), fun F H e vs ds e' σ Q hl rel r hn ha k => ?_⟩
  cases ds with
  | nil => cases hn
  | cons d ds =>
    cases r with
    | cons r1 r2 =>
      rename_i v vs'
      simp only [asgTs, Option.bind_eq_some_iff] at ha
      obtain ⟨e1, a1, a2⟩ := ha
      refine ⟨v, vs', rfl, q1 F H e v d e1 σ _ hl rel (.inl r1) a1 fun σ1 s1 => ?_⟩
      refine q2 F H e1 vs' ds e' σ1 Q (by rw [s1.len]; exact hl) s1.post.rel r2 (by simpa using hn) a2 fun σ2 s2 => ?_
      exact k σ2 ⟨s1.post.trans s2.post, fun j hj => by
        simp only [slotsTs, List.mem_append, not_or] at hj
        rw [s2.kept j hj.2, s1.kept j hj.1], by rw [s2.len, s1.len]⟩
def allNoStar : List Expr → Bool
  | [] => true
  | e :: r => noStar e && allNoStar r
theorem star_find {tgs : List Expr} {env : PySem.Env} (h : allNoStar tgs = true) : (assignEach tgs env).findIdx? (·.1) = none := by
  rw [List.findIdx?_eq_none_iff]
  induction tgs with
  | nil => intro x hx; cases hx
  | cons e r ih =>
    simp only [allNoStar, Bool.and_eq_true] at h
    have he : ∃ f, assignEach (e :: r) env = (false, f) :: assignEach r env := by
      cases e <;> first | exact ⟨_, rfl⟩ | (cases h.1; done)
    obtain ⟨f, he⟩ := he
    rw [he]
    intro x hx
    rcases List.mem_cons.mp hx with rfl | hx
    · rfl
    · exact ih h.2 x hx
theorem len_assign {tgs : List Expr} {env : PySem.Env} : (assignEach tgs env).length = tgs.length := by
  induction tgs with
  | nil => rfl
  | cons e r ih =>
    have he : ∃ f, assignEach (e :: r) env = f :: assignEach r env := by cases e <;> exact ⟨_, rfl⟩
    obtain ⟨f, he⟩ := he
    rw [he, List.length_cons, ih, List.length_cons]
theorem pg_or {X : Cx} {tg : Expr} {g1 g2 : TG} (h1 : PG X tg g1) (h2 : PG X tg g2) : PG X tg (fun v σ H Q => g1 v σ H Q ∨ g2 v σ H Q) :=
  ⟨fun pins s σ H v u Q I r h => h.elim (h1.run pins s σ H v u Q I r) (h2.run pins s σ H v u Q I r)⟩
theorem tg_p {X : Cx} {tgs : List Expr} {ts : List T} {c : Nat} {p : Pos} (hc : X.calm = true) (hs : allNoStar tgs = true) (hn : tgs.length = ts.length) (h : TgsOk X tgs ts) : TgOk X (.Tuple tgs c p) (.p ts) := by
  obtain ⟨g, p1, q1⟩ := h
  refine ⟨_, pg_or (pg_tup hc p1 (n := tgs.length) len_assign (star_find hs)) (pg_lst hc p1 (n := tgs.length) len_assign (star_find hs)), fun F H e v d e' σ Q hl rel r ha k => ?_⟩
  simp only [asgT] at ha
  cases d <;> first | (cases ha; done) | skip
  · rename_i ds
    dsimp only at ha
    split at ha
    case isFalse => cases ha
    rename_i hz
    have lst : ∃ a vs, v = .ref a ∧ SqL X.K H a vs ∧ RpAll X.K F vs ds := by
      have seq : Rp X.K F v (.list ds) → ∃ a vs, v = .ref a ∧ SqL X.K H a vs ∧ RpAll X.K F vs ds := fun r => by
        cases r with
        | lst h1 h2 => exact ⟨_, _, rfl, rel.sub.sqL h1, h2⟩
      rcases r with r | ⟨_, r | ⟨a, vs, ds', h1, h2, h3, h4⟩⟩
      · exact seq r
      · exact seq r
      · cases h2
    obtain ⟨a, vs, rfl, h1, h2⟩ := lst
    exact .inr ⟨a, vs, rfl, h1, by rw [rpAll_len h2, hz, hn], q1 F H e vs ds e' σ Q hl rel h2 hz ha fun σ' s' => k σ' s'⟩
  rename_i ds
  dsimp only at ha
  split at ha
  case isFalse => cases ha
  rename_i hz
  have tup : ∃ a vs, v = .ref a ∧ SqT X.K H a vs ∧ RpAll X.K F vs ds := by
    have seq : Rp X.K F v (.tuple ds) → ∃ a vs, v = .ref a ∧ SqT X.K H a vs ∧ RpAll X.K F vs ds := fun r => by
      cases r with
      | tup h1 h2 => exact ⟨_, _, rfl, rel.sub.sqT h1.sq, h2⟩
    rcases r with r | ⟨_, r | ⟨a, vs, ds', h1, h2, h3, h4⟩⟩
    · exact seq r
    · exact seq r
    · cases h2; exact ⟨a, vs, h1, h3, h4⟩
  obtain ⟨a, vs, rfl, h1, h2⟩ := tup
  exact .inl ⟨a, vs, rfl, h1, by rw [rpAll_len h2, hz, hn], q1 F H e vs ds e' σ Q hl rel h2 hz ha fun σ' s' => k σ' s'⟩

/-! ### statements -/
structure GoodS (N : List Str) (sc : Scope) (CX : CXT) (X : Cx) (φ : Orc) : Prop extends Good N sc CX X φ where
  fnc : ∀ x, sc.names.lookup x = some .cell → X.fn x = true
  nox : ∀ v s, ¬ X.xe v s
  kind : sc.kind = .function
def Kept (pr : Nat → Bool) (σ σ' : L2.St) : Prop := ∀ i, pr i = true → σ'[i]? = σ[i]?
def EndK (pr : Nat → Bool) (K : Frag) (F H : Hp) (σ : L2.St) (e : Env) (Dn : Ends) : SR → Prop
  | .nx e' => ∀ σ' F' H', Post K F H σ e F' H' σ' e' → Kept pr σ σ' → Dn.nx σ' H'
  | .bk e' => ∀ σ' F' H', Post K F H σ e F' H' σ' e' → Kept pr σ σ' → Dn.bk σ' H'
  | .ct e' => ∀ σ' F' H', Post K F H σ e F' H' σ' e' → Kept pr σ σ' → Dn.ct σ' H'
  | .rt w e' => ∀ v σ' F' H', Post K F H σ e F' H' σ' e' → Kept pr σ σ' → ResR K F' H' σ' e' w v → From H σ e w v → Dn.rt v H'
  | .exc _ => False
  | .bad => False
def SS (N : List Str) (sc : Scope) (CX : CXT) (pr : Nat → Bool) (st : Stmt) (φ : Orc) (r : Env → SR) : Prop :=
  ∀ X, GoodS N sc CX X φ → ∀ e F H σ Dn, Rel X.K F H σ e → EndK pr X.K F H σ e Dn (r e) → RS X st Dn σ H
def SSs (N : List Str) (sc : Scope) (CX : CXT) (pr : Nat → Bool) (sts : List Stmt) (φ : Orc) (r : Env → SR) : Prop :=
  ∀ X, GoodS N sc CX X φ → ∀ e F H σ Dn, Rel X.K F H σ e → EndK pr X.K F H σ e Dn (r e) → RSs X sts Dn σ H
theorem Kept.refl {pr : Nat → Bool} {σ : L2.St} : Kept pr σ σ := fun _ _ => rfl
theorem Kept.trans {pr : Nat → Bool} {σ σ1 σ2 : L2.St} (h1 : Kept pr σ σ1) (h2 : Kept pr σ1 σ2) : Kept pr σ σ2 := fun i hi => (h2 i hi).trans (h1 i hi)
theorem EndK.trans {pr : Nat → Bool} {K : Frag} {F H F1 H1 : Hp} {σ σ1 : L2.St} {e e1 : Env} {Dn : Ends} (p : Post K F H σ e F1 H1 σ1 e1) (q : Kept pr σ σ1) : ∀ {r : SR}, EndK pr K F H σ e Dn r → EndK pr K F1 H1 σ1 e1 Dn r
  | .nx _, h => fun σ' F' H' p' q' => h σ' F' H' (p.trans p') (q.trans q')
  | .bk _, h => fun σ' F' H' p' q' => h σ' F' H' (p.trans p') (q.trans q')
  | .ct _, h => fun σ' F' H' p' q' => h σ' F' H' (p.trans p') (q.trans q')
  | .rt _ _, h => fun v σ' F' H' p' q' r f => h v σ' F' H' (p.trans p') (q.trans q') r (From.trans p f)
  | .exc _, h => h
  | .bad, h => h
variable {pr : Nat → Bool} {st : Stmt} {sts : List Stmt}
theorem ofR_ok' {α : Type} {pr : Nat → Bool} {K : Frag} {F H : Hp} {σ : L2.St} {e : Env} {Dn : Ends} {r : R α} {f : α → SR} (h : EndK pr K F H σ e Dn (SR.ofR r f)) : ∃ a, r = .ok a ∧ EndK pr K F H σ e Dn (f a) := by
  cases r with
  | ok a => exact ⟨a, rfl, h⟩
  | exc c => exact False.elim h
  | bad => exact False.elim h
theorem sss_nil : SSs N sc CX pr [] φ (execs φ .nil) := by
  intro X G e F H σ Dn rel k
  simp only [execs] at k
  exact RSs.of pss_nil (k σ F H (Post.refl rel) Kept.refl)
theorem sss_cons {s : S} {r : Ss} (h1 : SS N sc CX pr st φ (exec φ s)) (h2 : SSs N sc CX pr sts φ (execs φ r)) : SSs N sc CX pr (st :: sts) φ (execs φ (.cons s r)) := by
  intro X G e F H σ Dn rel k
  simp only [execs] at k
  refine RSs.of (pss_cons (psS st) (pssS sts)) (h1 X G e F H σ _ rel ?_)
  revert k
  cases exec φ s e with
  | nx e1 => exact fun k σ1 F1 H1 p1 q1 => h2 X G e1 F1 H1 σ1 Dn p1.rel (k.trans p1 q1)
  | bk e1 => exact fun k => k
  | ct e1 => exact fun k => k
  | rt w e1 => exact fun k => k
  | exc c => exact fun k => k
  | bad => exact fun k => k
theorem Live.len {X : Cx} {σ : L2.St} {H : Hp} (l : Live X σ H) : σ.length = X.N.length := by
  obtain ⟨_, _, I⟩ := l
  exact I.len
def isLoc (sc : Scope) (x : Str) : Bool := match sc.names.lookup x with | some .local => true | some .cell => true | _ => false
theorem isLoc_of {x : Str} (h : isLoc sc x = true) : sc.names.lookup x = some .local ∨ sc.names.lookup x = some .cell := by
  unfold isLoc at h
  split at h
  · exact .inl (by assumption)
  · exact .inr (by assumption)
  · cases h
theorem GoodS.loc {X : Cx} (G : GoodS N sc CX X φ) {x : Str} (h : isLoc sc x = true) : Loc X.env.scope x ∧ (X.fn x = true ∨ X.env.scope.names.lookup x = some .local) := by
  rw [G.hsc]
  rcases isLoc_of h with z | z
  · exact ⟨.inl z, .inr z⟩
  · exact ⟨.inr z, .inl (G.fnc x z)⟩
def isComp : Expr → Bool
  | .ListComp _ _ _ _ => true
  | .SetComp _ _ _ _ => true
  | .DictComp _ _ _ _ _ => true
  | _ => false
theorem sw_false {t : Option Expr} {l : Nat} {env : PySem.Env} (h : isComp ex = false) : swapsWith ex t l env = pure false := by
  cases ex <;> first | rfl | cases h
theorem kept_set {σ : L2.St} {i : Nat} {v : Option L2.V} (h : pr i = false) : Kept pr σ (σ.set i v) := fun j hj => List.getElem?_set_ne fun q => by subst q; rw [h] at hj; cases hj
theorem ss_asg {i : Nat} {x : Str} {p pos : Pos} {a : E} (hi : N[i]? = some x) (hl : isLoc sc x = true) (hp : pr i = false) (hc : isComp ex = false) (h : SE N sc CX ex φ (evalE φ a)) : SS N sc CX pr (.Assign [.Name x p] ex pos) φ (exec φ (.asg i a)) := by
  intro X G e F H σ Dn rel k
  simp only [exec] at k
  obtain ⟨⟨w, e1⟩, r1, k⟩ := ofR_ok' k
  refine RS.know fun l => RS.of (ps_set (by rw [G.hN]; exact G.nd) (by rw [G.hN]; exact hi) (G.loc hl).1 (peE ex) (sw_false hc) (G.loc hl).2) (h X G.toGood e w e1 r1 F H σ _ rel fun v F1 H1 p1 d1 f1 => ?_)
  have hiσ : i < σ.length := by rw [l.len, G.hN]; exact (List.getElem?_eq_some_iff.mp hi).1
  exact k _ F1 H1 (Post.set p1 hiσ d1 f1) (kept_set hp)
theorem sd_eff {a : E} (h : SE N sc CX ex φ (evalE φ a)) : SD N sc CX ex φ (daW (evalE φ a)) := sd_of h
theorem ss_asgT {t : T} {tg : Expr} {pos : Pos} {a : E} (htg : ∀ X, GoodS N sc CX X φ → TgOk X tg t) (hpr : ∀ j ∈ slotsT t, pr j = false) (hsw : ∀ (env : PySem.Env) (l : Nat), swapsWith ex (some tg) l env = pure false) (hst : ∀ env : PySem.Env, swappedStores [tg] ex env = pure none)
    (has : ∀ env : PySem.Env, (assignEach [tg] env).map (·.2) = [assign tg env]) (h : SD N sc CX ex φ (daW (evalE φ a))) : SS N sc CX pr (.Assign [tg] ex pos) φ (exec φ (.asgT t a)) := by
  intro X G e F H σ Dn rel k
  simp only [exec] at k
  obtain ⟨⟨d, e1⟩, r1, k⟩ := ofR_ok' k
  dsimp only at k
  split at k
  case h_2 => exact False.elim k
  rename_i e2 hA
  obtain ⟨g, pg, q⟩ := htg X G
  refine RS.know fun l => RS.of (ps_asg (peE ex) pg (hsw _ _) (hst _) (has _)) (h X G.toGood e d e1 r1 F H σ _ rel fun v F1 H1 p1 d1 => ?_)
  refine q F1 H1 e1 v d e2 σ _ l.len p1.rel (.inl d1) hA fun σ' s' => ?_
  exact k σ' F1 H1 (p1.trans s'.post) fun j hj => s'.kept j fun z => by rw [hpr j z] at hj; cases hj
theorem ss_aug {i : Nat} {x : Str} {p pos : Pos} {a : E} (hi : N[i]? = some x) (hl : isLoc sc x = true) (hp : pr i = false) (h : SD N sc CX ex φ (daW (evalE φ a))) : SS N sc CX pr (.AugAssign (.Name x p) .Add ex pos) φ (exec φ (.aug i .add a)) := by
  intro X G e F H σ Dn rel k
  simp only [exec] at k
  split at k
  case h_2 => exact False.elim k
  rename_i n hg
  obtain ⟨⟨d, e1⟩, r1, k⟩ := ofR_ok' k
  dsimp only at k
  split at k
  case h_2 => exact False.elim k
  rename_i m
  simp only [if_true] at k
  have q := rel.slot i
  rw [hg] at q
  obtain ⟨v, hσ, hv⟩ := q
  cases hv
  refine RS.know fun l => RS.of (ps_aug (by rw [G.hN]; exact G.nd) (by rw [G.hN]; exact hi) (G.loc hl).1 (peE ex) ip_add (G.loc hl).2) ⟨_, hσ, h X G.toGood e _ e1 r1 F H σ _ rel fun v F1 H1 p1 d1 => ?_⟩
  cases d1
  have hiσ : i < σ.length := by rw [l.len, G.hN]; exact (List.getElem?_eq_some_iff.mp hi).1
  exact ⟨n, m, rfl, rfl, k _ F1 H1 (Post.set p1 (w := .d (.int (n + m))) hiσ (.int _) trivial) (kept_set hp)⟩
def isSl : Expr → Bool
  | .Slice _ _ _ _ => true
  | _ => false
theorem sub_assign {o i : Expr} {p : Pos} {env : PySem.Env} (h : isSl i = false) (v : Value) : assign (.Subscript o i p) env v = (do
    let ov ← holding [v] (eval o env)
    let iv ← holding [v, ov] (eval i env)
    standAt p
    holding [v, ov, iv] (setItem ov iv v)
    release [v, ov, iv] []) := by
  cases i <;> first | rfl | cases h
theorem setC_inv {e : Env} {i : Nat} {x v : D} {e1 : Env} (h : setC e i x v = some e1) : ∃ xs k j, get e i = .c xs ∧ x = .int k ∧ ixN xs.length k = some j ∧ e1 = e.set i (.c (xs.set j v)) := by
  unfold setC at h
  split at h
  · rename_i xs k hg
    simp only [Option.map_eq_some_iff] at h
    obtain ⟨j, h1, rfl⟩ := h
    exact ⟨xs, k, j, hg, rfl, h1, rfl⟩
  · cases h
/-- the store of one item -/
theorem sub_run {X : Cx} (G : Good N sc CX X φ) {i : Nat} {x : Str} {ix : E} (hi : N[i]? = some x) (hv : isVis sc x = true) (hp : plainName x = true) (h : SD N sc CX ex φ (daW (evalE φ ix))) {F H : Hp} {σ : L2.St} {e : Env} {v : L2.V} {d : D} {y : D} {e1 e2 : Env} {Q : L2.St → Hp → Prop}
    (rel : Rel X.K F H σ e) (hc : isC (get e i) = true) (r1 : daW (evalE φ ix) e = .ok (y, e1)) (hs : setC e1 i y d = some e2) (hd : Rp X.K F v d) (k : ∀ F' H', Post X.K F H σ e F' H' σ e2 → Q σ H') : gSub (tVar i) (RE X ex) rSetL v σ H Q := by
  obtain ⟨xs0, g0⟩ := isC_of hc
  obtain ⟨l, vs0, hσ, hl, _, _⟩ := rel.cellAt g0
  refine ⟨.ref l, hσ, h X G e y e1 r1 F H σ _ rel fun u F1 H1 p1 d1 => ?_⟩
  obtain ⟨xs, n, j, g1, rfl, hj, rfl⟩ := setC_inv hs
  cases d1
  obtain ⟨l', vs, hσ', hl', _, hd'⟩ := p1.rel.cellAt g1
  rw [hσ] at hσ'; cases hσ'
  exact ⟨l, vs, n, j, rfl, rfl, hl', by rw [← ixN_eq, rpAll_len hd']; exact hj, k _ _ (p1.trans (Post.cell p1.rel g1 hσ (rpAll_set hd' (p1.grow.rp _ _ hd) j)))⟩
theorem ss_st {i : Nat} {x : Str} {p p2 pos : Pos} {ix a : E} (hi : N[i]? = some x) (hv : isVis sc x = true) (hp : plainName x = true) (h : SD N sc CX ex φ (daW (evalE φ a))) (h2 : SD N sc CX ey φ (daW (evalE φ ix))) (hsl : isSl ey = false) :
    SS N sc CX pr (.Assign [.Subscript (.Name x p) ey p2] ex pos) φ (exec φ (.st i ix a)) := by
  intro X G e F H σ Dn rel k
  simp only [exec] at k
  obtain ⟨⟨d, e1⟩, r1, k⟩ := ofR_ok' k
  dsimp only at k
  split at k
  case isFalse => exact False.elim k
  rename_i hc
  obtain ⟨⟨y, e2⟩, r2, k⟩ := ofR_ok' k
  dsimp only at k
  split at k
  case h_2 => exact False.elim k
  rename_i e3 hs
  refine RS.of (ps_asg (peE ex) (pg_sub (pe_name G.toGood hi hv hp) (peE ey) set_list (sub_assign hsl)) (by cases ex <;> rfl) (by rfl) (by rfl)) (h X G.toGood e d e1 r1 F H σ _ rel fun v F1 H1 p1 d1 => ?_)
  exact sub_run G.toGood hi hv hp h2 p1.rel hc r2 hs d1 fun F' H' p' => k σ F' H' (p1.trans p') Kept.refl
theorem swap2 {a b c d : Expr} {k1 k2 : Nat} {p1 p2 p3 p4 : Pos} {env : PySem.Env} {o1 i1 o2 i2 : Expr} : swappedStores [.Tuple [.Subscript o1 i1 p1, .Subscript o2 i2 p2] k1 p3] (.Tuple [a, b] k2 p4) env = pure none := by
  unfold swappedStores
  simp only [List.length_cons, List.length_nil, List.filterMap_cons, List.filterMap_nil]
  split
  · rfl
  · split
    · rfl
    · rfl
theorem ss_st2 {i j : Nat} {x y : Str} {p q p1 p2 p3 p4 pos : Pos} {k1 k2 : Nat} {ix jx a b : E} {e1x e2x ia ja : Expr} (hi : N[i]? = some x) (hv : isVis sc x = true) (hp : plainName x = true) (hi' : N[j]? = some y) (hv' : isVis sc y = true) (hp' : plainName y = true)
    (ha : SD N sc CX e1x φ (daW (evalE φ a))) (hb : SD N sc CX e2x φ (daW (evalE φ b))) (hix : SD N sc CX ia φ (daW (evalE φ ix))) (hjx : SD N sc CX ja φ (daW (evalE φ jx))) (hs1 : noStar e1x = true) (hs2 : noStar e2x = true) (hl1 : isSl ia = false) (hl2 : isSl ja = false) :
    SS N sc CX pr (.Assign [.Tuple [.Subscript (.Name x p) ia p1, .Subscript (.Name y q) ja p2] k1 p3] (.Tuple [e1x, e2x] k2 p4) pos) φ (exec φ (.st2 i ix j jx a b)) := by
  intro X G e F H σ Dn rel k
  simp only [exec] at k
  obtain ⟨⟨d1, e1⟩, r1, k⟩ := ofR_ok' k
  obtain ⟨⟨d2, e2⟩, r2, k⟩ := ofR_ok' k
  dsimp only at k
  split at k
  case isFalse => exact False.elim k
  rename_i hc1
  obtain ⟨⟨y1, e3⟩, r3, k⟩ := ofR_ok' k
  dsimp only at k
  split at k
  case h_2 => exact False.elim k
  rename_i e4 hS1
  split at k
  case isFalse => exact False.elim k
  rename_i hc2
  obtain ⟨⟨y2, e5⟩, r4, k⟩ := ofR_ok' k
  dsimp only at k
  split at k
  case h_2 => exact False.elim k
  rename_i e6 hS2
  refine RS.of (ps_asg (pe_tupF (pa_cons (peE e1x) (pa_cons (peE e2x) pa_nil (star_of hs2)) (star_of hs1))) (pg_tup G.calm (n := 2) (pgs_cons (pg_sub (pe_name G.toGood hi hv hp) (peE ia) set_list (sub_assign hl1)) (pgs_cons (pg_sub (pe_name G.toGood hi' hv' hp') (peE ja) set_list (sub_assign hl2)) pgs_nil)) rfl rfl) (by rfl) (swap2 (c := e1x) (d := e1x)) (by rfl)) ?_
  refine ha X G.toGood e d1 e1 r1 F H σ _ rel fun v1 F1 H1 p1 h1 => ?_
  refine hb X G.toGood e1 d2 e2 r2 F1 H1 σ _ p1.rel fun v2 F2 H2 p2 h2 => ?_
  refine ⟨by show 2 ≤ sizeLine; decide, fun t o ht ho => ?_⟩
  have pp := p1.trans p2
  obtain ⟨z1, z2⟩ := data_res pp ht ho (RpAll.cons (p2.grow.rp _ _ h1) (RpAll.cons h2 RpAll.nil))
  have up : Sub F2 (upd F2 t (.frz o (.tup [v1, v2]))) := by
    refine sub_upd ?_ _
    cases q : F2 t with
    | none => rfl
    | some u => have := pp.rel.sub t u q; rw [ht] at this; cases this
  refine ⟨t, [v1, v2], rfl, .inl (.inr ⟨o, upd_same⟩), rfl, v1, [v2], rfl, ?_⟩
  refine sub_run G.toGood hi hv hp hix z1.rel hc1 r3 hS1 (up.rp _ _ (p2.grow.rp _ _ h1)) fun F3 H3 p3 => ⟨v2, [], rfl, ?_⟩
  refine sub_run G.toGood hi' hv' hp' hjx p3.rel hc2 r4 hS2 (p3.grow.rp _ _ (up.rp _ _ h2)) fun F4 H4 p4 => ⟨rfl, ?_⟩
  exact k σ F4 H4 ((z1.trans p3).trans p4) Kept.refl
theorem ss_ex {a : E} {pos : Pos} (hc : isComp ex = false) (h : SE N sc CX ex φ (evalE φ a)) : SS N sc CX pr (.Expr ex pos) φ (exec φ (.ex a)) := by
  intro X G e F H σ Dn rel k
  simp only [exec] at k
  obtain ⟨⟨w, e1⟩, r1, k⟩ := ofR_ok' k
  exact RS.of (ps_expr (peE ex) (sw_false hc)) (h X G.toGood e w e1 r1 F H σ _ rel fun v F1 H1 p1 _ _ => k σ F1 H1 p1 Kept.refl)
theorem ss_ret {a : E} {pos : Pos} (h : SE N sc CX ex φ (evalE φ a)) : SS N sc CX pr (.Return (some ex) pos) φ (exec φ (.ret a)) := by
  intro X G e F H σ Dn rel k
  simp only [exec] at k
  obtain ⟨⟨w, e1⟩, r1, k⟩ := ofR_ok' k
  exact RS.of (ps_ret (peE ex)) (h X G.toGood e w e1 r1 F H σ _ rel fun v F1 H1 p1 d1 f1 => k v σ F1 H1 p1 Kept.refl d1 f1)
theorem ss_retN {pos : Pos} : SS N sc CX pr (.Return none pos) φ (exec φ .retN) := by
  intro X G e F H σ Dn rel k
  simp only [exec] at k
  exact RS.of ps_retN (k .non σ F H (Post.refl rel) Kept.refl .non trivial)
theorem ss_iff {t : Te} {a b : Ss} {as bs : List Stmt} {pos : Pos} (ht : ST N sc CX ex φ (evalT φ t)) (ha : SSs N sc CX pr as φ (execs φ a)) (hb : SSs N sc CX pr bs φ (execs φ b)) : SS N sc CX pr (.If ex as bs pos) φ (exec φ (.iff t a b)) := by
  intro X G e F H σ Dn rel k
  simp only [exec] at k
  obtain ⟨⟨c, e1⟩, r1, k⟩ := ofR_ok' k
  refine RS.of (ps_if (ptT ex) (pssS as) (pssS bs)) (ht X G.toGood e c e1 r1 F H σ _ rel fun F1 H1 p1 => ?_)
  cases c with
  | true => exact ha X G e1 F1 H1 σ Dn p1.rel (EndK.trans p1 Kept.refl k)
  | false => exact hb X G e1 F1 H1 σ Dn p1.rel (EndK.trans p1 Kept.refl k)
theorem ss_pass {pos : Pos} : SS N sc CX pr (.Pass pos) φ (exec φ .pass) := by
  intro X G e F H σ Dn rel k
  simp only [exec] at k
  exact RS.of ps_pass (k σ F H (Post.refl rel) Kept.refl)
theorem ss_brk {pos : Pos} : SS N sc CX pr (.Break pos) φ (exec φ .brk) := by
  intro X G e F H σ Dn rel k
  simp only [exec] at k
  exact RS.of ps_break (k σ F H (Post.refl rel) Kept.refl)
theorem ss_cnt {pos : Pos} : SS N sc CX pr (.Continue pos) φ (exec φ .cnt) := by
  intro X G e F H σ Dn rel k
  simp only [exec] at k
  exact RS.of ps_continue (k σ F H (Post.refl rel) Kept.refl)
end
end Sw
end T_SwK
section T_SwL
set_option autoImplicit false
set_option linter.all false
set_option Elab.async false
set_option maxRecDepth 100000
set_option maxHeartbeats 1000000
/-! SwL: what loops walk: lists, tuples, ranges, enumerate, zip. -/
namespace Sw
open PySem L2

/-! ### lists and tuples alike -/
def SqB (K : Frag) (H : Hp) (b : Bool) (a : Addr) (xs : List L2.V) : Prop := match b with | true => SqL K H a xs | false => SqT K H a xs
def IterB (h : Heap) (b : Bool) (it a : Addr) (i : Nat) : Prop := match b with | true => h.IsListIter it a i | false => h.IsTupleIter it a i
def HoldB (h : Heap) (b : Bool) (a : Addr) (items : Array Value) : Prop := match b with | true => h.IsList a items | false => h.IsTuple a items
theorem seqB {X : Cx} {pins : List (Addr × Obj)} {σ : L2.St} {H : Hp} {s : Shared} {b : Bool} {a : Addr} {xs : List L2.V} (I : Inv X pins σ H s) (h : SqB X.K H b a xs) : ∃ its : List Value, Vals xs its ∧ HoldB s.heap b a its.toArray ∧ xs.length ≤ sizeLine := by
  cases b with
  | true => obtain ⟨its, r, p, z⟩ := I.list h; exact ⟨its, r, p.isList, z⟩
  | false => obtain ⟨its, r, p, z⟩ := I.tuple h; exact ⟨its, r, p, z⟩
theorem seqB_inj {X : Cx} {pins : List (Addr × Obj)} {σ : L2.St} {H : Hp} {s : Shared} {b : Bool} {a : Addr} {xs ys : List L2.V} (I : Inv X pins σ H s) (h : SqB X.K H b a xs) (g : SqB X.K H b a ys) : xs = ys := by
  cases b with
  | true => exact I.list_inj h g
  | false => exact I.tuple_inj h g
theorem drawsB {prog : Program} {w : World} {A : Around} (hh : A.handled = none) (b : Bool) (it l : Addr) (hne : l ≠ it) (items : Array Value) : Draws prog w A it [it, l] items.size (fun i v => items[i]? = some v) (fun i h => IterB h b it l i ∧ HoldB h b l items) := by
  cases b with
  | true => exact Draws.list hh it l hne items
  | false => exact Draws.tuple hh it l hne items
def iterObj (b : Bool) (a : Addr) : Obj := { cls := .type (if b then "list_iterator" else "tuple_iterator"), data := .fields #[.ref a, .int 0 0] }
theorem beginsB (b : Bool) (a : Addr) (items : Array Value) : Begins (.ref a) (iterObj b a) fun h => HoldB h b a items := by
  cases b with
  | true => exact begins_list a items
  | false => exact begins_tuple a items
theorem iterB_new {h : Heap} {b : Bool} {it a : Addr} (e : h.get? it = some (iterObj b a)) : IterB h b it a 0 := by
  cases b with
  | true => exact ⟨_, e, rfl, rfl⟩
  | false => exact ⟨_, e, rfl, rfl⟩
theorem IterB.at {h h' : Heap} {b : Bool} {it a : Addr} {i : Nat} (p : IterB h b it a i) (k : ∀ o, h.get? it = some o → h'.get? it = some o) : IterB h' b it a i := by
  cases b with
  | true => exact Heap.IsListIter.at p k
  | false => exact Heap.IsTupleIter.at p k
theorem IterB.obj {h : Heap} {b : Bool} {it a : Addr} {i : Nat} (p : IterB h b it a i) : ∃ o, h.get? it = some o ∧ ∀ v, o.data ≠ .cell v := by
  cases b with
  | true => obtain ⟨o, e, _, d⟩ := p; exact ⟨o, e, fun v q => by rw [d] at q; cases q⟩
  | false => obtain ⟨o, e, _, d⟩ := p; exact ⟨o, e, fun v q => by rw [d] at q; cases q⟩
theorem HoldB.lt {h : Heap} {b : Bool} {a : Addr} {items : Array Value} (p : HoldB h b a items) : a < h.objs.size := by
  cases b with
  | true => obtain ⟨o, e, _⟩ := p; exact Heap.lt_size e
  | false => obtain ⟨o, e, _⟩ := p; exact Heap.lt_size e

/-! ### a walk that gives new tuples -/
structure Wk (P : Program) (w : World) (K : Frag) (J : It) (I0 : Addr) (fp wr : List Addr) (tn : Nat → Heap → Prop) (Yt : Nat → Hp → List L2.V → Prop) : Prop where
  mem : I0 ∈ fp
  sub : ∀ b ∈ wr, b ∈ fp
  obj : ∀ i h, tn i h → ∀ b ∈ fp, ∃ o, h.get? b = some o ∧ ∀ v, o.data ≠ .cell v
  keep : ∀ i h h', tn i h → (∀ b ∈ fp, ∀ o, h.get? b = some o → h'.get? b = some o) → tn i h'
  self : ∀ (A : Around) (i : Nat) (s : Shared) (Q : Value → Shared → Prop) (E : Value → Shared → Prop), tn i s.heap → Q (.ref I0) s → wpAny (model P w) A (pyIter (.ref I0)) Q E s
  yld : ∀ i H v H', (∃ T vs, v = .ref T ∧ H T = none ∧ H' = upd H T (.tup vs) ∧ Yt i H vs) → J.yld i H v H'
  walk : ∀ (X : Cx), X.prog = P → X.w = w → X.K = K → X.calm = true → ∀ (i : Nat) (pins : List (Addr × Obj)) (s : Shared) (σ : L2.St) (H : Hp), Inv X pins σ H s → tn i s.heap → (J.go i H ∨ J.stop i H) →
    ∃ n fpw Pt St Mid, WalksT P w X.A I0 fpw wr n Pt St Mid ∧ St i s.heap ∧ (∀ h, St (i + 1) h → tn (i + 1) h) ∧ (J.go i H → i < n) ∧ (J.stop i H → i = n) ∧ ∀ vals, Pt i vals → ∃ vs, Vals vs vals.toList ∧ vs.length ≤ sizeLine ∧ Yt i H vs
theorem turn_wk {P : Program} {w : World} {K : Frag} {J : It} {I0 : Addr} {fp wr : List Addr} {tn : Nat → Heap → Prop} {Yt : Nat → Hp → List L2.V → Prop} {elts : List Expr} {kk : Nat} {tpos : Pos} (W : Wk P w K J I0 fp wr tn Yt) : Turn P w K (.Tuple elts kk tpos) J fp I0 tn where
  mem := W.mem
  obj := W.obj
  keep := W.keep
  item := by
    intro X hP hw hK hc i pins s σ H E I hf st hg
    obtain ⟨n, fpw, Pt, St, Mid, W0, st0, step, lt, _, val⟩ := W.walk X hP hw hK hc i pins s σ H I st (.inl hg)
    refine W0.item i s _ E (lt hg) st0 fun T vals h' tk pt hT tup mid hk => ⟨.ref T, rfl, ?_⟩
    refine W0.go elts kk tpos i T _ _ E mid fun h'' st'' hk'' => ?_
    obtain ⟨vs, rv, hz, y⟩ := val vals pt
    obtain ⟨o, ho, hcl, m, hd⟩ := tup
    have hTn : H T = none := I.hok.fresh hT
    have new : ObjOk X.prog X.w (upd H T (.tup vs)) h'' T (.tup vs) := ⟨hz, vals.toList, rv, ⟨o, hk'' T o (W0.apart _ _ _ mid) ho, hcl, m, by rw [Array.toArray_toList]; exact hd⟩⟩
    have I1 := I.turnedNew (t' := tk) (ch := wr) (fun b o hb e => hk'' b o hb (hk b o hb e)) (fun b hb => hf b (W.sub b hb)) hT new
    refine ⟨.ref T, _, I1, rfl, W.yld _ _ _ _ ⟨T, vs, rfl, hTn, rfl, y⟩, step h'' st'', fun b hb => ?_⟩
    obtain ⟨o', e', _⟩ := W.obj _ _ st b hb
    rw [upd_ne (Nat.ne_of_lt (Nat.lt_of_lt_of_le (Heap.lt_size e') hT))]
    exact (hf b hb).1
  done := by
    intro X hP hw hK hc i pins s σ H E I hf st hg
    obtain ⟨n, fpw, Pt, St, Mid, W0, st0, step, _, eq, _⟩ := W.walk X hP hw hK hc i pins s σ H I st (.inr hg)
    have e := eq hg
    subst e
    exact W0.done s _ E st0 fun h' tk hk => ⟨rfl, I.turnedL (ch := wr) hk fun b hb => hf b (W.sub b hb)⟩
  self := W.self

/-! ### enumerate -/
def JE (K : Frag) (b : Bool) (a : Addr) : It :=
  ⟨fun i H => ∃ xs, SqB K H b a xs ∧ i < xs.length, fun i H v H' => ∃ T vs, v = .ref T ∧ H T = none ∧ H' = upd H T (.tup vs) ∧ ∃ x, vs = [.int (i : Nat), x] ∧ ∀ xs, SqB K H b a xs → xs[i]? = some x, fun i H => ∃ xs, SqB K H b a xs ∧ xs.length = i⟩
theorem wk_enum {P : Program} {w : World} {K : Frag} {b : Bool} {a e it : Addr} (hei : e ≠ it) (hai : a ≠ it) (hae : e ≠ a) :
    Wk P w K (JE K b a) e [e, it] [e, it] (fun i h => (∃ old, IsEnum h e it ((i : Nat) : Int) old) ∧ IterB h b it a i) (fun i H vs => ∃ x, vs = [.int (i : Nat), x] ∧ ∀ xs, SqB K H b a xs → xs[i]? = some x) where
  mem := by simp
  sub := fun _ h => h
  obj := fun i h st c hc => by
    obtain ⟨⟨old, he⟩, hi⟩ := st
    have q : c = e ∨ c = it := by simpa using hc
    rcases q with q | q
    · rw [q]; exact ⟨_, he, fun v z => nomatch z⟩
    · rw [q]; exact hi.obj
  keep := fun i h h' st k => let ⟨⟨old, he⟩, hi⟩ := st; ⟨⟨old, k e (by simp) _ he⟩, hi.at fun o q => k it (by simp) o q⟩
  self := fun A i s Q E st h => let ⟨⟨_, he⟩, _⟩ := st; wpAny_pyIter_enum he h
  yld := fun i H v H' y => y
  walk := by
    intro X hP hw hK hc i pins s σ H I st hg
    subst hP hw hK
    have src : ∃ xs, SqB X.K H b a xs := by
      rcases hg with ⟨xs, h, _⟩ | ⟨xs, h, _⟩
      · exact ⟨xs, h⟩
      · exact ⟨xs, h⟩
    obtain ⟨xs, hq⟩ := src
    obtain ⟨its, rv, hold, hz⟩ := seqB I hq
    obtain ⟨⟨old, he⟩, hi⟩ := st
    have hl := rv.length
    refine ⟨its.toArray.size, _, _, _, _, WalksT.enumFrom 0 (drawsB (A := X.A.in1) (I.ok.hd hc) b it a hai its.toArray) e hei (by simp [hei, hae]) (by simp), ⟨⟨old, by rw [Int.zero_add]; exact he⟩, hi, hold⟩, fun h st' => ?_, fun ⟨ys, hy, hlt⟩ => ?_, fun ⟨ys, hy, hlt⟩ => ?_, fun vals hp => ?_⟩
    · obtain ⟨⟨o2, he2⟩, hi2, _⟩ := st'
      exact ⟨⟨o2, by rw [Int.zero_add] at he2; exact he2⟩, hi2⟩
    · rw [seqB_inj I hy hq] at hlt
      rw [List.size_toArray]; omega
    · rw [seqB_inj I hy hq] at hlt
      rw [List.size_toArray]; omega
    · obtain ⟨t, x, hx, rfl⟩ := hp
      have hx' : its[i]? = some x := by simpa using hx
      have hi' : i < its.length := (List.getElem?_eq_some_iff.mp hx').1
      obtain ⟨y, hy⟩ : ∃ y, xs[i]? = some y := ⟨xs[i]'(by omega), List.getElem?_eq_getElem (by omega)⟩
      obtain ⟨u, hu, ru⟩ := rv.get hy
      rw [hx'] at hu; cases hu
      exact ⟨[.int (i : Nat), y], .cons ⟨t, by rw [Int.zero_add]⟩ (.cons ru .nil), by show 2 ≤ sizeLine; decide, y, rfl, fun zs hz => by rw [seqB_inj I hz hq]; exact hy⟩
theorem meets_enum1 {v : Value} {o : Obj} {H : Heap → Prop} (B : Begins v o H) :
    Meets (Builtin.«enumerate.__new__» ⟨[.type "enumerate", v], []⟩) (fun _ R s => H s.heap ∧
      R (.ok (.ret (.ref (s.heap.push o).objs.size))) { s with heap := (s.heap.push o).push { cls := .type "enumerate", data := .fields #[.none, .bool false, .ref s.heap.objs.size, rawInt 0, .none, .none] } }) :=
  .of_wp fun prog w A R s h => by
    obtain ⟨hp, g, d, tk, os⟩ := s; obtain ⟨h1, h⟩ := h
    have hsub := sub_enumerate
    have q1 : ∀ {A' : Around} {E : Value → Shared → Prop} {Q : Value → Shared → Prop}, Q (.ref hp.objs.size) ⟨hp.push o, g, d, tk, os⟩ → wpAny (model prog w) A' (pyIter v) Q E ⟨hp, g, d, tk, os⟩ :=
      fun q => B.iter prog w _ _ ⟨hp, g, d, tk, os⟩ _ h1 q
    wp_walk using q1
    refine wpAny_stack_any fun st => wpAny_pure ?_
    split
    · rename_i c _ _ _ _ _
      cases (c == Value.type "enumerate")
      · wp_walk using q1
        exact ⟨_, rfl, h⟩
      · wp_walk using q1
        exact ⟨_, rfl, h⟩
    · wp_walk using q1
      exact ⟨_, rfl, h⟩
theorem call_enum1 {prog : Program} {w : World} {A : Around} {E : Value → Shared → Prop} {s : Shared} {v : Value} {o : Obj} {H : Heap → Prop} {Q : Value → Shared → Prop} (B : Begins v o H) (h1 : H s.heap)
    (h : ∀ h', IsEnum h' (s.heap.objs.size + 1) s.heap.objs.size 0 .none → h'.get? s.heap.objs.size = some o → (∀ b u, s.heap.get? b = some u → h'.get? b = some u) → Q (.ref (s.heap.objs.size + 1)) { s with heap := h' }) :
    wpAny (model prog w) A (call (.type "enumerate") [v]) Q E s := by
  refine callType_new F.called_enumerate (by decide) (F.typeCall_enumerate_1 _) (F.newCall_enumerate_1 _) (fun obj => F.args_object_init_2 obj _) F.entry_enumerate_new (meets_enum1 B) ⟨h1, ?_⟩
  have hz : (s.heap.push o).objs.size = s.heap.objs.size + 1 := Heap.size_push ..
  have he := Heap.get?_push_size (s.heap.push o) (o := { cls := .type "enumerate", data := .fields #[.none, .bool false, .ref s.heap.objs.size, rawInt 0, .none, .none] }) rfl
  show _ ∧ _
  rw [hz] at he ⊢
  exact ⟨⟨_, he, rfl⟩, h _ he (Heap.get?_push_of_some _ (Heap.get?_push_size _ B.free)) fun b u x => Heap.get?_push_of_some _ (Heap.get?_push_of_some _ x)⟩
def iEnumB (K : Frag) (te : TE) : TI := fun σ H R => te σ H fun x H1 => ∃ b a xs, x = .ref a ∧ SqB K H1 b a xs ∧ R (JE K b a) H1
theorem pi_enumB {X : Cx} {ex : Expr} {te : TE} {p pos tpos : Pos} {elts : List Expr} {kk : Nat} (hg : Gl X "enumerate") (hm : X.mg "enumerate" = none) (he : PE X ex te) (hs : noStar ex = true) :
    PI X (.Tuple elts kk tpos) (.Call (.Name "enumerate" p) [ex] [] pos) (iEnumB X.K te) := by
  refine ⟨fun pins s σ H R I h => ?_⟩
  refine PyProof.Rows.Call_ (ld_blt I hg hm PyProof.Rows.boot_enumerate (PyProof.Rows.callWith_type1 (one_arg he I h (fun v s1 x H1 I1 r1 q1 => ?_) (star_of hs)) (star_of hs) rfl))
  obtain ⟨b, a, xs, rfl, hq, q⟩ := q1
  cases r1
  obtain ⟨its, rv, hold, hz⟩ := seqB I1 hq
  have la := hold.lt
  refine call_enum1 (beginsB b a its.toArray) hold fun h' hen hit hk => wpAny_pyIter_enum hen ?_
  have I2 : Inv X pins σ H1 { s1 with heap := h' } := I1.kept (t' := s1.toks) hk
  refine ⟨s1.heap.objs.size + 1, [s1.heap.objs.size + 1, s1.heap.objs.size], _, _, H1, rfl, I2, turn_wk (wk_enum (Nat.succ_ne_self _) (Nat.ne_of_lt la) (Nat.ne_of_gt (Nat.lt_succ_of_lt la))), ⟨⟨.none, hen⟩, iterB_new hit⟩, fun c hc => ?_, q⟩
  have q : c = s1.heap.objs.size + 1 ∨ c = s1.heap.objs.size := by simpa using hc
  have hle : s1.heap.objs.size ≤ c := by
    rcases q with q | q
    · rw [q]; exact Nat.le_succ _
    · rw [q]; exact Nat.le_refl _
  exact I1.fpOk hle (I1.hok.fresh hle)

/-! ### zip of two -/
def JZ (K : Frag) (b1 : Bool) (a1 : Addr) (b2 : Bool) (a2 : Addr) : It :=
  ⟨fun i H => ∃ xs ys, SqB K H b1 a1 xs ∧ SqB K H b2 a2 ys ∧ i < min xs.length ys.length, fun i H v H' => ∃ T vs, v = .ref T ∧ H T = none ∧ H' = upd H T (.tup vs) ∧ ∃ x y, vs = [x, y] ∧ (∀ xs, SqB K H b1 a1 xs → xs[i]? = some x) ∧ ∀ ys, SqB K H b2 a2 ys → ys[i]? = some y,
    fun i H => ∃ xs ys, SqB K H b1 a1 xs ∧ SqB K H b2 a2 ys ∧ min xs.length ys.length = i⟩
theorem wk_zip {P : Program} {w : World} {K : Frag} {b1 b2 : Bool} {a1 a2 z TI TO i1 i2 : Addr} (S : ZipSep2 z TI TO i1 i2 [i1, a1] [i2, a2]) (n1 : a1 ≠ i1) (n2 : a2 ≠ i2) :
    Wk P w K (JZ K b1 a1 b2 a2) z [z, TI, TO, i1, i2] [z, TO, i1, i2] (fun i h => IsZip h z TI TO .none ∧ IsTupOf2 h TI (.ref i1) (.ref i2) ∧ (∃ x y, IsTupOf2 h TO x y) ∧ IterB h b1 i1 a1 i ∧ IterB h b2 i2 a2 i)
      (fun i H vs => ∃ x y, vs = [x, y] ∧ (∀ xs, SqB K H b1 a1 xs → xs[i]? = some x) ∧ ∀ ys, SqB K H b2 a2 ys → ys[i]? = some y) where
  mem := by simp
  sub := fun c hc => by
    have q : c = z ∨ c = TO ∨ c = i1 ∨ c = i2 := by simpa using hc
    rcases q with q | q | q | q <;> rw [q] <;> simp
  obj := fun i h st c hc => by
    obtain ⟨hz, hTI, ⟨x, y, hTO⟩, h1, h2⟩ := st
    have q : c = z ∨ c = TI ∨ c = TO ∨ c = i1 ∨ c = i2 := by simpa using hc
    rcases q with q | q | q | q | q
    · rw [q]; exact ⟨_, hz, fun v z => nomatch z⟩
    · rw [q]; exact ⟨_, hTI, fun v z => nomatch z⟩
    · rw [q]; exact ⟨_, hTO, fun v z => nomatch z⟩
    · rw [q]; exact h1.obj
    · rw [q]; exact h2.obj
  keep := fun i h h' st k => by
    obtain ⟨hz, hTI, ⟨x, y, hTO⟩, h1, h2⟩ := st
    exact ⟨k z (by simp) _ hz, k TI (by simp) _ hTI, ⟨x, y, k TO (by simp) _ hTO⟩, h1.at fun o q => k i1 (by simp) o q, h2.at fun o q => k i2 (by simp) o q⟩
  self := fun A i s Q E st h => wpAny_pyIter_zip st.1 h
  yld := fun i H v H' y => y
  walk := by
    intro X hP hw hK hc i pins s σ H I st hg
    subst hP hw hK
    have src : ∃ xs ys, SqB X.K H b1 a1 xs ∧ SqB X.K H b2 a2 ys := by
      rcases hg with ⟨xs, ys, h, g, _⟩ | ⟨xs, ys, h, g, _⟩
      · exact ⟨xs, ys, h, g⟩
      · exact ⟨xs, ys, h, g⟩
    obtain ⟨xs, ys, hq1, hq2⟩ := src
    obtain ⟨its1, rv1, hold1, hz1⟩ := seqB I hq1
    obtain ⟨its2, rv2, hold2, hz2⟩ := seqB I hq2
    obtain ⟨hz, hTI, ⟨x, y, hTO⟩, h1, h2⟩ := st
    have l1 := rv1.length
    have l2 := rv2.length
    refine ⟨min its1.toArray.size its2.toArray.size, _, _, _, _, WalksT.zipD2 S (drawsB (A := X.A.in1) (I.ok.hd hc) b1 i1 a1 n1 its1.toArray) (drawsB (A := X.A.in1) (I.ok.hd hc) b2 i2 a2 n2 its2.toArray), ⟨hz, hTI, ⟨x, y, hTO⟩, ⟨h1, hold1⟩, ⟨h2, hold2⟩⟩, fun h st' => ?_, fun ⟨zs, ws, g1, g2, hlt⟩ => ?_, fun ⟨zs, ws, g1, g2, hlt⟩ => ?_, fun vals hp => ?_⟩
    · obtain ⟨hz', hTI', hTO', ⟨h1', _⟩, ⟨h2', _⟩⟩ := st'
      exact ⟨hz', hTI', hTO', h1', h2'⟩
    · rw [seqB_inj I g1 hq1, seqB_inj I g2 hq2] at hlt
      rw [List.size_toArray, List.size_toArray]; omega
    · rw [seqB_inj I g1 hq1, seqB_inj I g2 hq2] at hlt
      rw [List.size_toArray, List.size_toArray]; omega
    · obtain ⟨x1, x2, hx1, hx2, rfl⟩ := hp
      have e1 : its1[i]? = some x1 := by simpa using hx1
      have e2 : its2[i]? = some x2 := by simpa using hx2
      have k1 : i < its1.length := (List.getElem?_eq_some_iff.mp e1).1
      have k2 : i < its2.length := (List.getElem?_eq_some_iff.mp e2).1
      obtain ⟨v1, hv1⟩ : ∃ y, xs[i]? = some y := ⟨xs[i]'(by omega), List.getElem?_eq_getElem (by omega)⟩
      obtain ⟨v2, hv2⟩ : ∃ y, ys[i]? = some y := ⟨ys[i]'(by omega), List.getElem?_eq_getElem (by omega)⟩
      obtain ⟨u1, hu1, ru1⟩ := rv1.get hv1
      obtain ⟨u2, hu2, ru2⟩ := rv2.get hv2
      rw [e1] at hu1; cases hu1
      rw [e2] at hu2; cases hu2
      exact ⟨[v1, v2], .cons ru1 (.cons ru2 .nil), by show 2 ≤ sizeLine; decide, v1, v2, rfl, fun zs hz => by rw [seqB_inj I hz hq1]; exact hv1, fun zs hz => by rw [seqB_inj I hz hq2]; exact hv2⟩
def iZipB (K : Frag) (ta : TA) : TI := fun σ H R => ta σ H fun vs H2 => ∃ x y, vs = [x, y] ∧ ∃ b1 a1 xs b2 a2 ys, x = .ref a1 ∧ y = .ref a2 ∧ SqB K H2 b1 a1 xs ∧ SqB K H2 b2 a2 ys ∧ R (JZ K b1 a1 b2 a2) H2
theorem pi_zipB {X : Cx} {ex ey : Expr} {ta : TA} {p pos tpos : Pos} {elts : List Expr} {kk : Nat} (hg : Gl X "zip") (hm : X.mg "zip" = none) (ha : PA X [ex, ey] ta) (hs : noStar ex = true) (hs2 : noStar ey = true) :
    PI X (.Tuple elts kk tpos) (.Call (.Name "zip" p) [ex, ey] [] pos) (iZipB X.K ta) := by
  refine ⟨fun pins s σ H R I h => ?_⟩
  refine PyProof.Rows.Call_ (ld_blt I hg hm PyProof.Rows.boot_zip (PyProof.Rows.callWith_type1 (thn (ha.run pos pins s σ H _ I h) fun us s1 ⟨vs, H1, I1, r1, q1⟩ => ?_) (star_of hs) (plain_of (es := [ey]) (by simp [noStars, hs2]))))
  · obtain ⟨x, y, rfl, b1, a1, xs, b2, a2, ys, rfl, rfl, hq1, hq2, q⟩ := q1
    obtain ⟨u, v, rfl, ru, rv⟩ := Vals.two r1
    cases ru
    cases rv
    obtain ⟨its1, rv1, hold1, _⟩ := seqB I1 hq1
    obtain ⟨its2, rv2, hold2, _⟩ := seqB I1 hq2
    have l1 := hold1.lt
    have l2 := hold2.lt
    refine zip_begins2 (beginsB b1 a1 its1.toArray) (beginsB b2 a2 its2.toArray) hold1 hold2 fun h' hz hTI hTO h1 h2 hsz hk => wpAny_pyIter_zip hz ?_
    have I2 : Inv X pins σ H1 { s1 with heap := h' } := I1.kept (t' := s1.toks) hk
    refine ⟨s1.heap.objs.size + 4, [s1.heap.objs.size + 4, s1.heap.objs.size + 2, s1.heap.objs.size + 3, s1.heap.objs.size, s1.heap.objs.size + 1], _, _, H1, rfl, I2,
      turn_wk (wk_zip (zip_sep2 (N := s1.heap.objs.size) (fp1 := [a1]) (fp2 := [a2]) (by simpa using l1) (by simpa using l2)) (Nat.ne_of_lt l1) (Nat.ne_of_lt (Nat.lt_succ_of_lt l2))), ⟨hz, hTI, ⟨_, _, hTO⟩, iterB_new h1, iterB_new h2⟩, fun c hcm => ?_, q⟩
    have e' : c = s1.heap.objs.size + 4 ∨ c = s1.heap.objs.size + 2 ∨ c = s1.heap.objs.size + 3 ∨ c = s1.heap.objs.size ∨ c = s1.heap.objs.size + 1 := by simpa using hcm
    have hle : s1.heap.objs.size ≤ c := by
      rcases e' with z | z | z | z | z <;> rw [z] <;> first | exact Nat.le_add_right _ _ | exact Nat.le_refl _
    exact I1.fpOk hle (I1.hok.fresh hle)
end Sw
end T_SwL
section T_SwM
set_option autoImplicit false
set_option linter.all false
set_option Elab.async false
set_option maxRecDepth 100000
set_option maxHeartbeats 1000000
/-! SwM: sources, for, while. -/
namespace Sw
open PySem L2
def YD (K : Frag) (F' : Hp) (pl : Bool) (xs : List D) : Nat → Hp → L2.V → Hp → Prop := fun i H x H' => ∃ d, xs[i]? = some d ∧
  match pl with
  | true => H' = H ∧ Rp K F' x d
  | false => ∃ T vs ds, x = .ref T ∧ H T = none ∧ H' = upd H T (.tup vs) ∧ d = .tuple ds ∧ RpAll K F' vs ds
section
variable {N : List Str} {sc : Scope} {CX : CXT} {φ : Orc} {ex ey ez big tg iter : Expr} {exs : List Expr} {pl : Bool}
def Srcs (N : List Str) (sc : Scope) (CX : CXT) (tg iter : Expr) (φ : Orc) (pl : Bool) (r : Env → R (List D × Env)) : Prop :=
  ∀ X, Good N sc CX X φ → ∃ wi, PI X tg iter wi ∧ ∀ e xs e', r e = .ok (xs, e') → ∀ F H σ (R : It → Hp → Prop), Rel X.K F H σ e →
    (∀ J F' H', Post X.K F H σ e F' H' σ e' → Walk J xs.length (fun H1 => Sub F' H1) (YD X.K F' pl xs) → R J H') → wi σ H R
/-! ### a list or a tuple -/
def JL (K : Frag) : Bool → Addr → It | true, a => Itl K a | false, a => Itt K a
def iSeqB (K : Frag) (te : TE) : TI := fun σ H R => te σ H fun x H1 => ∃ b a xs, x = .ref a ∧ SqB K H1 b a xs ∧ R (JL K b a) H1
theorem pi_seqB {X : Cx} {te : TE} (he : PE X ex te) : PI X tg ex (iSeqB X.K te) := by
  refine ⟨fun pins s σ H R I h => thn (he.run pins s σ H _ I h) fun v s1 ⟨x, H1, I1, r1, b, a, xs, ex, hq, q⟩ => ?_⟩
  subst ex
  cases r1
  obtain ⟨its, rv, hold, hz⟩ := seqB I1 hq
  refine (beginsB b a its.toArray).iter _ _ _ _ _ _ hold ?_
  have st : IterB (s1.heap.push (iterObj b a)) b s1.heap.objs.size a 0 := iterB_new (Heap.get?_push_size _ (beginsB b a its.toArray).free)
  cases b with
  | true => exact pi_one (tk := s1.toks) I1 _ (turn_list a _) st q
  | false => exact pi_one (tk := s1.toks) I1 _ (turn_tuple a _) st q
theorem rp_seqB {K : Frag} {F : Hp} {v : L2.V} {d : D} {xs : List D} (r : Rp K F v d) (h : seqOf d = some xs) : ∃ b a vs, v = .ref a ∧ SqB K F b a vs ∧ RpAll K F vs xs := by
  cases r with
  | lst h1 h2 => cases h; exact ⟨true, _, _, rfl, h1, h2⟩
  | tup h1 h2 => cases h; exact ⟨false, _, _, rfl, h1.sq, h2⟩
  | non => cases h
  | bl _ => cases h
  | int _ => cases h
  | str _ => cases h
theorem Sub.sqB {K : Frag} {F H : Hp} (h : Sub F H) {b : Bool} {a : Addr} {xs : List L2.V} (r : SqB K F b a xs) : SqB K H b a xs := by
  cases b with
  | true => exact h.sqL r
  | false => exact h.sqT r
theorem walk_seqB {K : Frag} {F : Hp} {b : Bool} {a : Addr} {vs : List L2.V} {xs : List D} (h1 : SqB K F b a vs) (h2 : RpAll K F vs xs) : Walk (JL K b a) xs.length (fun H1 => Sub F H1) (YD K F true xs) := by
  have hl := rpAll_len h2
  have y : ∀ (i : Nat) (H : Hp) (x : L2.V) (H' : Hp), YAt vs i H x H' → YD K F true xs i H x H' := fun i H x H' y => by
    obtain ⟨d, e, r⟩ := rpAll_get' h2 y.2
    exact ⟨d, e, y.1, r⟩
  rw [← hl]
  cases b with
  | true => exact walk_list.mono (fun H s => s.sqL h1) fun i H x H' _ _ q => y i H x H' q
  | false => exact walk_tup.mono (fun H s => s.sqT h1) fun i H x H' _ _ q => y i H x H' q
theorem src_seq {a : E} (h : SD N sc CX ex φ (daW (evalE φ a))) : Srcs N sc CX tg ex φ true (evalSrc φ (.seq a)) := by
  intro X G
  refine ⟨_, pi_seqB (peE ex), fun e xs e' hr F H σ R rel k => ?_⟩
  simp only [evalSrc] at hr
  obtain ⟨⟨d, e1⟩, r1, r2⟩ := bind_inv hr
  obtain ⟨ys, r3, r4⟩ := bind_inv r2
  cases r4
  refine h X G e d _ r1 F H σ _ rel fun v F1 H1 p1 d1 => ?_
  obtain ⟨b, a, vs, rfl, h1, h2⟩ := rp_seqB d1 (ofO_inv r3)
  exact ⟨b, a, vs, rfl, p1.rel.sub.sqB h1, k _ F1 H1 p1 (walk_seqB h1 h2)⟩
/-! ### ranges -/
theorem rangeD_len (a : Int) (n : Nat) (c : Int) : (rangeD a n c).length = n := by simp [rangeD]
theorem rangeD_get {a : Int} {n : Nat} {c : Int} {i : Nat} (h : i < n) : (rangeD a n c)[i]? = some (.int (a + (i : Int) * c)) := by
  unfold rangeD
  rw [List.getElem?_map, List.getElem?_range h]; rfl
theorem walk_rangeD {K : Frag} {F : Hp} {lo : Int} {n : Nat} : Walk (Itr lo n) (rangeD lo n 1).length (fun H1 => Sub F H1) (YD K F true (rangeD lo n 1)) := by
  rw [rangeD_len]
  refine walk_range.mono (fun _ _ => trivial) fun i H x H' hi _ y => ?_
  obtain ⟨y1, rfl⟩ := y
  exact ⟨_, rangeD_get hi, y1, by rw [Int.mul_one]; exact .int _⟩
theorem walk_rangeCD {K : Frag} {F : Hp} {lo c : Int} {n : Nat} : Walk (Itc lo c n) (rangeD lo n c).length (fun H1 => Sub F H1) (YD K F true (rangeD lo n c)) := by
  rw [rangeD_len]
  refine walk_rangeC.mono (fun _ _ => trivial) fun i H x H' hi _ y => ?_
  obtain ⟨y1, rfl⟩ := y
  exact ⟨_, rangeD_get hi, y1, .int _⟩
theorem range2_inv {a b : D} {xs : List D} (h : range2 a b = some xs) : ∃ i j, a = .int i ∧ b = .int j ∧ (-(2 ^ 62) ≤ i ∧ i < 2 ^ 62 ∧ -(2 ^ 62) ≤ j ∧ j < 2 ^ 62) ∧ (j - i).toNat ≤ lim ∧ xs = rangeD i (j - i).toNat 1 := by
  unfold range2 at h
  split at h
  · split at h
    · rename_i i j hc
      rw [Bool.and_eq_true] at hc
      cases h
      exact ⟨i, j, rfl, rfl, of_decide_eq_true hc.1, of_decide_eq_true hc.2, rfl⟩
    · cases h
  · cases h
theorem src_rng1 {a : E} {p pos : Pos} (hg : GlS sc (Str.ofString "range")) (hs : noStar ex = true) (h : SD N sc CX ex φ (daW (evalE φ a))) : Srcs N sc CX tg (.Call (.Name (Str.ofString "range") p) [ex] [] pos) φ true (evalSrc φ (.rng1 a)) := by
  intro X G
  refine ⟨_, pi_range1 (G.gl hg) (G.blt "range" (by decide)) (pa_cons (peE ex) pa_nil (star_of hs)) (by rw [star_of hs]; rfl), fun e xs e' hr F H σ R rel k => ?_⟩
  simp only [evalSrc] at hr
  obtain ⟨⟨d, e1⟩, r1, r2⟩ := bind_inv hr
  obtain ⟨ys, r3, r4⟩ := bind_inv r2
  cases r4
  obtain ⟨i, j, hi, rfl, hb, hl, rfl⟩ := range2_inv (ofO_inv r3)
  cases hi
  refine h X G e _ _ r1 F H σ _ rel fun v F1 H1 p1 d1 => ?_
  cases d1
  have q := k _ F1 H1 p1 walk_rangeD
  rw [Int.sub_zero] at q
  exact ⟨j, rfl, hb.2.2.1, hb.2.2.2, q⟩
theorem src_rng2 {a b : E} {p pos : Pos} (hg : GlS sc (Str.ofString "range")) (hs : noStar ex = true) (hs2 : noStar ey = true) (h : SD N sc CX ex φ (daW (evalE φ a))) (h2 : SD N sc CX ey φ (daW (evalE φ b))) : Srcs N sc CX tg (.Call (.Name (Str.ofString "range") p) [ex, ey] [] pos) φ true (evalSrc φ (.rng2 a b)) := by
  intro X G
  refine ⟨_, pi_range2 (G.gl hg) (G.blt "range" (by decide)) (pa_cons (peE ex) (pa_cons (peE ey) pa_nil (star_of hs2)) (star_of hs)) (by rw [star_of hs, star_of hs2]; rfl) (by rw [star_of hs2]; rfl), fun e xs e' hr F H σ R rel k => ?_⟩
  simp only [evalSrc] at hr
  obtain ⟨⟨d, e1⟩, r1, r2⟩ := bind_inv hr
  obtain ⟨⟨d', e2⟩, r1', r2⟩ := bind_inv r2
  obtain ⟨ys, r3, r4⟩ := bind_inv r2
  cases r4
  obtain ⟨i, j, rfl, rfl, hb, hl, rfl⟩ := range2_inv (ofO_inv r3)
  refine h X G e _ _ r1 F H σ _ rel fun v F1 H1 p1 d1 => ?_
  refine h2 X G e1 _ _ r1' F1 H1 σ _ p1.rel fun v' F2 H2 p2 d2 => ?_
  cases d1
  cases d2
  exact ⟨i, j, rfl, hb, k _ F2 H2 (p1.trans p2) walk_rangeD⟩
theorem range3_inv {a b c : D} {xs : List D} (h : range3 a b c = some xs) : ∃ i j k n, a = .int i ∧ b = .int j ∧ c = .int k ∧ RgC i j k n ∧ n ≤ lim ∧ xs = rangeD i n k := by
  unfold range3 at h
  split at h
  · split at h
    · rename_i i j k hc
      simp only [Bool.and_eq_true, decide_eq_true_eq] at hc
      cases h
      exact ⟨i, j, k, _, rfl, rfl, rfl, ⟨hc.1.1.1, hc.1.1.2, hc.1.2, by omega⟩, hc.2.2, rfl⟩
    · cases h
  · cases h
theorem src_rng3 {a b c : E} {p pos : Pos} (hg : GlS sc (Str.ofString "range")) (hs : noStar ex = true) (hs2 : noStar ey = true) (hs3 : noStar ez = true) (h : SD N sc CX ex φ (daW (evalE φ a))) (h2 : SD N sc CX ey φ (daW (evalE φ b))) (h3 : SD N sc CX ez φ (daW (evalE φ c))) :
    Srcs N sc CX tg (.Call (.Name (Str.ofString "range") p) [ex, ey, ez] [] pos) φ true (evalSrc φ (.rng3 a b c)) := by
  intro X G
  refine ⟨_, pi_range3 (G.gl hg) (G.blt "range" (by decide)) (pa_cons (peE ex) (pa_cons (peE ey) (pa_cons (peE ez) pa_nil (star_of hs3)) (star_of hs2)) (star_of hs)) (star_of hs) (plain_of (es := [ey, ez]) (by simp [noStars, hs2, hs3])), fun e xs e' hr F H σ R rel k => ?_⟩
  simp only [evalSrc] at hr
  obtain ⟨⟨d, e1⟩, r1, r2⟩ := bind_inv hr
  obtain ⟨⟨d', e2⟩, r1', r2⟩ := bind_inv r2
  obtain ⟨⟨d'', e3⟩, r1'', r2⟩ := bind_inv r2
  obtain ⟨ys, r3, r4⟩ := bind_inv r2
  cases r4
  obtain ⟨i, j, q, n, rfl, rfl, rfl, hb, hl, rfl⟩ := range3_inv (ofO_inv r3)
  refine h X G e _ _ r1 F H σ _ rel fun v F1 H1 p1 d1 => ?_
  refine h2 X G e1 _ _ r1' F1 H1 σ _ p1.rel fun v' F2 H2 p2 d2 => ?_
  refine h3 X G e2 _ _ r1'' F2 H2 σ _ p2.rel fun v'' F3 H3 p3 d3 => ?_
  cases d1
  cases d2
  cases d3
  exact ⟨i, j, q, n, rfl, hb, k _ F3 H3 (p1.trans (p2.trans p3)) walk_rangeCD⟩
/-! ### enumerate, zip -/
theorem enum_len : ∀ (xs : List D) (n : Nat), (enumFrom n xs).length = xs.length
  | [], _ => rfl
  | x :: r, n => by simp [enumFrom, enum_len r]
theorem enum_get : ∀ {xs : List D} {n i : Nat} {d : D}, xs[i]? = some d → (enumFrom n xs)[i]? = some (.tuple [.int ((n + i : Nat) : Int), d])
  | x :: r, n, 0, d, h => by simp at h; subst h; simp [enumFrom]
  | x :: r, n, i + 1, d, h => by
    have h' : r[i]? = some d := by simpa using h
    have := enum_get (n := n + 1) h'
    simp only [enumFrom, List.getElem?_cons_succ]
    rw [this, Nat.add_assoc, Nat.add_comm 1 i]
theorem walk_enumB {K : Frag} {F : Hp} {b : Bool} {a : Addr} {vs : List L2.V} {xs : List D} (h1 : SqB K F b a vs) (h2 : RpAll K F vs xs) : Walk (JE K b a) (enumFrom 0 xs).length (fun H1 => Sub F H1) (YD K F false (enumFrom 0 xs)) := by
  have hl := rpAll_len h2
  rw [enum_len, ← hl]
  refine ⟨fun i H hi s => ⟨vs, s.sqB h1, hi⟩, fun H s => ⟨vs, s.sqB h1, rfl⟩, fun i H v H' hi s y => ?_⟩
  obtain ⟨T, ws, e1, e2, e3, x, rfl, hx⟩ := y
  obtain ⟨d, hd, r⟩ := rpAll_get' h2 (hx vs (s.sqB h1))
  refine ⟨_, enum_get hd, T, _, [.int (i : Nat), d], e1, e2, e3, by rw [Nat.zero_add], .cons (.int _) (.cons r .nil)⟩
theorem src_enum {a : E} {p pos tpos : Pos} {elts : List Expr} {kk : Nat} (hg : GlS sc (Str.ofString "enumerate")) (hs : noStar ex = true) (h : SD N sc CX ex φ (daW (evalE φ a))) : Srcs N sc CX (.Tuple elts kk tpos) (.Call (.Name (Str.ofString "enumerate") p) [ex] [] pos) φ false (evalSrc φ (.enum a)) := by
  intro X G
  refine ⟨_, pi_enumB (G.gl hg) (G.blt "enumerate" (by decide)) (peE ex) hs, fun e xs e' hr F H σ R rel k => ?_⟩
  simp only [evalSrc] at hr
  obtain ⟨⟨d, e1⟩, r1, r2⟩ := bind_inv hr
  obtain ⟨ys, r3, r4⟩ := bind_inv r2
  cases r4
  have r3 := ofO_inv r3
  unfold enumD at r3
  simp only [Option.map_eq_some_iff] at r3
  obtain ⟨zs, r5, rfl⟩ := r3
  refine h X G e d _ r1 F H σ _ rel fun v F1 H1 p1 d1 => ?_
  obtain ⟨b, a, vs, rfl, h1, h2⟩ := rp_seqB d1 r5
  exact ⟨b, a, vs, rfl, p1.rel.sub.sqB h1, k _ F1 H1 p1 (walk_enumB h1 h2)⟩
theorem walk_zipB {K : Frag} {F : Hp} {b1 b2 : Bool} {a1 a2 : Addr} {vs ws : List L2.V} {xs ys : List D} (h1 : SqB K F b1 a1 vs) (h2 : RpAll K F vs xs) (g1 : SqB K F b2 a2 ws) (g2 : RpAll K F ws ys) :
    Walk (JZ K b1 a1 b2 a2) (List.zipWith (fun x y => PyData.tuple [x, y]) xs ys).length (fun H1 => Sub F H1) (YD K F false (List.zipWith (fun x y => PyData.tuple [x, y]) xs ys)) := by
  rw [List.length_zipWith, ← rpAll_len h2, ← rpAll_len g2]
  refine ⟨fun i H hi s => ⟨vs, ws, s.sqB h1, s.sqB g1, hi⟩, fun H s => ⟨vs, ws, s.sqB h1, s.sqB g1, rfl⟩, fun i H v H' hi s y => ?_⟩
  obtain ⟨T, us, e1, e2, e3, x, y, rfl, hx, hy⟩ := y
  obtain ⟨d, hd, r⟩ := rpAll_get' h2 (hx vs (s.sqB h1))
  obtain ⟨d', hd', r'⟩ := rpAll_get' g2 (hy ws (s.sqB g1))
  refine ⟨.tuple [d, d'], ?_, T, _, [d, d'], e1, e2, e3, rfl, .cons r (.cons r' .nil)⟩
  rw [List.getElem?_zipWith, hd, hd']
theorem src_zip {a b : E} {p pos tpos : Pos} {elts : List Expr} {kk : Nat} (hg : GlS sc (Str.ofString "zip")) (hs : noStar ex = true) (hs2 : noStar ey = true) (h : SD N sc CX ex φ (daW (evalE φ a))) (h2 : SD N sc CX ey φ (daW (evalE φ b))) :
    Srcs N sc CX (.Tuple elts kk tpos) (.Call (.Name (Str.ofString "zip") p) [ex, ey] [] pos) φ false (evalSrc φ (.zip2 a b)) := by
  intro X G
  refine ⟨_, pi_zipB (G.gl hg) (G.blt "zip" (by decide)) (pa_cons (peE ex) (pa_cons (peE ey) pa_nil (star_of hs2)) (star_of hs)) hs hs2, fun e xs e' hr F H σ R rel k => ?_⟩
  simp only [evalSrc] at hr
  obtain ⟨⟨d, e1⟩, r1, r2⟩ := bind_inv hr
  obtain ⟨⟨d', e2⟩, r1', r2⟩ := bind_inv r2
  obtain ⟨ys, r3, r4⟩ := bind_inv r2
  cases r4
  have r3 := ofO_inv r3
  unfold zipD at r3
  simp only [Option.bind_eq_some_iff, Option.map_eq_some_iff] at r3
  obtain ⟨as, r5, bs, r6, rfl⟩ := r3
  refine h X G e d _ r1 F H σ _ rel fun v F1 H1 p1 d1 => ?_
  refine h2 X G e1 d' _ r1' F1 H1 σ _ p1.rel fun v' F2 H2 p2 d2 => ?_
  obtain ⟨b1, a1, vs, rfl, g1, g2⟩ := rp_seqB (p2.grow.rp _ _ d1) r5
  obtain ⟨b2, a2, ws, rfl, g3, g4⟩ := rp_seqB d2 r6
  exact ⟨.ref a1, .ref a2, rfl, b1, a1, vs, b2, a2, ws, rfl, rfl, p2.rel.sub.sqB g1, p2.rel.sub.sqB g3, k _ F2 H2 (p1.trans p2) (walk_zipB g1 g2 g3 g4)⟩

/-! ### for -/
def RG (X : Cx) (tg : Expr) : TG := fun v σ H Q => ∀ pins s u, Inv X pins σ H s → RelV v u → wpAny (model X.prog X.w) X.A (assign tg X.env u) (fun _ s' => ∃ σ' H', Inv X pins σ' H' s' ∧ Q σ' H') X.xe s
theorem pgG {X : Cx} : PG X tg (RG X tg) := ⟨fun pins s σ H v u Q I r h => h pins s u I r⟩
theorem TgOk.rg {X : Cx} {t : T} (h : TgOk X tg t) {F H : Hp} {e : Env} {v : L2.V} {d : D} {e' : Env} {σ : L2.St} {Q : L2.St → Hp → Prop} (rel : Rel X.K F H σ e) (r : Rp X.K F v d ∨ (isP t = true ∧ IR X.K F H v d)) (ha : asgT t d e = some e')
    (k : ∀ σ', Stored X.K F H σ e (slotsT t) σ' e' → Q σ' H) : RG X tg v σ H Q := by
  obtain ⟨g, pg, q⟩ := h
  exact fun pins s u I rv => pg.run pins s σ H v u Q I rv (q F H e v d e' σ Q I.len rel r ha k)
def isSetE : Expr → Bool | .Set _ _ _ => true | _ => false
theorem noFold {env : PySem.Env} (h : isSetE iter = false) (x : Value) : foldedSetIterable iter env x = pure x := by
  cases iter <;> first | rfl | cases h
variable {pr : Nat → Bool} {st : Stmt} {sts : List Stmt}
def loopR (kill : List Nat) (next : Env → SR) : SR → SR
  | .nx e1 => next (killAll kill e1)
  | .ct e1 => next (killAll kill e1)
  | .bk e1 => .nx (killAll kill e1)
  | .rt v e1 => .rt v e1
  | .exc c => .exc c
  | .bad => .bad
theorem loop_end {K : Frag} {F H F2 H2 : Hp} {σ σ2 : L2.St} {e e2 : Env} {Dn : Ends} {r : SR} {next : Env → SR} {kill : List Nat} {P : L2.St → Hp → Prop} (k : EndK pr K F H σ e Dn (loopR kill next r)) (p : Post K F H σ e F2 H2 σ2 e2) (kp : Kept pr σ σ2)
    (hP : ∀ σ' F' H' e1, Rel K F' H' σ' e1 → Sub F2 F' → EndK pr K F' H' σ' e1 Dn (next e1) → P σ' H') : EndK pr K F2 H2 σ2 e2 { Dn with nx := P, ct := P, bk := Dn.nx } r := by
  have go : ∀ e1, EndK pr K F H σ e Dn (next (killAll kill e1)) → ∀ σ' F' H', Post K F2 H2 σ2 e2 F' H' σ' e1 → Kept pr σ2 σ' → P σ' H' := fun e1 k σ' F' H' p' q' => by
    have z := Post.kill p'.rel kill (σ' := σ') (fun _ _ => rfl)
    exact hP σ' F' H' _ z.rel p'.grow (EndK.trans (p.trans (p'.trans z)) (kp.trans q') k)
  cases r with
  | nx e1 => exact go e1 k
  | ct e1 => exact go e1 k
  | bk e1 => exact fun σ' F' H' p' q' => k σ' F' H' (p.trans (p'.trans (Post.kill p'.rel kill (fun _ _ => rfl)))) (kp.trans q')
  | rt w e1 => exact fun v σ' F' H' p' q' r f => k v σ' F' H' (p.trans p') (kp.trans q') r (From.trans p f)
  | exc c => exact False.elim k
  | bad => exact False.elim k
theorem forL_cons (f : D → Env → SR) (kill : List Nat) (x : D) (xs : List D) (e : Env) : forL f kill (x :: xs) e = loopR kill (forL f kill xs) (f x e) := by
  simp only [forL]
  cases f x e <;> rfl
theorem stored_kept {K : Frag} {F H : Hp} {σ σ' : L2.St} {e e' : Env} {l : List Nat} (s : Stored K F H σ e l σ' e') (h : ∀ j ∈ l, pr j = false) : Kept pr σ σ' := fun j hj => s.kept j fun z => by rw [h j z] at hj; cases hj
theorem ss_for {t : T} {s : Src} {b : Ss} {kill : List Nat} {body : List Stmt} {pos : Pos} (hs : Srcs N sc CX tg iter φ pl (evalSrc φ s)) (htg : ∀ X, GoodS N sc CX X φ → TgOk X tg t) (hpl : pl = true ∨ isP t = true) (hpr : ∀ j ∈ slotsT t, pr j = false) (hset : isSetE iter = false)
    (hb : SSs N sc CX pr body φ (execs φ b)) : SS N sc CX pr (.For tg iter body [] pos) φ (exec φ (.forr t s b kill)) := by
  intro X G e F H σ Dn rel k
  simp only [exec] at k
  obtain ⟨⟨xs, e1⟩, r1, k⟩ := ofR_ok' k
  obtain ⟨wi, hi, src⟩ := hs X G.toGood
  have hp : PassesOwn (model X.prog X.w) X.A X.env X.xe := fun v s h => absurd h (G.nox v s)
  refine RS.of (ps_for hp G.calm hi pgG (pssS body) (noFold hset)) (src e xs e1 r1 F H σ _ rel fun J F1 H1 p1 w => ?_)
  dsimp only at k
  generalize hf : (fun x e1 => match asgT t x e1 with | some e2 => execs φ b e2 | none => SR.bad) = f at k
  refine for_it w (fun i σ' H' => ∃ e' F', Sub F1 F' ∧ Rel X.K F' H' σ' e' ∧ EndK pr X.K F' H' σ' e' Dn (forL f kill (xs.drop i) e')) ⟨e1, F1, Sub.refl _, p1.rel, EndK.trans p1 Kept.refl k⟩ (fun i σ' H' _ ⟨e', F', h1, h2, _⟩ => h1.trans h2.sub) (fun i x σ' H' H'' hi' ⟨e', F', h1, h2, h3⟩ y => ?_) fun σ' H' ⟨e', F', h1, h2, h3⟩ => ?_
  · obtain ⟨d, hd, y⟩ := y
    have hdr : xs.drop i = d :: xs.drop (i + 1) := by
      rw [List.drop_eq_getElem_cons hi']
      have := (List.getElem?_eq_some_iff.mp hd).2
      rw [this]
    rw [hdr, forL_cons] at h3
    have hfd : f d e' = match asgT t d e' with | some e2 => execs φ b e2 | none => SR.bad := by rw [← hf]
    cases ha : asgT t d e' with
    | none =>
      rw [hfd, ha] at h3
      exact False.elim h3
    | some e2 =>
      rw [hfd, ha] at h3
      have item : ∃ Z : Post X.K F' H' σ' e' F' H'' σ' e', Rp X.K F' x d ∨ (isP t = true ∧ IR X.K F' H'' x d) := by
        cases pl with
        | true =>
          obtain ⟨rfl, r⟩ := y
          exact ⟨Post.refl h2, .inl (h1.rp _ _ r)⟩
        | false =>
          obtain ⟨T, vs, ds, rfl, hT, rfl, rfl, r⟩ := y
          have hp : isP t = true := by
            rcases hpl with z | z
            · cases z
            · exact z
          exact ⟨Post.fresh h2 hT _, .inr ⟨hp, .inr ⟨T, vs, ds, rfl, rfl, .inl (.inl upd_same), h1.rpAll _ _ r⟩⟩⟩
      obtain ⟨z, it⟩ := item
      refine (htg X G).rg z.rel it ha fun σ2 s2 => ?_
      have pz := z.trans s2.post
      refine hb X G e2 F' H'' σ2 _ s2.post.rel ?_
      refine loop_end h3 pz (stored_kept s2 hpr) fun σ3 F3 H3 e3 rel3 sub3 k3 => ⟨e3, F3, h1.trans sub3, rel3, k3⟩
  · rw [List.drop_length] at h3
    simp only [forL] at h3
    exact h3 σ' F' H' (Post.refl h2) Kept.refl
/-! ### while -/
theorem ss_while {t : Te} {b : Ss} {kill : List Nat} {body : List Stmt} {pos : Pos} (ht : ST N sc CX ex φ (evalT φ t)) (hb : SSs N sc CX pr body φ (execs φ b)) : SS N sc CX pr (.While ex body [] pos) φ (exec φ (.whil t b kill)) := by
  intro X G e F H σ Dn rel k
  simp only [exec] at k
  have hp : PassesOwn (model X.prog X.w) X.A X.env X.xe := fun v s h => absurd h (G.nox v s)
  refine RS.of (ps_while hp (ptT ex) (pssS body)) ⟨fun m σ' H' => ∃ e' F', Rel X.K F' H' σ' e' ∧ EndK pr X.K F' H' σ' e' Dn (whileL (evalT φ t) (execs φ b) kill m e'), ⟨fuel, e, F, rel, k⟩, ?_⟩
  rintro m σ' H' ⟨e', F', h2, h3⟩
  cases m with
  | zero => exact False.elim h3
  | succ m =>
    simp only [whileL] at h3
    obtain ⟨⟨c, e1⟩, r1, h3⟩ := ofR_ok' h3
    refine ht X G.toGood e' c e1 r1 F' H' σ' _ h2 fun F1 H1 p1 => ?_
    cases c with
    | true =>
      simp only [if_true] at h3 ⊢
      refine ⟨fun σ' H' => ∃ e' F', Rel X.K F' H' σ' e' ∧ EndK pr X.K F' H' σ' e' Dn (whileL (evalT φ t) (execs φ b) kill m e'), fun σ3 H3 h => ⟨m, Nat.lt_succ_self _, h⟩, ?_⟩
      refine hb X G e1 F1 H1 σ' _ p1.rel (loop_end (kill := kill) (next := whileL (evalT φ t) (execs φ b) kill m) ?_ p1 Kept.refl fun σ3 F3 H3 e3 rel3 sub3 k3 => ⟨e3, F3, rel3, k3⟩)
      revert h3
      unfold loopR
      cases execs φ b e1 <;> exact id
    | false => exact h3 σ' F1 H1 p1 Kept.refl
end
end Sw
end T_SwM
section T_SwN
set_option autoImplicit false
set_option linter.all false
set_option Elab.async false
set_option maxRecDepth 100000
set_option maxHeartbeats 1000000
/-! SwN: list comprehensions. -/
namespace Sw
open PySem L2

/-! ### the heap without one address -/
def del (H : Hp) (D : Addr) : Hp := fun a => if a = D then none else H a
theorem del_ne {H : Hp} {D a : Addr} (h : a ≠ D) : del H D a = H a := if_neg h
theorem del_self {H : Hp} {D : Addr} : del H D D = none := if_pos rfl
theorem del_upd {H : Hp} {D : Addr} {o : HO} : del (upd H D o) D = del H D := by
  funext a
  by_cases h : a = D
  · subst h; rw [del_self, del_self]
  · rw [del_ne h, del_ne h, upd_ne h]
theorem del_none {H : Hp} {D : Addr} (h : H D = none) : del H D = H := by
  funext a
  by_cases z : a = D
  · subst z; rw [del_self, h]
  · rw [del_ne z]
theorem upd_del {H : Hp} {D : Addr} {o : HO} (h : H D = some o) : upd (del H D) D o = H := by
  funext a
  by_cases z : a = D
  · subst z; rw [upd_same, h]
  · rw [upd_ne z, del_ne z]
theorem del_some {H : Hp} {D a : Addr} {o : HO} (h : del H D a = some o) : a ≠ D ∧ H a = some o := by
  by_cases z : a = D
  · subst z; rw [del_self] at h; cases h
  · rw [del_ne z] at h; exact ⟨z, h⟩
section
variable {K : Frag} {F H F1 H1 F2 H2 : Hp} {σ σ1 : L2.St} {e e1 : Env} {A : Addr}
theorem Rel.undel (r : Rel K F (del H A) σ e) : Rel K F H σ e := by
  refine ⟨fun a o h => (del_some (r.sub a o h)).2, fun i => ?_, r.sep⟩
  have q := r.slot i
  revert q
  cases get e i with
  | u => exact fun q => q
  | d x => exact fun q => q
  | k x => exact fun q => q
  | c xs =>
    rintro ⟨a, vs, h1, h2, h3, h4⟩
    exact ⟨a, vs, h1, (del_some h2).2, h3, h4⟩
theorem Rel.notDel (r : Rel K F (del H A) σ e) : F A = none ∧ ¬ Own σ e A := by
  refine ⟨?_, fun h => ?_⟩
  · cases q : F A with
    | none => rfl
    | some o => exact absurd rfl (del_some (r.sub A o q)).1
  · obtain ⟨_, o, h⟩ := r.own h
    exact absurd rfl (del_some h).1
theorem Post.del (r : Rel K F (del H A) σ e) {o : HO} (hA : H A = some o) (p : Post K F H σ e F1 H1 σ1 e1) : H1 A = some o ∧ Post K F (Sw.del H A) σ e F1 (Sw.del H1 A) σ1 e1 := by
  obtain ⟨fA, oA⟩ := r.notDel
  have h1 : H1 A = some o := p.keep A o hA oA
  have f1 : F1 A = none := by
    cases q : F1 A with
    | none => rfl
    | some u =>
      rcases p.new A (by rw [q]; simp) with z | z | z
      · exact absurd fA z
      · rw [hA] at z; cases z
      · exact absurd z oA
  have o1 : ¬ Own σ1 e1 A := fun z => by
    rcases p.own A z with z | z
    · exact oA z
    · rw [hA] at z; cases z
  refine ⟨h1, p.grow, ⟨fun a u h => ?_, fun i => ?_, p.rel.sep⟩, fun a u h n => ?_, fun a h => ?_, fun a h => ?_, fun a h => ?_⟩
  · have z : a ≠ A := fun z => by rw [z, f1] at h; cases h
    rw [del_ne z]; exact p.rel.sub a u h
  · have q := p.rel.slot i
    have own : isOwn (get e1 i) = true → σ1[i]? = some (some (.ref A)) → False := fun h g => o1 ⟨i, h, g⟩
    revert q own
    cases get e1 i with
    | u => exact fun q _ => q
    | d x => exact fun q _ => q
    | k x => exact fun q _ => q
    | c xs =>
      rintro ⟨a, vs, h1, h2, h3, h4⟩ own
      have z : a ≠ A := fun z => own rfl (by rw [h1, z])
      exact ⟨a, vs, h1, by rw [del_ne z]; exact h2, h3, h4⟩
  · obtain ⟨z, h⟩ := del_some h
    rw [del_ne z]; exact p.keep a u h n
  · rcases p.new a h with z | z | z
    · exact .inl z
    · refine .inr (.inl ?_)
      by_cases q : a = A
      · rw [q, del_self]
      · rw [del_ne q]; exact z
    · exact .inr (.inr z)
  · by_cases q : a = A
    · rw [q, del_self]
    · rw [del_ne q] at h ⊢; exact p.dom a h
  · rcases p.own a h with z | z
    · exact .inl z
    · refine .inr ?_
      by_cases q : a = A
      · rw [q, del_self]
      · rw [del_ne q]; exact z
/-! ### the block's own slots, back as they were -/
theorem restore_len {old e : Env} : ∀ l : List Nat, (Sw.restore old l e).length = e.length
  | [] => rfl
  | k :: r => by unfold Sw.restore; rw [List.length_set, restore_len r]
theorem get_restore {old : Env} {i : Nat} : ∀ {l : List Nat} {e : Env}, get (restore old l e) i = if i ∈ l ∧ i < e.length then get old i else get e i
  | [], e => by simp [restore]
  | j :: r, e => by
    have hl : (restore old r e).length = e.length := restore_len r
    unfold restore
    rw [get_set, hl, get_restore]
    by_cases h : i = j
    · subst h
      by_cases hi : i < e.length
      · simp [hi]
      · simp [hi]
    · simp [h]
theorem Post.restore {σw : L2.St} {e' : Env} {own : List Nat} (r : Rel K F H σ e) (hs : ∀ i, i ∉ own → σw[i]? = σ[i]?) (p : Post K F H σw (killAll own e) F1 H1 σw e') : Post K F H σ e F1 H1 σ (Sw.restore e own e') := by
  have kown : ∀ a, Own σw (killAll own e) a → Own σ e a := fun a ⟨i, h1, h2⟩ => by
    obtain ⟨o1, n1⟩ := kill_own h1
    rw [hs i n1] at h2
    exact ⟨i, o1, h2⟩
  have side : ∀ i, isOwn (get (Sw.restore e own e') i) = true → (i ∈ own ∧ isOwn (get e i) = true) ∨ (i ∉ own ∧ isOwn (get e' i) = true) := fun i h => by
    rw [get_restore] at h
    split at h
    · rename_i z; exact .inl ⟨z.1, h⟩
    · rename_i z
      by_cases hi : i ∈ own
      · rw [get_ge (by have : ¬ i < e'.length := fun q => z ⟨hi, q⟩; omega)] at h; cases h
      · exact .inr ⟨hi, h⟩
  -- an address that one's own slot holds is not held by another
  have mixed : ∀ i j a, i ∈ own → isOwn (get e i) = true → j ∉ own → isOwn (get e' j) = true → σ[i]? = some (some (.ref a)) → σ[j]? = some (some (.ref a)) → False := fun i j a h1 h2 h3 h4 h5 h6 => by
    rw [← hs j h3] at h6
    obtain ⟨_, o, ho⟩ := r.own ⟨i, h2, h5⟩
    rcases p.own a ⟨j, h4, h6⟩ with ⟨l, g1, g2⟩ | z
    · obtain ⟨o1, n1⟩ := kill_own g1
      rw [hs l n1] at g2
      have := r.sep i l a h2 o1 h5 g2
      subst this
      exact n1 h1
    · rw [ho] at z; cases z
  refine ⟨p.grow, ⟨p.rel.sub, fun i => ?_, fun i j a h1 h2 h3 h4 => ?_⟩, fun a o h n => p.keep a o h fun z => n (kown a z), fun a h => ?_, p.dom, fun a ⟨i, h1, h2⟩ => ?_⟩
  · rw [get_restore]
    split
    · rename_i z
      have q := r.slot i
      have up := p.grow
      have nown : ∀ a, isOwn (get e i) = true → σ[i]? = some (some (.ref a)) → ¬ Own σw (killAll own e) a := fun a h1 h2 ⟨l, g1, g2⟩ => by
        obtain ⟨o1, n1⟩ := kill_own g1
        rw [hs l n1] at g2
        have := r.sep i l a h1 o1 h2 g2
        subst this
        exact n1 z.1
      revert q nown
      cases get e i with
      | u => exact fun q _ => trivial
      | d x => rintro ⟨v, h1, h2⟩ _; exact ⟨v, h1, up.rp _ _ h2⟩
      | k x => exact fun q _ => q
      | c xs =>
        rintro ⟨a, vs, h1, h2, h3, h4⟩ nown
        have n := nown a rfl h1
        refine ⟨a, vs, h1, p.keep a _ h2 n, ?_, up.rpAll _ _ h4⟩
        cases q : F1 a with
        | none => rfl
        | some u =>
          rcases p.new a (by rw [q]; simp) with z | z | z
          · exact absurd h3 z
          · rw [h2] at z; cases z
          · exact absurd z n
    · rename_i z
      by_cases hi : i ∈ own
      · rw [get_ge (by have : ¬ i < e'.length := fun q => z ⟨hi, q⟩; omega)]; trivial
      · rw [← hs i hi]; exact p.rel.slot i
  · rcases side i h1 with ⟨m1, o1⟩ | ⟨m1, o1⟩
    · rcases side j h2 with ⟨m2, o2⟩ | ⟨m2, o2⟩
      · exact r.sep i j a o1 o2 h3 h4
      · exact (mixed i j a m1 o1 m2 o2 h3 h4).elim
    · rcases side j h2 with ⟨m2, o2⟩ | ⟨m2, o2⟩
      · exact (mixed j i a m2 o2 m1 o1 h4 h3).elim
      · rw [← hs i m1] at h3
        rw [← hs j m2] at h4
        exact p.rel.sep i j a o1 o2 h3 h4
  · rcases p.new a h with z | z | z
    · exact .inl z
    · exact .inr (.inl z)
    · exact .inr (.inr (kown a z))
  · rcases side i h1 with ⟨m1, o1⟩ | ⟨m1, o1⟩
    · exact .inl ⟨i, o1, h2⟩
    · rw [← hs i m1] at h2
      rcases p.own a ⟨i, o1, h2⟩ with z | z
      · exact .inl (kown a z)
      · exact .inr z
end
theorem wipe_get {σ : L2.St} {j : Nat} : ∀ {l : List Nat}, (wipe σ l)[j]? = if j ∈ l ∧ j < σ.length then some none else σ[j]?
  | [] => by simp [wipe]
  | i :: r => by
    unfold wipe
    by_cases h : i = j
    · subst h
      by_cases hi : i < σ.length
      · rw [List.getElem?_set_self (by rw [wipe_length]; exact hi)]; simp [hi]
      · rw [List.getElem?_eq_none (by rw [List.length_set, wipe_length]; omega), if_neg (fun z => hi z.2), List.getElem?_eq_none (by omega)]
    · rw [List.getElem?_set_ne h, wipe_get]
      have : ¬ j = i := fun z => h z.symm
      simp [this]
theorem wipe_out {σ : L2.St} {l : List Nat} {j : Nat} (h : j ∉ l) : (wipe σ l)[j]? = σ[j]? := by rw [wipe_get, if_neg (fun z => h z.1)]
theorem wipe_same {σ σ2 : L2.St} {l : List Nat} (h : ∀ j, j ∉ l → σ2[j]? = (wipe σ l)[j]?) (hl : σ2.length = (wipe σ l).length) : wipe σ2 l = wipe σ l := by
  apply List.ext_getElem?
  intro j
  rw [wipe_length] at hl
  by_cases z : j ∈ l
  · rw [wipe_get, wipe_get, hl]
    by_cases q : j < σ.length
    · rw [if_pos ⟨z, q⟩, if_pos ⟨z, q⟩]
    · rw [if_neg (fun w => q w.2), if_neg (fun w => q w.2), List.getElem?_eq_none (by omega), List.getElem?_eq_none (by omega)]
  · rw [wipe_out z, h j z]

/-! ### the context of a block -/
theorem relS_lookup {scope sc : Scope} {x : Str} : (relS scope sc).names.lookup x = (scope.names.lookup x).map fun k => if (k == .free && sc.kind == .function && sc.names.lookup x == some .cell) then .cell else k := by
  have hf : (relS scope sc).names = scope.names.map fun y => (y.1, if (y.2 == .free && sc.kind == .function && sc.names.lookup y.1 == some .cell) then NameKind.cell else y.2) := by
    unfold relS
    refine List.map_congr_left fun y _ => ?_
    obtain ⟨n, k⟩ := y
    dsimp only
    split <;> rfl
  rw [hf]
  induction scope.names with
  | nil => rfl
  | cons y r ih =>
    obtain ⟨n, k⟩ := y
    rw [List.map_cons, List.lookup_cons, List.lookup_cons]
    by_cases h : x == n
    · have e : x = n := eq_of_beq h
      subst e
      simp only [h]
      rfl
    · have h' : (x == n) = false := by simpa using h
      simp only [h']
      exact ih
theorem Good.blk {N : List Str} {sc : Scope} {CX : CXT} {φ : Orc} {X : Cx} (G : Good N sc CX X φ) (s : Shared) (H : Hp) (scope : Scope) (C : Addr) (cl : List (Str × Addr)) (fp : List Addr) :
    Good N (relS scope sc) CX (X.blk s H scope (compEnvC scope cl C X.env) fp) φ := by
  refine ⟨G.hN, G.nd, ?_, G.calm, G.guards, G.units, G.blt, G.cx, G.con, G.fn⟩
  rw [← G.hsc]; rfl
/-- where targets are stored -/
structure GoodT (N : List Str) (L : Str → Bool) (X : Cx) : Prop where
  hN : X.N = N
  nd : N.Nodup
  calm : X.calm = true
  loc : ∀ x, L x = true → Loc X.env.scope x ∧ (X.fn x = true ∨ X.env.scope.names.lookup x = some .local)
section
variable {N : List Str} {sc : Scope} {CX : CXT} {φ : Orc} {ex ey ez big tg iter elt : Expr} {exs : List Expr} {pl : Bool}
theorem GoodS.tgt {X : Cx} (G : GoodS N sc CX X φ) : GoodT N (isLoc sc) X := ⟨G.hN, G.nd, G.calm, fun x h => G.loc h⟩
theorem Good.tgtB {X : Cx} (G : Good N sc CX X φ) (s : Shared) (H : Hp) (scope : Scope) (C : Addr) (cl : List (Str × Addr)) (fp : List Addr) : GoodT N (isLoc scope) (X.blk s H scope (compEnvC scope cl C X.env) fp) := by
  refine ⟨G.hN, G.nd, G.calm, fun x h => ?_⟩
  have e : (X.blk s H scope (compEnvC scope cl C X.env) fp).env.scope = relS scope X.env.scope := rfl
  rw [e]
  rcases isLoc_of h with z | z
  · have q : (relS scope X.env.scope).names.lookup x = some .local := by rw [relS_lookup, z]; rfl
    exact ⟨.inl q, .inr q⟩
  · have q : (relS scope X.env.scope).names.lookup x = some .cell := by rw [relS_lookup, z]; rfl
    refine ⟨.inr q, .inl ?_⟩
    show (scope.names.lookup x == some .cell) = true
    rw [z]; rfl
/-! ### the tests of a clause -/
def RTs (X : Cx) (ifs : List Expr) : TT := fun σ H Q => ∀ pins s, Inv X pins σ H s →
  wpAny (model X.prog X.w) X.A (forIn ifs true fun c r => if r = true then do let ok ← isTrue c X.env (eval c X.env); pure (ForInStep.yield ok) else pure (ForInStep.yield r)) (TP X pins σ Q) X.xe s
def SCo (N : List Str) (sc : Scope) (CX : CXT) (ifs : List Expr) (φ : Orc) (r : Env → R (Bool × Env)) : Prop :=
  ∀ X, Good N sc CX X φ → ∀ e w e', r e = .ok (w, e') → ∀ F H σ (Q : Bool → Hp → Prop), Rel X.K F H σ e →
    (∀ F' H', Post X.K F H σ e F' H' σ e' → Q w H') → RTs X ifs σ H Q
theorem sco_no : SCo N sc CX [] φ (evalC φ .no) := by
  intro X G e w e' hr F H σ Q rel k
  simp only [evalC] at hr
  cases hr
  exact fun pins s I => pts_nil.run pins s σ H Q I (k F H (Post.refl rel))
theorem sco_yes {t : Te} (h : ST N sc CX ex φ (evalT φ t)) : SCo N sc CX [ex] φ (evalC φ (.yes t)) := by
  intro X G e w e' hr F H σ Q rel k
  simp only [evalC] at hr
  exact fun pins s I => (pts_one (ptT ex)).run pins s σ H Q I (h X G e w e' hr F H σ Q rel k)

abbrev BX (X : Cx) (scope : Scope) (s0 : Shared) (H0 : Hp) (C : Addr) (cl : List (Str × Addr)) (fp : List Addr) : Cx := X.blk s0 H0 scope (compEnvC scope cl C X.env) fp
def gB (X : Cx) (scope : Scope) (tg : Expr) : TG := fun v σ H Q => ∀ s0 H0 C cl fp, RG (BX X scope s0 H0 C cl fp) tg v σ H Q
def tB' (X : Cx) (scope : Scope) (ifs : List Expr) : TT := fun σ H Q => ∀ s0 H0 C cl fp, RTs (BX X scope s0 H0 C cl fp) ifs σ H Q
def eB (X : Cx) (scope : Scope) (elt : Expr) : TE := fun σ H Q => ∀ s0 H0 C cl fp, RE (BX X scope s0 H0 C cl fp) elt σ H Q
theorem lc_run {X : Cx} (G : Good N sc CX X φ) {scope : Scope} {ownS : List (Str × Nat)} {t : T} {s : Src} {cond : Co} {a : E} {ifs : List Expr} {wi : TI}
    (src : ∀ e xs e', evalSrc φ s e = .ok (xs, e') → ∀ F H σ (R : It → Hp → Prop), Rel X.K F H σ e → (∀ J F' H', Post X.K F H σ e F' H' σ e' → Walk J xs.length (fun H1 => Sub F' H1) (YD X.K F' pl xs) → R J H') → wi σ H R)
    (htg : ∀ X', GoodT N (isLoc scope) X' → TgOk X' tg t) (hpl : pl = true ∨ isP t = true) (hin : ∀ j ∈ slotsT t, j ∈ ownS.map (·.2)) (hc : SCo N (relS scope sc) CX ifs φ (evalC φ cond)) (he : SD N (relS scope sc) CX elt φ (daW (evalE φ a)))
    {e : Env} {w : V} {e' : Env} (hr : evalE φ (.comp (ownS.map (·.2)) t s cond a) e = .ok (w, e')) {F H : Hp} {σ : L2.St} {Q : VK} (rel : Rel X.K F H σ e)
    (k : ∀ v F' H', Post X.K F H σ e F' H' σ e' → ResR X.K F' H' σ e' w v → From H σ e w v → Q v H') : tLc wi (gB X scope tg) (tB' X scope ifs) (eB X scope elt) (ownS.map (·.2)) σ H Q := by
  generalize hown : ownS.map (·.2) = own at hr hin ⊢
  rw [evalE_comp] at hr
  obtain ⟨⟨xs, e1⟩, r1, r2⟩ := bind_inv hr
  dsimp only at r2
  split at r2
  case isTrue => cases r2
  rename_i hlim
  obtain ⟨⟨ys, e2⟩, r3, r4⟩ := bind_inv r2
  cases r4
  refine src e xs e1 r1 F H σ _ rel fun J F1 H1 p1 wk A hA => ?_
  have out : ∀ i, i ∉ own → (wipe σ own)[i]? = σ[i]? := fun i hi => wipe_out hi
  refine lc_it wk (fun i H' => ∃ e' F' vs acc rest, Post X.K F1 H1 (wipe σ own) (killAll own e1) F' (del H' A) (wipe σ own) e' ∧ H' A = some (.lst vs) ∧ RpAll X.K F' vs acc ∧ vs.length ≤ i ∧ compL (stepC φ t cond a) own (xs.drop i) e' = .ok (rest, e2) ∧ acc ++ rest = ys)
    ⟨killAll own e1, F1, [], [], ys, ?_, upd_same, .nil, Nat.le_refl _, r3, rfl⟩ (fun i H' _ ⟨e', F', vs, acc, rest, q1, _⟩ => fun b o hb => (del_some (q1.rel.sub b o (q1.grow b o hb))).2) (fun i x H' H'' hi ⟨e', F', vs, acc, rest, q1, q2, q3, q4, q5, q6⟩ y => ?_) fun H' ⟨e', F', vs, acc, rest, q1, q2, q3, q4, q5, q6⟩ => ?_
  · rw [del_upd, del_none hA]
    have z := Post.kill p1.rel own out
    exact Post.refl z.rel
  · -- one turn
    obtain ⟨d, hd, y⟩ := y
    have hdr : xs.drop i = d :: xs.drop (i + 1) := by
      rw [List.drop_eq_getElem_cons hi]
      rw [(List.getElem?_eq_some_iff.mp hd).2]
    rw [hdr] at q5
    simp only [compL] at q5
    obtain ⟨⟨od, e3⟩, f1, f2⟩ := bind_inv q5
    obtain ⟨⟨rest2, e4⟩, f3, f4⟩ := bind_inv f2
    cases f4
    unfold stepC at f1
    obtain ⟨ea, f5, f6⟩ := bind_inv f1
    obtain ⟨⟨b, eb⟩, f7, f8⟩ := bind_inv f6
    have f5 := ofO_inv f5
    have rel' := q1.rel.undel
    have sub1 : Sub F1 F' := q1.grow
    have item : ∃ Z : Post X.K F' H' (wipe σ own) e' F' H'' (wipe σ own) e', Rp X.K F' x d ∨ (isP t = true ∧ IR X.K F' H'' x d) := by
      cases pl with
      | true =>
        obtain ⟨rfl, r⟩ := y
        exact ⟨Post.refl rel', .inl (sub1.rp _ _ r)⟩
      | false =>
        obtain ⟨T, us, ds, rfl, hT, rfl, rfl, r⟩ := y
        have hp : isP t = true := by
          rcases hpl with z | z
          · cases z
          · exact z
        exact ⟨Post.fresh rel' hT _, .inr ⟨hp, .inr ⟨T, us, ds, rfl, rfl, .inl (.inl upd_same), sub1.rpAll _ _ r⟩⟩⟩
    obtain ⟨z, it⟩ := item
    intro s0 H0 C cl fp
    refine (htg _ (G.tgtB s0 H0 scope C cl fp)).rg z.rel it f5 fun σ2 s2 => ⟨?_, ?_⟩
    · exact wipe_same (fun j hj => s2.kept j fun q => hj (hin j q)) s2.len
    have back : ∀ i, i ∉ own → (wipe σ own)[i]? = σ2[i]? := fun j hj => (s2.kept j fun q => hj (hin j q)).symm
    -- from the turn's start to the tests
    have pa := z.trans s2.post
    intro s0 H0 C cl fp
    refine hc _ (G.blk s0 H0 scope C cl fp) ea b eb f7 F' H'' σ2 _ s2.post.rel fun F3 H3 p3 => ?_
    have pb := pa.trans p3
    have fin : ∀ {F5 H5 : Hp} {e5 : Env}, Post X.K F' H' (wipe σ own) e' F5 H5 σ2 e5 → H5 A = some (.lst vs) ∧ Post X.K F1 H1 (wipe σ own) (killAll own e1) F5 (del H5 A) (wipe σ own) (killAll own e5) := fun {F5 H5 e5} p5 => by
      obtain ⟨g1, g2⟩ := Post.del q1.rel q2 p5
      have g3 := Post.kill (σ' := wipe σ own) g2.rel own back
      exact ⟨g1, q1.trans (g2.trans g3)⟩
    cases b with
    | true =>
      simp only [if_true] at f8 ⊢
      obtain ⟨⟨dy, e5⟩, f9, f10⟩ := bind_inv f8
      cases f10
      intro s0 H0 C cl fp
      refine he _ (G.blk s0 H0 scope C cl fp) eb dy _ f9 F3 H3 σ2 _ p3.rel fun v F4 H4 p4 d4 => ?_
      obtain ⟨g1, g2⟩ := fin (pb.trans p4)
      refine ⟨vs, g1, ?_, ?_⟩
      · have : sizeLine = lim := lim_eq
        omega
      · refine ⟨_, F4, vs ++ [v], acc ++ [dy], rest2, by rw [del_upd]; exact g2, upd_same, rpAll_app ((pb.trans p4).grow.rpAll _ _ q3) (.cons d4 .nil), by rw [List.length_append, List.length_singleton]; omega, f3, ?_⟩
        rw [← q6]; simp
    | false =>
      simp only [Bool.false_eq_true, if_false] at f8 ⊢
      cases f8
      obtain ⟨g1, g2⟩ := fin pb
      refine ⟨_, F3, vs, acc, rest2, g2, g1, pb.grow.rpAll _ _ q3, by omega, f3, ?_⟩
      rw [← q6]; simp
  · -- the end
    rw [List.drop_length] at q5
    simp only [compL] at q5
    cases q5
    rw [List.append_nil] at q6
    subst q6
    have b1 := Post.restore p1.rel out q1
    have b2 := Post.fresh b1.rel (p := A) del_self (.lst vs)
    rw [upd_del q2] at b2
    have b3 := p1.trans (b1.trans b2)
    refine k _ F' H' b3 ⟨A, vs, rfl, q2, q1.rel.notDel.1, q3, b1.rel.notDel.2⟩ fun c hc => ?_
    cases hc
    exact .inl (p1.dom A hA)
theorem pgB {X : Cx} {scope : Scope} : ∀ (s : Shared) (H : Hp) (C : Addr) (cl : List (Str × Addr)) (fp : List Addr), PG (X.blk s H scope (compEnvC scope cl C X.env) fp) tg (gB X scope tg) := fun s H C cl fp => ⟨fun pins s' σ H' v u Q I r h => h s H C cl fp pins s' u I r⟩
theorem ptB {X : Cx} {scope : Scope} {ifs : List Expr} : ∀ (s : Shared) (H : Hp) (C : Addr) (cl : List (Str × Addr)) (fp : List Addr), PTs (X.blk s H scope (compEnvC scope cl C X.env) fp) ifs (tB' X scope ifs) := fun s H C cl fp => ⟨fun pins s' σ H' Q I h => h s H C cl fp pins s' I⟩
theorem peB {X : Cx} {scope : Scope} : ∀ (s : Shared) (H : Hp) (C : Addr) (cl : List (Str × Addr)) (fp : List Addr), PE (X.blk s H scope (compEnvC scope cl C X.env) fp) elt (eB X scope elt) := fun s H C cl fp => ⟨fun pins s' σ H' Q I h => h s H C cl fp pins s' I⟩
theorem se_comp {scope : Scope} {ownS : List (Str × Nat)} {t : T} {s : Src} {cond : Co} {a : E} {ifs : List Expr} {pos : Pos} (hs : Srcs N sc CX tg iter φ pl (evalSrc φ s)) (htg : ∀ X', GoodT N (isLoc scope) X' → TgOk X' tg t) (hpl : pl = true ∨ isP t = true) (hin : ∀ j ∈ slotsT t, j ∈ ownS.map (·.2))
    (hok : blkC N sc scope ownS = true) (hset : isSetE iter = false) (hc : SCo N (relS scope sc) CX ifs φ (evalC φ cond)) (he : SD N (relS scope sc) CX elt φ (daW (evalE φ a))) : SE N sc CX (.ListComp elt [⟨tg, iter, ifs, 0⟩] scope pos) φ (evalE φ (.comp (ownS.map (·.2)) t s cond a)) := by
  intro X G e w e' hr F H σ Q rel k
  obtain ⟨wi, hi, src⟩ := hs X G
  exact RE.of (pe_lc G.calm (by rw [G.hN]; exact G.nd) hi (by rw [G.hN, G.hsc]; exact blkOk_by hok) pgB ptB peB (noFold hset)) (lc_run G src htg hpl hin hc he hr rel k)
theorem ss_setLc {pr : Nat → Bool} {i : Nat} {y : Str} {py : Pos} {scope : Scope} {ownS : List (Str × Nat)} {t : T} {s : Src} {cond : Co} {a : E} {ifs : List Expr} {pos spos : Pos} (hi : N[i]? = some y) (hl : sc.names.lookup y = some .local) (hp : pr i = false) (hline : (py.line == pos.line) = true)
    (hna : (scope.names.any fun (n, k) => n == y && (k == .local || k == .cell)) = false)
    (hs : Srcs N sc CX tg iter φ pl (evalSrc φ s)) (htg : ∀ X', GoodT N (isLoc scope) X' → TgOk X' tg t) (hpl : pl = true ∨ isP t = true) (hin : ∀ j ∈ slotsT t, j ∈ ownS.map (·.2))
    (hok : blkC N sc scope ownS = true) (hset : isSetE iter = false) (hc : SCo N (relS scope sc) CX ifs φ (evalC φ cond)) (he : SD N (relS scope sc) CX elt φ (daW (evalE φ a))) :
    SS N sc CX pr (.Assign [.Name y py] (.ListComp elt [⟨tg, iter, ifs, 0⟩] scope pos) spos) φ (exec φ (.asg i (.comp (ownS.map (·.2)) t s cond a))) := by
  intro X G e F H σ Dn rel k
  simp only [exec] at k
  obtain ⟨⟨w, e1⟩, r1, k⟩ := ofR_ok' k
  obtain ⟨wi, hi', src⟩ := hs X G.toGood
  have hl' : X.env.scope.names.lookup y = some .local := by rw [G.hsc]; exact hl
  refine RS.know fun l => RS.of (ps_setLc G.calm (by rw [G.hN]; exact G.nd) (by rw [G.hN]; exact hi) hl' (sw_true (by rw [G.hsc]; exact G.kind) hl' hline hna) hi' (by rw [G.hN, G.hsc]; exact blkOk_by hok) pgB ptB peB (noFold hset)) (lc_run G.toGood src htg hpl hin hc he r1 rel fun v F1 H1 p1 d1 f1 => ?_)
  have hiσ : i < σ.length := by rw [l.len, G.hN]; exact (List.getElem?_eq_some_iff.mp hi).1
  exact k _ F1 H1 (Post.set p1 hiσ d1 f1) (kept_set hp)
end
end Sw
end T_SwN
section T_SwO
set_option autoImplicit false
set_option linter.all false
set_option Elab.async false
set_option maxRecDepth 100000
set_option maxHeartbeats 1000000
/-! SwO: list and tuple of a range. -/
namespace Sw
open PySem L2
section
variable {N : List Str} {sc : Scope} {CX : CXT} {φ : Orc} {ex ey ez big tg iter elt : Expr} {exs : List Expr} {pl : Bool}
/-- an expression that makes a range -/
def RRg (X : Cx) (e : Expr) : L2.St → Hp → (Int → Int → Int → Hp → Prop) → Prop := fun σ H Q => ∀ pins s, Inv X pins σ H s →
  wpAny (model X.prog X.w) X.A (eval e X.env) (fun x s' => ∃ r a b c t u v H', x = .ref r ∧ IsRange s'.heap r a b c t u v ∧ Inv X pins σ H' s' ∧ Q a b c H') X.xe s
def GRg (i j k : Int) (n : Nat) : Prop := Builtin.Range.small i j k = true ∧ Builtin.Range.rangeSize i j k = n ∧ n ≤ 2 ^ 24
theorem vals_rgC {a c : Int} {n : Nat} {acc : Array Value} (h : ItemsOf (fun i v => ∃ t, v = .int (a + i * c) t) acc n) : Vals ((List.range n).map fun (i : Nat) => L2.V.int (a + (i : Int) * c)) acc.toList := by
  have e : acc.toList.length = n := by rw [Array.length_toList]; exact h.1
  rw [← e]
  refine vals_of_get acc.toList _ fun j u hj => ?_
  obtain ⟨t, rfl⟩ := h.2 j u (by rw [← hj, Array.getElem?_toList])
  exact ⟨t, rfl⟩
theorem pe_lstRg {X : Cx} {p pos : Pos} (hc : X.calm = true) (hg : Gl X (Str.ofString "list")) (hm : X.mg (Str.ofString "list") = none) (na : noStar ex = true) : PE X (.Call (.Name (Str.ofString "list") p) [ex] [] pos) fun σ H Q => RRg X ex σ H fun a b c H1 => ∃ n, GRg a b c n ∧
    ∀ q, H1 q = none → Q (.ref q) (upd H1 q (.lst ((List.range n).map fun (i : Nat) => L2.V.int (a + (i : Int) * c)))) := by
  refine ⟨fun pins s σ H Q I h => ?_⟩
  refine PyProof.Rows.Call_ (ld_blt I hg hm PySem.Pv.boot_list (PyProof.Rows.callWith_type1 (PyProof.Rows.args_cons (thn (h pins s I) fun x s1 ⟨r, a, b, c, t, u, v, H1, ex, hr, I1, n, g, q⟩ => PyProof.Rows.args_nil ?_) (star_of na)) (star_of na)))
  subst ex
  obtain ⟨g1, g2, g3⟩ := g
  refine call_list_range (n := n) (I1.ok.hd hc) hr g1 g2 g3 fun h' tk acc c' hk e' hi => ?_
  have rv := vals_rgC hi
  refine ⟨.ref s1.heap.objs.size, _, I1.laid hk (Nat.le_refl _) (show ObjOk X.prog X.w _ _ _ (.lst _) from ⟨?_, acc.toList, c', rv, ?_⟩), rfl, q _ (I1.hok.fresh (Nat.le_refl _))⟩
  · rw [List.length_map, List.length_range, sizeLine_eq]; omega
  · rw [Array.toArray_toList]; exact e'
theorem pe_tupRgF {X : Cx} {p pos : Pos} (hc : X.calm = true) (hg : Gl X (Str.ofString "tuple")) (hm : X.mg (Str.ofString "tuple") = none) (na : noStar ex = true) : PE X (.Call (.Name (Str.ofString "tuple") p) [ex] [] pos) fun σ H Q => RRg X ex σ H fun a b c H1 => ∃ n, GRg a b c n ∧
    ∀ q o, H1 q = none → o.dict = none → Q (.ref q) (upd H1 q (.frz o (.tup ((List.range n).map fun (i : Nat) => L2.V.int (a + (i : Int) * c))))) := by
  refine ⟨fun pins s σ H Q I h => ?_⟩
  refine PyProof.Rows.Call_ (ld_blt I hg hm PySem.Pv.boot_tuple (PyProof.Rows.callWith_type1 (PyProof.Rows.args_cons (thn (h pins s I) fun x s1 ⟨r, a, b, c, t, u, v, H1, ex, hr, I1, n, g, q⟩ => PyProof.Rows.args_nil ?_) (star_of na)) (star_of na)))
  subst ex
  obtain ⟨g1, g2, g3⟩ := g
  refine call_tuple_range (n := n) (I1.ok.hd hc) hr g1 g2 g3 fun h' tk acc hk hi => ?_
  have rv := vals_rgC hi
  have I2 : Inv X pins σ H1 { s1 with heap := h', toks := tk } := I1.kept hk
  have get := Heap.get?_push_size h' (o := { cls := .type "tuple", data := .seq acc }) rfl
  refine ⟨.ref h'.objs.size, _, I2.laid (o := .frz { cls := .type "tuple", data := .seq acc } (.tup ((List.range n).map fun (i : Nat) => L2.V.int (a + (i : Int) * c)))) (t' := tk) (fun c o e => Heap.get?_push_of_some _ e) (Nat.le_refl _) (show ObjOk X.prog X.w _ _ _ (.frz _ _) from ⟨get, ?_, acc.toList, rv, ?_⟩), rfl, q _ { cls := .type "tuple", data := .seq acc } (I2.hok.fresh (Nat.le_refl _)) rfl⟩
  · rw [List.length_map, List.length_range, sizeLine_eq]; omega
  · rw [Array.toArray_toList]; exact ⟨_, get, rfl, _, rfl⟩
theorem rg_rp {K : Frag} {F : Hp} {a c : Int} {n : Nat} : RpAll K F ((List.range n).map fun (i : Nat) => L2.V.int (a + (i : Int) * c)) (rangeD a n c) := by
  refine rpAll_of (by simp [rangeD]) fun i v d h1 h2 => ?_
  by_cases hi : i < n
  · rw [rangeD_get hi] at h2
    rw [List.getElem?_map, List.getElem?_range hi] at h1
    cases h1
    cases h2
    exact .int _
  · rw [List.getElem?_eq_none (by simp; omega)] at h1
    cases h1
/-- what makes a range, of the core's range -/
def RgS (N : List Str) (sc : Scope) (CX : CXT) (ex : Expr) (φ : Orc) (r : Env → R (List D × Env)) : Prop :=
  ∀ X, Good N sc CX X φ → ∀ e xs e', r e = .ok (xs, e') → ∀ F H σ (Q : Int → Int → Int → Hp → Prop), Rel X.K F H σ e →
    (∀ a b c n F' H', Post X.K F H σ e F' H' σ e' → GRg a b c n → xs = rangeD a n c → Q a b c H') → RRg X ex σ H Q
theorem grg2 {i j : Int} (h : -(2 ^ 62) ≤ i ∧ i < 2 ^ 62 ∧ -(2 ^ 62) ≤ j ∧ j < 2 ^ 62) (hl : (j - i).toNat ≤ lim) : GRg i j 1 (j - i).toNat := ⟨small_one h.1 h.2.1 h.2.2.1 h.2.2.2, PyProof.Rows.rangeSize_nat i j, hl⟩
theorem rgs1 {a : E} {p pos : Pos} (hg : GlS sc (Str.ofString "range")) (hs : noStar ex = true) (h : SD N sc CX ex φ (daW (evalE φ a))) : RgS N sc CX (.Call (.Name (Str.ofString "range") p) [ex] [] pos) φ (evalSrc φ (.rng1 a)) := by
  intro X G e xs e' hr F H σ Q rel k
  simp only [evalSrc] at hr
  obtain ⟨⟨d, e1⟩, r1, r2⟩ := bind_inv hr
  obtain ⟨ys, r3, r4⟩ := bind_inv r2
  cases r4
  obtain ⟨i, j, hi, rfl, hb, hl, rfl⟩ := range2_inv (ofO_inv r3)
  cases hi
  have z := prg_1 (pos := pos) (p := p) (G.gl hg) (G.blt "range" (by decide)) (peE ex) (star_of hs)
  intro pins s I
  refine thn (z pins s σ H (fun a b H' => Q a b 1 H') I ?_) fun x s' ⟨r, a, b, t, u, v, H', h1, h2, h3, h4⟩ => ⟨r, a, b, 1, t, u, v, H', h1, h2, h3, h4⟩
  refine h X G e _ _ r1 F H σ _ rel fun v F1 H1 p1 d1 => ?_
  cases d1
  exact ⟨j, rfl, k 0 j 1 _ F1 H1 p1 (grg2 hb hl) rfl⟩
theorem rgs2 {a b : E} {p pos : Pos} (hg : GlS sc (Str.ofString "range")) (hs : noStar ex = true) (hs2 : noStar ey = true) (h : SD N sc CX ex φ (daW (evalE φ a))) (h2 : SD N sc CX ey φ (daW (evalE φ b))) : RgS N sc CX (.Call (.Name (Str.ofString "range") p) [ex, ey] [] pos) φ (evalSrc φ (.rng2 a b)) := by
  intro X G e xs e' hr F H σ Q rel k
  simp only [evalSrc] at hr
  obtain ⟨⟨d, e1⟩, r1, r2⟩ := bind_inv hr
  obtain ⟨⟨d', e2⟩, r1', r2⟩ := bind_inv r2
  obtain ⟨ys, r3, r4⟩ := bind_inv r2
  cases r4
  obtain ⟨i, j, rfl, rfl, hb, hl, rfl⟩ := range2_inv (ofO_inv r3)
  have z := prg_2 (pos := pos) (p := p) (G.gl hg) (G.blt "range" (by decide)) (peE ex) (peE ey) (star_of hs) (star_of hs2) (plain_of (es := [ey]) (by simp [noStars, hs2]))
  intro pins s I
  refine thn (z pins s σ H (fun a b H' => Q a b 1 H') I ?_) fun x s' ⟨r, a, b, t, u, v, H', h1, h2, h3, h4⟩ => ⟨r, a, b, 1, t, u, v, H', h1, h2, h3, h4⟩
  refine h X G e _ _ r1 F H σ _ rel fun v F1 H1 p1 d1 => ?_
  refine h2 X G e1 _ _ r1' F1 H1 σ _ p1.rel fun v' F2 H2 p2 d2 => ?_
  cases d1
  cases d2
  exact ⟨i, j, rfl, rfl, k i j 1 _ F2 H2 (p1.trans p2) (grg2 hb hl) rfl⟩
theorem rgs3 {a b c : E} {p pos : Pos} (hg : GlS sc (Str.ofString "range")) (hs : noStar ex = true) (hs2 : noStar ey = true) (hs3 : noStar ez = true) (h : SD N sc CX ex φ (daW (evalE φ a))) (h2 : SD N sc CX ey φ (daW (evalE φ b))) (h3 : SD N sc CX ez φ (daW (evalE φ c))) :
    RgS N sc CX (.Call (.Name (Str.ofString "range") p) [ex, ey, ez] [] pos) φ (evalSrc φ (.rng3 a b c)) := by
  intro X G e xs e' hr F H σ Q rel k
  simp only [evalSrc] at hr
  obtain ⟨⟨d, e1⟩, r1, r2⟩ := bind_inv hr
  obtain ⟨⟨d', e2⟩, r1', r2⟩ := bind_inv r2
  obtain ⟨⟨d'', e3⟩, r1'', r2⟩ := bind_inv r2
  obtain ⟨ys, r3, r4⟩ := bind_inv r2
  cases r4
  obtain ⟨i, j, q, n, rfl, rfl, rfl, hb, hl, rfl⟩ := range3_inv (ofO_inv r3)
  intro pins s I
  have ha := pa_cons (peE ex) (pa_cons (peE ey) (pa_cons (peE ez) (pa_nil (X := X)) (star_of hs3)) (star_of hs2)) (star_of hs)
  refine PyProof.Rows.Call_ (ld_blt I (G.gl hg) (G.blt "range" (by decide)) PyProof.Rows.boot_range (PyProof.Rows.callWith_type1 (thn (ha.run pos pins s σ H (fun vs H1 => vs = [.int i, .int j, .int q] ∧ Q i j q H1) I ?_) fun us s1 ⟨vs, H1, I1, rv, ev, hq⟩ => ?_) (star_of hs) (plain_of (es := [ey, ez]) (by simp [noStars, hs2, hs3]))))
  · refine h X G e _ _ r1 F H σ _ rel fun v F1 H1 p1 d1 => ?_
    refine h2 X G e1 _ _ r1' F1 H1 σ _ p1.rel fun v' F2 H2 p2 d2 => ?_
    refine h3 X G e2 _ _ r1'' F2 H2 σ _ p2.rel fun v'' F3 H3 p3 d3 => ?_
    cases d1
    cases d2
    cases d3
    exact ⟨rfl, k i j q n F3 H3 (p1.trans (p2.trans p3)) ⟨hb.2.2.1, hb.2.2.2, hl⟩ rfl⟩
  · subst ev
    cases rv with
    | cons u1 rv =>
      cases rv with
      | cons u2 rv =>
        cases rv with
        | cons u3 rv =>
          cases rv
          obtain ⟨t, rfl⟩ := u1
          obtain ⟨t', rfl⟩ := u2
          obtain ⟨t'', rfl⟩ := u3
          exact call_range_3 hb.1 ⟨_, i, j, q, _, _, _, H1, rfl, IsRange.new .., I1.kept (t' := s1.toks) fun b o e => Heap.get?_push_of_some _ e, hq⟩ (.inl (PyProof.noPylong_small hb.2.1))
theorem se_ofRg {s : Src} {tup : Bool} {p pos : Pos} (hg : GlS sc (Str.ofString (if tup then "tuple" else "list"))) (hs : noStar ex = true) (h : RgS N sc CX ex φ (evalSrc φ s)) : SE N sc CX (.Call (.Name (Str.ofString (if tup then "tuple" else "list")) p) [ex] [] pos) φ (evalE φ (.ofSrc tup s)) := by
  intro X G e w e' hr F H σ Q rel k
  simp only [evalE] at hr
  obtain ⟨⟨xs, e1⟩, r1, r2⟩ := bind_inv hr
  cases tup with
  | true =>
    simp only [if_true] at r2 hg ⊢
    cases r2
    refine RE.of (pe_tupRgF G.calm (G.gl hg) (G.blt "tuple" (by decide)) hs) (h X G e xs _ r1 F H σ _ rel fun a b c n F1 H1 p1 g ex => ⟨n, g, fun q o hq ho => ?_⟩)
    subst ex
    obtain ⟨z1, z2⟩ := data_res p1 hq ho rg_rp
    exact k _ _ _ z1 z2 trivial
  | false =>
    simp only [Bool.false_eq_true, if_false] at r2 hg ⊢
    cases r2
    refine RE.of (pe_lstRg G.calm (G.gl hg) (G.blt "list" (by decide)) hs) (h X G e xs _ r1 F H σ _ rel fun a b c n F1 H1 p1 g ex => ⟨n, g, fun q hq => ?_⟩)
    subst ex
    obtain ⟨z1, z2, z3⟩ := fresh_res p1 hq rg_rp
    exact k _ _ _ z1 z2 z3
end
end Sw
end T_SwO
section T_SwFb
set_option autoImplicit false
set_option linter.all false
set_option Elab.async false
set_option maxRecDepth 100000
/-! SwFb: more operators of one operand: isinstance. -/
namespace Sw
open PySem L2
section
variable {N : List Str} {sc : Scope} {CX : CXT} {φ : Orc} {ex big : Expr} {K : Frag} {F H : Hp}
def tyN : D → String
  | .none => "NoneType"
  | .bool _ => "bool"
  | .int _ => "int"
  | .str _ => "str"
  | .list _ => "list"
  | .tuple _ => "tuple"
  | .dict _ => "dict"
theorem ty_of {v : L2.V} {x : D} (s : Sub F H) (h : VwR K F H v x) : TyX K H v (.type (tyN x)) := by
  cases x with
  | none => cases h.rp s; exact .base .non
  | bool b => cases h.rp s; exact .base (.bl b)
  | int i => cases h.rp s; exact .base (.int i)
  | str x => cases h.rp s; exact .base (.str x)
  | list xs =>
    obtain ⟨a, vs, rfl, h1, h2⟩ := h.list s
    rcases h1 with h1 | ⟨o, its, n, k1, k2, _⟩
    · rcases h1 with h1 | ⟨o, h1⟩
      · exact .base (.lst h1)
      · exact .base (.frz h1)
    · exact .kList k1 k2
  | tuple xs =>
    obtain ⟨a, vs, rfl, h1, h2⟩ := h.tup s
    rcases h1 with ⟨o, h1, _⟩ | ⟨o, its, n, k1, k2, _⟩
    · exact .fTuple (s _ _ h1)
    · exact .kTuple k1 k2
  | dict kvs => cases h.rp s
def isiS (t n : String) : Bool := match n with
  | "NoneType" => t == "NoneType"
  | "bool" => t == "bool" || t == "int"
  | n => t == n
theorem kit_all : ∀ t ∈ ["bool", "int", "str", "tuple"], ∀ n ∈ ["NoneType", "bool", "int", "str", "list", "tuple"], kitB n t = some (isiS t n) := by decide +kernel
theorem a1_isi {t : String} {p p2 pos : Pos} (hg : GlS sc (Str.ofString "isinstance")) (ht : isiOk t = true) (hg2 : GlS sc (Str.ofString t)) (hs : noStar ex = true) : A1 N sc CX φ (.isi t) ex (.Call (.Name (Str.ofString "isinstance") p) [ex, .Name (Str.ofString t) p2] [] pos) := by
  have tt : t = "bool" ∨ t = "int" ∨ t = "str" ∨ t = "tuple" := by
    simp only [isiOk, Bool.or_eq_true, beq_iff_eq] at ht
    rcases ht with ((h | h) | h) | h
    · exact .inl h
    · exact .inr (.inl h)
    · exact .inr (.inr (.inl h))
    · exact .inr (.inr (.inr h))
  have hb : t ∈ blts := by rcases tt with rfl | rfl | rfl | rfl <;> decide
  have hv : bootBuiltins (Str.ofString t) = some (.type t) := by rcases tt with rfl | rfl | rfl | rfl <;> rfl
  have hn1 : Str.ofString t ≠ Str.ofString "__name__" ∧ (Str.ofString t == Str.ofString "__debug__") = false := by rcases tt with rfl | rfl | rfl | rfl <;> decide
  have hm : ∀ x : D, (∀ kvs, x ≠ .dict kvs) → kitB (tyN x) t = some (isiD t x) := by
    intro x hx
    have e : tyN x ∈ ["NoneType", "bool", "int", "str", "list", "tuple"] := by cases x <;> first | (exact absurd rfl (hx _)) | simp [tyN]
    have e2 : isiD t x = isiS t (tyN x) := by cases x <;> first | (exact absurd rfl (hx _)) | rfl
    rw [e2]
    exact kit_all t (by rcases tt with rfl | rfl | rfl | rfl <;> decide) _ e
  refine A1.mk (r := fun X v H Q => rIsi X.K [v, .ty t] H Q) (fun X G => pe_callB call_isi (G.gl hg) (G.blt "isinstance" (by decide)) (by rfl) (pa_cons (peE ex) (pa_cons (pe_bltn (G.gl hg2) (G.blt t hb) hv (v := .ty t) rfl hn1.1 hn1.2) pa_nil rfl) (star_of hs)) (by decide) (by decide) (star_of hs) rfl) fun X G σ H F e Q x w v hw l rel vw k => ?_
  simp only [op1, ht, if_true] at hw
  cases hw
  refine ⟨v, .ty t, .type (tyN x), .type t, isiD t x, rfl, .ty t, ty_of rel.sub vw, kit_ty (hm x ?_), k.bl rel⟩
  rintro kvs rfl
  cases vw.rp rel.sub

/-! ### sorted: of a list or a tuple, of ints or of pairs of ints -/
theorem insI_perm (x : Int) : ∀ l : List Int, (insI x l).Perm (x :: l)
  | [] => .refl _
  | y :: r => by
    unfold insI
    split
    · exact ((insI_perm x r).cons y).trans (List.Perm.swap ..)
    · exact .refl _
theorem sortI_perm : ∀ l : List Int, (sortI l).Perm l
  | [] => .refl _
  | x :: r => (insI_perm x _).trans ((sortI_perm r).cons x)
theorem insI_ord (x : Int) : ∀ l : List Int, l.Pairwise (· ≤ ·) → (insI x l).Pairwise (· ≤ ·)
  | [], _ => by simp [insI]
  | y :: r, h => by
    obtain ⟨h1, h2⟩ := List.pairwise_cons.mp h
    unfold insI
    split
    · refine List.pairwise_cons.mpr ⟨fun z hz => ?_, insI_ord x r h2⟩
      rcases List.mem_cons.mp ((insI_perm x r).mem_iff.mp hz) with q | q
      · subst q; omega
      · exact h1 z q
    · refine List.pairwise_cons.mpr ⟨fun z hz => ?_, h⟩
      rcases List.mem_cons.mp hz with q | q
      · subst q; omega
      · have := h1 z q; omega
theorem sortI_ord : ∀ l : List Int, (sortI l).Pairwise (· ≤ ·)
  | [] => .nil
  | x :: r => insI_ord x _ (sortI_ord r)
theorem sortI_eq {l r : List Int} (h : r.Perm l) (o : r.Pairwise (· ≤ ·)) : r = sortI l :=
  List.Perm.eq_of_pairwise (le := (· ≤ ·)) (fun a b _ _ h1 h2 => by omega) o (sortI_ord l) (h.trans (sortI_perm l).symm)
theorem ltP_iff {p q : Int × Int} : ltP p q = true ↔ p.1 < q.1 ∨ (p.1 = q.1 ∧ p.2 < q.2) := by
  unfold ltP
  by_cases h : p.1 = q.1
  · rw [if_pos h, decide_eq_true_eq]; omega
  · rw [if_neg h, decide_eq_true_eq]; omega
def leP (p q : Int × Int) : Prop := ltP q p = false
theorem leP_iff {p q : Int × Int} : leP p q ↔ ¬ (q.1 < p.1 ∨ (q.1 = p.1 ∧ q.2 < p.2)) := by
  unfold leP
  rw [← ltP_iff, Bool.not_eq_true]
theorem insP_perm (x : Int × Int) : ∀ l, (insP x l).Perm (x :: l)
  | [] => .refl _
  | y :: r => by
    unfold insP
    split
    · exact ((insP_perm x r).cons y).trans (List.Perm.swap ..)
    · exact .refl _
theorem sortP_perm : ∀ l, (sortP l).Perm l
  | [] => .refl _
  | x :: r => (insP_perm x _).trans ((sortP_perm r).cons x)
theorem insP_ord (x : Int × Int) : ∀ l, l.Pairwise leP → (insP x l).Pairwise leP
  | [], _ => by simp [insP]
  | y :: r, h => by
    obtain ⟨h1, h2⟩ := List.pairwise_cons.mp h
    unfold insP
    split
    · rename_i hy
      have hy := ltP_iff.mp hy
      refine List.pairwise_cons.mpr ⟨fun z hz => ?_, insP_ord x r h2⟩
      rcases List.mem_cons.mp ((insP_perm x r).mem_iff.mp hz) with q | q
      · subst q; exact leP_iff.mpr (by omega)
      · exact h1 z q
    · rename_i hy
      have hy := leP_iff.mp (show leP x y by unfold leP; simpa using hy)
      refine List.pairwise_cons.mpr ⟨fun z hz => ?_, h⟩
      rcases List.mem_cons.mp hz with q | q
      · subst q; exact leP_iff.mpr hy
      · have := leP_iff.mp (h1 z q); exact leP_iff.mpr (by omega)
theorem sortP_ord : ∀ l, (sortP l).Pairwise leP
  | [] => .nil
  | x :: r => insP_ord x _ (sortP_ord r)
theorem sortP_eq {l r : List (Int × Int)} (h : r.Perm l) (o : r.Pairwise leP) : r = sortP l :=
  List.Perm.eq_of_pairwise (le := leP) (fun a b _ _ h1 h2 => by
    have := leP_iff.mp h1
    have := leP_iff.mp h2
    exact Prod.ext (by omega) (by omega)) o (sortP_ord l) (h.trans (sortP_perm l).symm)
end
section
open PyProof.Rows Srt
variable {prog : Program} {w : World} {A : Around} {E : Value → Shared → Prop} {s : Shared}
/-- the items of a list or a tuple are gathered -/
theorem gather_seq {l : Addr} {T : String} {ob : Obj} {vs : List Value} {ep : Nat} {Q : List Value → Shared → Prop} (hT : T = "list" ∨ T = "tuple") (ho : s.heap.get? l = some ob) (hc : ob.cls = .type T) (hd : ob.data = .seq vs.toArray ep) (hsz : vs.length ≤ sizeLine)
    (h : Q vs { s with heap := (s.heap.push (seqObj "list" #[] 0)).update s.heap.objs.size (Obj.mapSeq (· ++ vs.toArray)) }) : wpAny (model prog w) A (collect (.ref l)) Q E s := by
  have fresh : (s.heap.push (seqObj "list" #[] 0)).get? s.heap.objs.size = some (seqObj "list" #[] 0) := Heap.get?_push_size _ rfl
  have old : (s.heap.push (seqObj "list" #[] 0)).get? l = some ob := Heap.get?_push_of_some _ ho
  unfold collect
  refine wpAny_bind (wpAny_runValue (codeAny_builtin entry_proto_collect' ?_))
  refine (show wpAny _ _ (newList [] >>= fun z => again (.builtin "list.__iadd__" ⟨[z, .ref l], []⟩)) _ _ s from ?_)
  refine wpAny_bind (wpAny_newList (wpAny_pure ⟨Code.quiet_builtin _ (by decide +kernel), codeAny_builtin entry_list_iadd' ?_⟩))
  refine (show wpAny _ _ (Builtin.List.listExtendWith (.ref s.heap.objs.size) (.ref l) _) _ _ { s with heap := s.heap.push (seqObj "list" #[] 0) } from ?_)
  unfold Builtin.List.listExtendWith
  refine wpAny_bind (wpAny_typeOf (T := T) ⟨ob, old, hc⟩ ?_)
  rw [if_pos (by rcases hT with rfl | rfl <;> simp)]
  refine wpAny_bind (listItems_at old hd ?_)
  refine wpAny_bind (listItems_at (xs := #[]) (n := 0) fresh rfl ?_)
  rw [if_neg (by simp)]
  refine wpAny_bind (listUpdate_at (xs := #[]) (n := 0) fresh rfl ?_ (Nat.zero_le _) ?_)
  · refine wpAny_pure ?_
    refine (show wpAny (model prog w) A (load s.heap.objs.size >>= fun z => match z.data with | .seq zs _ => pure zs.toList | _ => unsupported "internal:collect") Q E { s with heap := (s.heap.push (seqObj "list" #[] 0)).update s.heap.objs.size (Obj.mapSeq (· ++ vs.toArray)) } from ?_)
    refine wpAny_bind (wpAny_load (get?_update_seq fresh _) ?_)
    refine (show wpAny _ _ (pure ((#[] : Array Value) ++ vs.toArray).toList) Q E _ from ?_)
    have e : ((#[] : Array Value) ++ vs.toArray).toList = vs := by simp
    rw [e]
    exact wpAny_pure h
  · refine Nat.le_trans (m := sizeLine) ?_ (Nat.le_succ _)
    simpa using hsz
/-- sorted of a list or a tuple under a strict weak order -/
theorem sorted_seq {l : Addr} {T : String} {ob : Obj} {vs : List Value} {ep : Nat} {lt : Value → Value → Bool} {Q : Value → Shared → Prop} (O : SrtO.Swo lt) (hT : T = "list" ∨ T = "tuple") (ho : s.heap.get? l = some ob) (hc : ob.cls = .type T) (hd : ob.data = .seq vs.toArray ep) (hsz : vs.length ≤ sizeLine)
    (ask : 2 ≤ vs.length → ∀ (g : Heap) (a : Addr), g.get? a = some (seqObj "list" vs.toArray 0) → (∀ b o, s.heap.get? b = some o → b ≠ a ∧ g.get? b = some o) → SrtO.SortableO prog w A.in1.in1 { s with heap := g } a vs lt)
    (h : ∀ out : List Value, SrtO.Srtd lt out → SrtO.Stb lt out vs → Q (.ref (s.heap.objs.size + 1)) { s with heap := sortedAll s.heap vs out.toArray }) : wpAny (model prog w) A (call (.builtin "sorted") [.ref l]) Q E s := by
  refine Calls.call_function_entry kind_sorted plain_sorted entry_sorted (args_sorted1 _) ?_
  unfold Builtin.«sorted»
  refine wpAny_bind (m := checkCount "sorted" 1 1 _) (wpAny_pure ?_)
  refine wpAny_bind (gather_seq hT ho hc hd hsz ?_)
  refine wpAny_bind (wpAny_newList ?_ hsz)
  generalize hg0 : (s.heap.push (seqObj "list" #[] 0)).update s.heap.objs.size (Obj.mapSeq (· ++ vs.toArray)) = g0
  have z0 : g0.objs.size = s.heap.objs.size + 1 := by rw [← hg0, Heap.size_update, size_push']
  have top : (g0.push (seqObj "list" vs.toArray 0)).get? (s.heap.objs.size + 1) = some (seqObj "list" vs.toArray 0) := by
    rw [← z0]; exact Heap.get?_push_size _ rfl
  have kept : ∀ b o, s.heap.get? b = some o → b ≠ s.heap.objs.size + 1 ∧ (g0.push (seqObj "list" vs.toArray 0)).get? b = some o := fun b o q => by
    have lt0 := Heap.lt_size q
    refine ⟨Nat.ne_of_lt (Nat.lt_succ_of_lt lt0), Heap.get?_push_of_some _ ?_⟩
    rw [← hg0, Heap.get?_update_ne _ _ _ _ (Nat.ne_of_lt lt0)]
    exact Heap.get?_push_of_some _ q
  refine (show wpAny _ _ _ _ _ { s with heap := g0.push (seqObj "list" vs.toArray 0) } from ?_)
  rw [z0]
  refine wpAny_bind (wpAny_holding (wpAny_call_entry slot_list_sort ⟨_, top, rfl⟩ entry_list_sort (SrtO.list_sort_ord O top hsz (fun h2 => ask h2 _ _ top kept) fun out hs hb => ⟨_, rfl, ?_⟩) (args_list_sort _)))
  refine wpAny_pure ⟨_, rfl, ?_⟩
  have := h out hs hb
  unfold sortedAll at this
  rw [hg0] at this
  exact this
end

/-! ### the rule -/
section
open PyProof.Rows Srt
/-- the two ints of the tuple at a value -/
def keyH (h : Heap) : Value → Int × Int
  | .ref a => match h.get? a with
    | some ob => (match ob.data with
      | .seq xs _ => (match xs.toList with | [.int i _, .int j _] => (i, j) | _ => (0, 0))
      | _ => (0, 0))
    | none => (0, 0)
  | _ => (0, 0)
theorem keyH_of {h : Heap} {v : Value} {x y : Int} (p : IsPair h v x y) : keyH h v = (x, y) := by
  obtain ⟨a, o, t, u, n, rfl, ho, hc, hd⟩ := p
  simp only [keyH, ho, hd]
variable {X : Cx} {pins : List (Addr × Obj)} {σ : L2.St} {H : Hp} {s : Shared} {F : Hp}
theorem pair_rp {v : L2.V} {u : Value} {p : Int × Int} (I : Inv X pins σ H s) (sb : Sub F H) (r : RelV v u) (h : Rp X.K F v (pairD p)) : IsPair s.heap u p.1 p.2 ∧ ∃ a, v = .ref a ∧ u = .ref a := by
  unfold pairD at h
  cases h with
  | @tup a vs ds h1 h2 =>
    cases h2 with
    | cons q1 q2 =>
      cases q2 with
      | cons q3 q4 =>
        cases q4
        cases q1
        cases q3
        obtain ⟨its, rv, ht, _⟩ := I.tuple (sb.sqT h1.sq)
        obtain ⟨u1, u2, rfl, r1, r2⟩ := vals2 rv
        obtain ⟨t1, rfl⟩ := r1
        obtain ⟨t2, rfl⟩ := r2
        obtain ⟨o, ho, hc, n, hd⟩ := ht
        cases r
        exact ⟨⟨a, o, t1, t2, n, rfl, ho, hc, hd⟩, a, rfl, rfl⟩
theorem pairs_rp (I : Inv X pins σ H s) (sb : Sub F H) : ∀ (ps : List (Int × Int)) (vs : List L2.V) (us : List Value), RpAll X.K F vs (ps.map pairD) → Vals vs us →
    us.map (keyH s.heap) = ps ∧ ∀ u ∈ us, IsPair s.heap u (keyH s.heap u).1 (keyH s.heap u).2 ∧ ∃ a, u = .ref a ∧ Rp X.K F (.ref a) (pairD (keyH s.heap u))
  | [], _, _, h, r => by
    cases h
    cases r
    exact ⟨rfl, fun u hu => by cases hu⟩
  | p :: ps, _, _, h, r => by
    cases h with
    | cons h1 h2 =>
      cases r with
      | cons r1 r2 =>
        obtain ⟨k1, k2⟩ := pairs_rp I sb ps _ _ h2 r2
        obtain ⟨q1, a, rfl, rfl⟩ := pair_rp I sb r1 h1
        have e := keyH_of q1
        refine ⟨by rw [List.map_cons, k1, e], fun u hu => ?_⟩
        rcases List.mem_cons.mp hu with z | z
        · subst z
          rw [e]
          exact ⟨q1, a, rfl, h1⟩
        · exact k2 u z
theorem back_rp {h : Heap} : ∀ us : List Value, (∀ u ∈ us, ∃ a, u = .ref a ∧ Rp X.K F (.ref a) (pairD (keyH h u))) → RpAll X.K F (us.map backV) ((us.map (keyH h)).map pairD)
  | [], _ => .nil
  | u :: us, k => by
    obtain ⟨a, rfl, q⟩ := k _ List.mem_cons_self
    exact .cons q (back_rp us fun v hv => k v (List.mem_cons_of_mem _ hv))
def rSq (K : Frag) : List L2.V → Hp → VK → Prop := fun vs H Q => ∃ (a : Addr) (xs : List L2.V), vs = [.ref a] ∧ (SqL K H a xs ∨ SqT K H a xs) ∧
  ((∃ ns : List Int, xs = ns.map .int ∧ ∀ p, H p = none → Q (.ref p) (upd H p (.lst ((sortI ns).map .int)))) ∨
   ∃ (F : Hp) (ps : List (Int × Int)), Sub F H ∧ RpAll K F xs (ps.map pairD) ∧ ∀ p ys, H p = none → RpAll K F ys ((sortP ps).map pairD) → Q (.ref p) (upd H p (.lst ys)))
theorem sq_obj {a : Addr} {xs : List L2.V} (I : Inv X pins σ H s) (h : SqL X.K H a xs ∨ SqT X.K H a xs) : ∃ (us : List Value) (T : String) (ob : Obj) (ep : Nat), Vals xs us ∧ (T = "list" ∨ T = "tuple") ∧ s.heap.get? a = some ob ∧ ob.cls = .type T ∧ ob.data = .seq us.toArray ep ∧ us.length ≤ sizeLine := by
  rcases h with h | h
  · obtain ⟨us, r, hl, hz⟩ := I.list h
    obtain ⟨ob, ho, hc, ep, hd⟩ := hl.isList
    exact ⟨us, "list", ob, ep, r, .inl rfl, ho, hc, hd, by rw [← r.length]; exact hz⟩
  · obtain ⟨us, r, hl, hz⟩ := I.tuple h
    obtain ⟨ob, ho, hc, ep, hd⟩ := hl
    exact ⟨us, "tuple", ob, ep, r, .inr rfl, ho, hc, hd, by rw [← r.length]; exact hz⟩
theorem cr_sq : CallR X (.builtin "sorted") (rSq X.K) := by
  intro pins s σ H vs us Q I r h
  obtain ⟨a, xs, rfl, hs, h⟩ := h
  obtain ⟨its, T, ob, ep, rv, hT, ho, hc, hd, hz⟩ := sq_obj I hs
  rw [Vals.ref1 r]
  rcases h with ⟨ns, rfl, q⟩ | ⟨F, ps, sb, ha, q⟩
  · have hi := rv.ints
    refine sorted_seq SrtO.swo_int hT ho hc hd hz (fun h2 g b _ _ => SrtO.ints_sortable hi h2) fun out h1 h2 => ?_
    obtain ⟨k1, k2, k3⟩ := SrtO.ints_out hi h1 h2
    obtain ⟨ep2, at2⟩ := sortedAll_at s.heap its out.toArray
    have e := sortI_eq k2 k3
    have ln : ((sortI ns).map L2.V.int).length ≤ sizeLine := by
      rw [List.length_map, (sortI_perm ns).length_eq, ← List.length_map (f := L2.V.int), rv.length]
      exact hz
    rw [e] at k1
    exact ⟨.ref _, _, I.laid (t' := s.toks) (o := .lst ((sortI ns).map .int)) (fun _ _ => sortedAll_old) (Nat.le_succ _) ⟨ln, out, ep2, vals_of_ints k1, at2⟩, rfl, q _ (I.hok.fresh (Nat.le_succ _))⟩
  · obtain ⟨k1, k2⟩ := pairs_rp I sb ps xs its ha rv
    refine sorted_seq (SrtO.swo_lex (keyH s.heap)) hT ho hc hd hz (fun h2 g b hb kk => ?_) fun out h1 h2 => ?_
    · refine SrtO.pairs_sortableO (s := { s with heap := g }) (by omega) (fun v hv => (k2 v hv).1.keeps fun c oc e _ => (kk c oc e).2) fun oc e => ?_
      cases (show some oc = some (seqObj "list" its.toArray 0) from e.symm.trans hb)
      intro c
      exact absurd (Value.type.inj c) (by decide)
    · have mem : ∀ u ∈ out, ∃ a, u = .ref a ∧ Rp X.K F (.ref a) (pairD (keyH s.heap u)) := fun u hu => (k2 u (h2.perm.mem_iff.mp hu)).2
      have e : out.map (keyH s.heap) = sortP ps := by
        refine sortP_eq ?_ ?_
        · rw [← k1]; exact h2.perm.map _
        · exact List.pairwise_map.mpr (h1.imp fun {x y} z => z)
      obtain ⟨ep2, at2⟩ := sortedAll_at s.heap its out.toArray
      have d := back_rp (X := X) out mem
      rw [e] at d
      refine ⟨.ref _, _, I.laid (t' := s.toks) (o := .lst (out.map backV)) (fun _ _ => sortedAll_old) (Nat.le_succ _) ⟨?_, out, ep2, vals_back fun u hu => (mem u hu).imp fun a z => z.1, at2⟩, rfl, q _ _ (I.hok.fresh (Nat.le_succ _)) d⟩
      rw [List.length_map, h2.perm.length_eq]
      exact hz
end
section
variable {N : List Str} {sc : Scope} {CX : CXT} {φ : Orc} {ex : Expr}
theorem pairsI_eq : ∀ {xs : List D} {ps : List (Int × Int)}, pairsI xs = some ps → xs = ps.map pairD
  | [], _, h => by cases h; rfl
  | x :: r, _, h => by
    simp only [pairsI, Option.bind_eq_some_iff, Option.map_eq_some_iff] at h
    obtain ⟨p, h1, l, h2, rfl⟩ := h
    have e : x = pairD p := by
      unfold pairI at h1
      split at h1
      · cases h1; rfl
      · cases h1
    rw [List.map_cons, ← pairsI_eq h2, e]
theorem a1_sorted {p pos : Pos} (hg : GlS sc (Str.ofString "sorted")) (hs : noStar ex = true) : A1 N sc CX φ .sorted ex (.Call (.Name (Str.ofString "sorted") p) [ex] [] pos) := by
  refine A1.mk (fun X G => pe_blt1 G (by decide) cr_sq hg (by rfl) (by decide +kernel) hs) fun X G σ H F e Q x w v hw l rel vw k => ?_
  have main : ∀ (a : Addr) (vs : List L2.V) (xs : List D), (SqL X.K H a vs ∨ SqT X.K H a vs) → RpAll X.K F vs xs → (sortD xs).map V.c = some w → rSq X.K [.ref a] H Q := by
    intro a vs xs hq hr hw
    refine ⟨a, vs, rfl, hq, ?_⟩
    unfold sortD at hw
    split at hw
    · rename_i ns h0
      cases hw
      rw [ints_eq h0] at hr
      refine .inl ⟨ns, vs_ints hr, fun p hp => k.lst rel ?_ hp⟩
      exact rpAll_ints
    · simp only [Option.map_map, Option.map_eq_some_iff] at hw
      obtain ⟨ps, h0, rfl⟩ := hw
      rw [pairsI_eq h0] at hr
      exact .inr ⟨F, ps, rel.sub, hr, fun p ys hp d => k.lst rel d hp⟩
  simp only [op1, Option.bind_eq_some_iff] at hw
  obtain ⟨xs, h1, h2⟩ := hw
  cases x <;> first | (cases h1; done) | skip
  · cases h1
    obtain ⟨a, vs, rfl, q1, q2⟩ := vw.list rel.sub
    exact main a vs _ (.inl q1) q2 h2
  · cases h1
    obtain ⟨a, vs, rfl, q1, q2⟩ := vw.tup rel.sub
    exact main a vs _ (.inr (rel.sub.sqT q1.sq)) q2 h2
theorem a1_lenSet {p p2 q pos : Pos} (hg : GlS sc (Str.ofString "len")) (hg2 : GlS sc (Str.ofString "set")) (hs : noStar ex = true) : A1 N sc CX φ .lenSet ex (.Call (.Name (Str.ofString "len") p) [.Call (.Name (Str.ofString "set") p2) [ex] [] q] [] pos) := by
  refine A1.mk (r := fun X v H Q => ∃ (l : Addr) (ns : List Int), v = .ref l ∧ SqL X.K H l (ns.map L2.V.int) ∧ ns.Nodup ∧ ns.length ≤ 4000 ∧ Q (.int (ns.length : Nat)) H) (fun X G => RZ.pe_lenSetI (G.gl hg) (G.blt "len" (by decide)) (G.gl hg2) (G.blt "set" (by decide)) (peE ex) G.calm (star_of hs)) fun X G σ H F e Q x w v hw l rel vw k => ?_
  cases x <;> first | (cases hw; done) | skip
  simp only [op1, Option.bind_eq_some_iff] at hw
  obtain ⟨ns, h0, h1⟩ := hw
  split at h1
  · rename_i hz
    cases h1
    obtain ⟨a, vs, rfl, q1, q2⟩ := vw.list rel.sub
    rw [ints_eq h0] at q2
    have hv := vs_ints q2
    subst hv
    exact ⟨a, ns, rfl, q1, hz.2, hz.1, k.int rel⟩
  · cases h1
end
end Sw
end T_SwFb
section T_SwFd
set_option autoImplicit false
set_option linter.all false
set_option Elab.async false
set_option maxRecDepth 100000
/-! SwFd: x[::-1] of lists and tuples. -/
namespace Sw
open PySem PySem.Spec L2
section
open PyProof.Rows
variable {prog : Program} {w : World} {A : Around} {E : Value → Shared → Prop} {s : Shared}
theorem filter_some {α β : Type} (f : α → Option β) (g : α → β) : ∀ l : List α, (∀ k ∈ l, f k = some (g k)) → l.filterMap f = l.map g
  | [], _ => rfl
  | x :: r, h => by
    rw [List.filterMap_cons, h x List.mem_cons_self, List.map_cons, filter_some f g r fun k hk => h k (List.mem_cons_of_mem _ hk)]
theorem back_pick (its : List Value) : ((List.range its.length).filterMap fun (k : Nat) => its.toArray[(((its.length : Int) - 1) + (k : Int) * (-1)).toNat]?) = its.reverse := by
  have h : ∀ k ∈ List.range its.length, its.toArray[(((its.length : Int) - 1) + (k : Int) * (-1)).toNat]? = some (its.reverse.getD k .none) := fun k hk => by
    have hk : k < its.length := by simpa using hk
    have e : (((its.length : Int) - 1) + (k : Int) * (-1)).toNat = its.length - 1 - k := by omega
    rw [e, List.getElem?_toArray, List.getElem?_eq_getElem (by omega), List.getD_eq_getElem?_getD, List.getElem?_reverse hk, List.getElem?_eq_getElem (by omega)]
    rfl
  rw [filter_some _ _ _ h]
  apply List.ext_getElem?
  intro i
  by_cases hi : i < its.length
  · rw [List.getElem?_map, List.getElem?_range hi]
    simp only [Option.map_some]
    rw [List.getD_eq_getElem?_getD, List.getElem?_eq_getElem (by simpa using hi)]
    rfl
  · rw [List.getElem?_eq_none (by simpa using hi), List.getElem?_eq_none (by simpa using hi)]
theorem adj_back (n : Nat) : Builtin.Slice.sliceAdjust none none (-1) (n : Int) = ((n : Int) - 1, -1) := by rfl
theorem places_back (n : Nat) : Builtin.Slice.slicePlaces ((n : Int) - 1) (-1) (-1) = n := by
  unfold Builtin.Slice.slicePlaces
  simp
  try omega
theorem tup_back {t sl : Addr} {its : List Value} {vs : Value} {Q : Value → Shared → Prop} (ht : IsTup s.heap t its.toArray) (hs : s.heap.IsSliceOf sl .none .none vs) (ps : IsPart vs (some (-1)))
    (h : Q (.ref s.heap.objs.size) { s with heap := s.heap.push { cls := .type "tuple", data := .seq its.reverse.toArray } }) (hz : its.length ≤ sizeLine) : wpAny (model prog w) A (getItem (.ref t) (.ref sl)) Q E s := by
  obtain ⟨ob, hob, hcl, hda⟩ := id hs
  have ty : s.TypeIs (.ref sl) "slice" := ⟨ob, hob, hcl⟩
  have fits : sizeOk (.seq its.reverse.toArray) := by
    show its.reverse.toArray.size ≤ sizeLine
    rw [List.size_toArray, List.length_reverse]; exact hz
  unfold getItem
  try with_reducible refine wpAny_holding ?_
  first | refine wpAny_bind (wpAny_pure ?_) | skip
  refine wpAny_bind (wpAny_sequenceKey ht.typeIs (by decide) ?_)
  refine wpAny_bind (wpAny_callSpecial?_slot (name := Str.ofString "__getitem__") ht.typeIs slot_tuple_getitem (wpAny_call_entry slot_tuple_getitem ht.typeIs entry_tuple_getitem ?_ (args_tuple_getitem _ _)))
  refine (show wpAny _ _ (Builtin.Tuple.tupleItemsOf (.ref t) >>= _) _ _ s from ?_)
  refine wpAny_bind (tupleItemsOf_ ht (wpAny_bind (wpAny_typeOf ty ?_)))
  rw [if_pos (by decide)]
  refine wpAny_bind ?_
  unfold Builtin.Slice.sliceApplied Builtin.Slice.sliceFields
  refine wpAny_bind (wpAny_bind (wpAny_field hob hda (x := .none) rfl (wpAny_bind (wpAny_field hob hda (x := .none) rfl (wpAny_bind (wpAny_field hob hda (x := vs) rfl (wpAny_pure ?_)))))))
  refine wpAny_bind (HT.slicePart_ ps ?_)
  refine (show wpAny _ _ (if ((-1 : Int) == 0) = true then _ else _) _ _ s from ?_)
  rw [if_neg (by decide)]
  refine wpAny_bind (HT.slicePart_ .none (wpAny_bind (HT.slicePart_ .none (wpAny_bind (wpAny_pure ?_)))))
  refine (show wpAny _ _ (match Builtin.Slice.sliceAdjust none none (-1) (its.toArray.size : Int) with | (lo, hi) => pure (lo, (-1 : Int), Builtin.Slice.slicePlaces lo hi (-1))) _ _ s from ?_)
  rw [List.size_toArray, adj_back]
  refine (show wpAny _ _ (pure ((its.length : Int) - 1, (-1 : Int), Builtin.Slice.slicePlaces ((its.length : Int) - 1) (-1) (-1))) _ _ s from ?_)
  rw [places_back]
  refine wpAny_pure ?_
  refine (show wpAny _ _ (if (((its.length : Int) - 1 == 0) && ((-1 : Int) == 1) && (its.length == its.toArray.size)) = true then _ else _) _ _ s from ?_)
  rw [if_neg (by simp), back_pick]
  first
    | exact wpAny_bind (m := Builtin.Tuple.tupleExact _) (wpAny_newObj_type (wpAny_pure ⟨_, rfl, wpAny_pure h⟩) fits)
    | exact wpAny_bind (m := Builtin.Tuple.tupleExact _) (wpAny_newObj_type (wpAny_bind (wpAny_pure (wpAny_pure ⟨_, rfl, wpAny_pure h⟩))) fits)
    | exact wpAny_bind (wpAny_bind (m := Builtin.Tuple.tupleExact _) (wpAny_newObj_type (wpAny_pure (wpAny_pure ⟨_, rfl, wpAny_pure h⟩)) fits))
    | exact wpAny_bind (wpAny_bind (m := Builtin.Tuple.tupleExact _) (wpAny_newObj_type (wpAny_pure ⟨_, rfl, wpAny_pure h⟩) fits))
end
section
variable {X : Cx}
def tBackT (K : Frag) (te : TE) : TE := fun σ H Q => te σ H fun x H1 => ∃ a xs, x = L2.V.ref a ∧ SqT K H1 a xs ∧ ∀ p o, H1 p = none → o.dict = none → Q (.ref p) (upd H1 p (.frz o (.tup xs.reverse)))
theorem pe_backT {e : Expr} {te : TE} {k : Nat} {q1 q2 q3 pos : Pos} (he : PE X e te) : PE X (.Subscript e (.Slice none none (some (.UnaryOp .USub (.Constant (.int 1) k q1) q2)) q3) pos) (tBackT X.K te) := by
  refine ⟨fun pins s σ H Q I h => PyProof.Rows.Subscript_ (thn (he.run pins s σ H _ I h) fun v s1 ⟨x, H1, I1, r1, q⟩ => ?_)⟩
  obtain ⟨a, xs, rfl, hx, q⟩ := q
  cases r1
  have step : PO X (some (.UnaryOp .USub (.Constant (.int 1) k q1) q2)) (tPart (tUn (rU fun i => .int (-i)) (tC (.int 1)))) := po_some (pe_un un_neg pe_int)
  refine wpAny_Slice (thn (po_none.run pins s1 σ H1 (fun o H2 => o = none ∧ H2 = H1) I1 ⟨rfl, rfl⟩) fun v1 s2 ⟨o1, H2, I2, d1, e1, e2⟩ => ?_)
  subst e1
  subst e2
  refine thn (po_none.run pins s2 σ H2 (fun o H3 => o = none ∧ H3 = H2) I2 ⟨rfl, rfl⟩) fun v2 s3 ⟨o2, H3, I3, d2, e3, e4⟩ => ?_
  subst e3
  subst e4
  refine thn (step.run pins s3 σ H3 (fun o H4 => o = some (-1) ∧ H4 = H3) I3 ⟨1, rfl, -1, rfl, rfl, rfl⟩) fun v3 s4 ⟨o3, H4, I4, d3, e5, e6⟩ => ?_
  subst e5
  subst e6
  cases d1
  cases d2
  have J : Inv X pins σ H4 { s4 with heap := s4.heap.push { cls := .type "slice", data := .fields #[.none, .none, v3] } } := I4.kept (t' := s4.toks) fun b ob z => Heap.get?_push_of_some _ z
  obtain ⟨its, r, ht, hz⟩ := J.tuple hx
  have hz2 : its.length ≤ sizeLine := by rw [← r.length]; exact hz
  refine (show wpAny (model X.prog X.w) X.A (PyProof.Rows.subscriptTail e _ (.ref a) (.ref s4.heap.objs.size)) (EP X pins σ Q) X.xe { s4 with heap := s4.heap.push { cls := .type "slice", data := .fields #[.none, .none, v3] } } from ?_)
  refine PyProof.Rows.tail_any (ops := [.ref a, .ref s4.heap.objs.size]) ht.typeIs (PyProof.Rows.slot_tuple_getitem.lookup) ?_ (by with_unfolding_all rfl)
  refine tup_back ht (Heap.IsSliceOf.new _ .none .none v3) d3 ?_ hz2
  refine ⟨.ref _, _, J.laid (t' := s4.toks) (o := .frz { cls := .type "tuple", data := .seq its.reverse.toArray } (.tup xs.reverse)) (fun b ob z => Heap.get?_push_of_some _ z) (Nat.le_refl _) ?_, rfl, q _ _ (J.hok.fresh (Nat.le_refl _)) rfl⟩
  have get := Heap.get?_push_size (s4.heap.push { cls := .type "slice", data := .fields #[.none, .none, v3] }) (o := { cls := .type "tuple", data := .seq its.reverse.toArray }) rfl
  exact (show ObjOk X.prog X.w _ _ _ (.frz _ _) from ⟨get, by rw [List.length_reverse]; exact hz, _, r.reverse, _, get, rfl, _, rfl⟩)
end
section
variable {N : List Str} {sc : Scope} {CX : CXT} {φ : Orc} {ex : Expr} {K : Frag} {F : Hp}
theorem rpAll_back : ∀ {vs : List L2.V} {xs : List D}, RpAll K F vs xs → RpAll K F vs.reverse xs.reverse
  | [], _, h => by cases h; exact .nil
  | v :: vs, _, h => by
    cases h with
    | cons h1 h2 =>
      rw [List.reverse_cons, List.reverse_cons]
      exact rpAll_app (rpAll_back h2) (.cons h1 .nil)
theorem a1_rev {k : Nat} {q1 q2 q3 pos : Pos} : A1 N sc CX φ .rev ex (.Subscript ex (.Slice none none (some (.UnaryOp .USub (.Constant (.int 1) k q1) q2)) q3) pos) := by
  intro X G σ H Q x w hw h
  cases x <;> first | (cases hw; done) | skip
  · cases hw
    refine RE.of (pe_revL (peE ex)) (RE.mono h fun v H1 ⟨F, e, rel, vw, k⟩ => ?_)
    obtain ⟨a, vs, rfl, h1, h2⟩ := vw.list rel.sub
    exact ⟨a, vs, rfl, h1, fun p hp => k.lst rel (rpAll_back h2) hp⟩
  · cases hw
    refine RE.of (pe_backT (peE ex)) (RE.mono h fun v H1 ⟨F, e, rel, vw, k⟩ => ?_)
    obtain ⟨a, vs, rfl, h1, h2⟩ := vw.tup rel.sub
    exact ⟨a, vs, rfl, rel.sub.sqT h1.sq, fun p o hp ho => k.tup rel (rpAll_back h2) hp ho⟩
end
section
variable {N : List Str} {sc : Scope} {CX : CXT} {φ : Orc} {ex : Expr}
theorem a1_bits {apos pos : Pos} (hb : isBase ex = true) (hline : (apos.endLine == pos.line) = true) : A1 N sc CX φ .bits ex (.Call (.Attribute ex (Str.ofString "bit_length") apos) [] [] pos) := by
  refine A1.mk (r := fun X v H Q => ∃ i, v = .int i ∧ Q (.int (Builtin.Int.intBits i : Nat)) H) (fun X G => pe_bits (peE ex) (base_of hb) hline) fun X G σ H F e Q x w v hw l rel vw k => ?_
  cases x <;> first | (cases hw; done) | skip
  cases hw
  exact ⟨_, vw.int, k.int rel⟩
/-- is True, is not False .. as tests -/
theorem st_isBool {y b : Bool} {a : E} {j : Nat} {pos p2 : Pos} (so : SO N sc CX ex φ (opW (evalE φ a) a)) : ST N sc CX (.Compare ex [if b then .Is else .IsNot] [.Constant (.bool y) j p2] pos) φ (evalT φ (.e (.o1 (.isBool y b) a))) := by
  intro X G e w e' hr F H σ Q rel k
  obtain ⟨o2, x', r1, r2, r3⟩ := evalT_e hr
  obtain ⟨⟨w2, e2⟩, r4, r5⟩ := bind_inv (r := evalE φ (.o1 (.isBool y b) a) e) (f := fun p => R.ok (Opd.v p.1, p.2)) r1
  cases r5
  simp only [evalE] at r4
  obtain ⟨⟨oa, e1⟩, g1, g2⟩ := bind_inv r4
  obtain ⟨x, g3, g4⟩ := bind_inv g2
  obtain ⟨g5, rfl⟩ := ret1_inv g4
  have run : RE X ex σ H (fun v H1 => ∃ z, v = .bl z ∧ Q ((z == y) == b) H1) := by
    refine so X G e oa _ g1 F H σ _ rel fun v F1 H1 p1 o1 _ => ?_
    have vw := o1.view p1.rel (ofO_inv g3)
    cases x <;> first | (cases g5; done) | skip
    rename_i z
    have hv := vw.bool
    subst hv
    cases g5
    cases r2
    refine ⟨z, rfl, ?_⟩
    have hw : ((z == y) == b) = w := Option.some.inj r3
    rw [hw]
    exact k F1 H1 p1
  cases b
  · refine RT.of (pt_cmpR op_notBl (peE ex) pe_bl rfl) (RE.mono run fun v H1 ⟨z, hz, q⟩ => ?_)
    subst hz
    refine ⟨_, _, rfl, rfl, ?_⟩
    cases z <;> cases y <;> exact ⟨_, rfl, q⟩
  · refine RT.of (pt_cmpR op_isBl (peE ex) pe_bl rfl) (RE.mono run fun v H1 ⟨z, hz, q⟩ => ?_)
    subst hz
    refine ⟨_, _, rfl, rfl, ?_⟩
    cases z <;> cases y <;> exact ⟨_, rfl, q⟩
end
end Sw
end T_SwFd
section T_SwP
set_option autoImplicit false
set_option linter.all false
set_option Elab.async false
set_option maxRecDepth 100000
set_option maxHeartbeats 2000000
/-! SwP: the check of the text against the core term, and that it is enough. -/
namespace Sw
open PySem L2
def cName (N : List Str) (sc : Scope) (i : Nat) (ex : Expr) : Bool := match ex with
  | .Name x _ => decide (N[i]? = some x) && isVis sc x && plainName x
  | _ => false
def glB (sc : Scope) (x : Str) : Bool := decide (sc.names.lookup x = some .globalImplicit)
def bName : O1 → Option String
  | .len => some "len" | .tupleOf => some "tuple" | .listOf => some "list" | .sum => some "sum" | .minOf => some "min" | .maxOf => some "max" | .all => some "all" | .any => some "any"
  | .repr => some "repr" | .strOf => some "str" | .intOf => some "int" | .sorted => some "sorted" | _ => none
def cCall1 (sc : Scope) (b : String) (ex : Expr) (f : Expr → Bool) : Bool := match ex with
  | .Call (.Name nm _) [x] [] _ => decide (nm = Str.ofString b) && glB sc nm && noStar x && f x
  | _ => false
def cCall2 (sc : Scope) (b : String) (ex : Expr) (f g : Expr → Bool) : Bool := match ex with
  | .Call (.Name nm _) [x, y] [] _ => decide (nm = Str.ofString b) && glB sc nm && noStar x && noStar y && f x && g y
  | _ => false
def cCall3 (sc : Scope) (b : String) (ex : Expr) (f g h : Expr → Bool) : Bool := match ex with
  | .Call (.Name nm _) [x, y, z] [] _ => decide (nm = Str.ofString b) && glB sc nm && noStar x && noStar y && noStar z && f x && g y && h z
  | _ => false
def cMeth1 (m : String) (ex : Expr) (f g : Expr → Bool) : Bool := match ex with
  | .Call (.Attribute o nm ap) [x] [] cp => decide (nm = Str.ofString m) && (ap.endLine == cp.line) && noStar x && f o && g x
  | _ => false
def cMeth0 (m : String) (ex : Expr) (f : Expr → Bool) : Bool := match ex with
  | .Call (.Attribute o nm ap) [] [] cp => decide (nm = Str.ofString m) && (ap.endLine == cp.line) && f o
  | _ => false
def cCmp (ex : Expr) (p : CmpOp → Expr → Expr → Bool) : Bool := match ex with
  | .Compare x [o] [y] _ => p o x y
  | _ => false
def isK (c : Const) : Expr → Bool | .Constant d _ _ => decide (d = c) | _ => false
def isNm (t : String) : Expr → Bool | .Name x _ => decide (x = Str.ofString t) | _ => false
def c1 (sc : Scope) (o : O1) (ex : Expr) (f : Expr → Bool) : Bool := match o with
  | .neg => (match ex with | .UnaryOp .USub x _ => f x | _ => false)
  | .isNone b => cCmp ex fun p x y => decide (p = if b then .Is else .IsNot) && isK .none y && f x
  | .isBool v b => cCmp ex fun p x y => decide (p = if b then .Is else .IsNot) && isK (.bool v) y && f x
  | .rev => (match ex with | .Subscript x (.Slice none none (some (.UnaryOp .USub (.Constant (.int 1) _ _) _)) _) _ => f x | _ => false)
  | .lenSet => cCall1 sc "len" ex fun y => cCall1 sc "set" y f
  | .bits => cMeth0 "bit_length" ex fun x => isBase x && f x
  | .isi t => isiOk t && glB sc (Str.ofString t) && cCall2 sc "isinstance" ex f fun y => isNm t y
  | o => (match bName o with | some b => cCall1 sc b ex f | none => false)
def copOf : O2 → Option CmpOp
  | .eq => some .Eq | .ne => some .NotEq | .lt => some .Lt | .le => some .LtE | .gt => some .Gt | .ge => some .GtE | .inn => some .In | .notin => some .NotIn | _ => none
def bopOf : O2 → Option Operator
  | .add => some .Add | .sub => some .Sub | .mul => some .Mult | .fdiv => some .FloorDiv | .mod => some .Mod | .pow => some .Pow | .shl => some .LShift | .shr => some .RShift | .band => some .BitAnd | .bxor => some .BitXor | _ => none
def cIdx (ex : Expr) (f g : Expr → Bool) : Bool := match ex with
  | .Subscript x y _ => !isSl y && f x && g y
  | _ => false
def cBop (op : Operator) (ex : Expr) (f g : Expr → Bool) : Bool := match ex with
  | .BinOp x p y _ => decide (p = op) && f x && g y
  | _ => false
def c2 (sc : Scope) (o : O2) (ex : Expr) (f g : Expr → Bool) : Bool := match copOf o with
  | some op => cCmp ex fun p x y => decide (p = op) && !behindInMarks p y && f x && g y
  | none => match bopOf o with
    | some op => cBop op ex f g
    | none => match o with
      | .idx => cIdx ex f g
      | .min2 => cCall2 sc "min" ex f g
      | .max2 => cCall2 sc "max" ex f g
      | _ => false
def isTup : Expr → Bool | .Tuple _ _ _ => true | _ => false
mutual
def cTg (N : List Str) (L : Str → Bool) : T → Expr → Bool
  | .n i, tg => (match tg with | .Name x _ => decide (N[i]? = some x) && L x | _ => false)
  | .p ts, tg => (match tg with | .Tuple tgs _ _ => allNoStar tgs && decide (tgs.length = ts.length) && cTgs N L ts tgs | _ => false)
def cTgs (N : List Str) (L : Str → Bool) : List T → List Expr → Bool
  | [], tgs => (match tgs with | [] => true | _ => false)
  | t :: ts, tgs => (match tgs with | tg :: r => cTg N L t tg && cTgs N L ts r | [] => false)
end
def plS : Src → Bool | .zip2 _ _ => false | .enum _ => false | _ => true
def isRg : Src → Bool | .rng1 _ => true | .rng2 _ _ => true | .rng3 _ _ _ => true | _ => false
/-- a test's shape -/
def cTe (a : E) (ex : Expr) : Bool := isPlainT ex || (match a with
  | .o2 o _ _ => (copOf o).isSome
  | .chain _ _ _ _ _ => true
  | .o1 o _ => (match o with | .isNone _ => true | .isBool _ _ => true | _ => false)
  | _ => false)
def ownS (N : List Str) (own : List Nat) : List (Str × Nat) := own.map fun i => ((N[i]?).getD (Str.ofString ""), i)
def cMv (ex : Expr) : Expr → Bool := fun _ => false
mutual
def cE (N : List Str) : E → Scope → Expr → Bool
  | .var i, sc, ex => cName N sc i ex
  | .mv i, sc, ex => cName N sc i ex
  | .non, _, ex => isK .none ex
  | .bl b, _, ex => isK (.bool b) ex
  | .int i, _, ex => isK (.int i) ex
  | .str s, _, ex => isK (.str (Str.ofString s)) ex
  | .tup es, sc, ex => (match ex with | .Tuple xs _ _ => cEs N es sc xs | _ => false)
  | .lst es, sc, ex => (match ex with | .List xs _ => cEs N es sc xs | _ => false)
  | .rep tp es a, sc, ex => !tp && cBop .Mult ex (fun x => match x with | .List xs _ => cEs N es sc xs | _ => false) (fun y => cE N a sc y)
  | .o1 o a, sc, ex => c1 sc o ex fun x => cE N a sc x
  | .o2 o a b, sc, ex => c2 sc o ex (fun x => cE N a sc x) (fun y => cE N b sc y)
  | .slice a lo hi, sc, ex => (match ex with | .Subscript x (.Slice l h none _) _ => cE N a sc x && cEo N lo sc l && cEo N hi sc h | _ => false)
  | .index a b, sc, ex => cMeth1 "index" ex (fun x => isBase x && cE N a sc x) (fun y => cE N b sc y)
  | .chain o o' a b c, sc, ex => (match ex with | .Compare x [p, p'] [y, z] _ => decide (copOf o = some p) && decide (copOf o' = some p') && !lastMarks [p, p'] [y, z] && cE N a sc x && cE N b sc y && cE N c sc z | _ => false)
  | .not a, sc, ex => (match ex with | .UnaryOp .Not x _ => cT N a sc x | _ => false)
  | .and a b, sc, ex => (match ex with | .BoolOp .And (x :: y :: r) p => cE N a sc x && (match r with | [] => cE N b sc y | _ => cE N b sc (.BoolOp .And (y :: r) p)) | _ => false)
  | .or a b, sc, ex => (match ex with | .BoolOp .Or (x :: y :: r) p => cE N a sc x && (match r with | [] => cE N b sc y | _ => cE N b sc (.BoolOp .Or (y :: r) p)) | _ => false)
  | .ite t a b, sc, ex => (match ex with | .IfExp c x y _ => cT N t sc c && cE N a sc x && cE N b sc y | _ => false)
  | .call f as, sc, ex => (match ex with | .Call (.Name nm _) (x :: xs) [] _ => decide (isCon f = none) && decide (nm = Str.ofString f) && glB sc nm && plainName nm && cEs N as sc (x :: xs) | .Name nm _ => (match as with | .nil => true | _ => false) && (match isCon f with | some s => decide (nm = Str.ofString s) | none => false) && glB sc nm && plainName nm | _ => false)
  | .comp own t s cond elt, sc, ex => (match ex with
    | .ListComp el [⟨tg, iter, ifs, asy⟩] scope _ => decide (asy = 0) && cTg N (isLoc scope) t tg && (plS s || (isP t && isTup tg)) && (slotsT t).all (fun j => own.contains j) && blkC N sc scope (ownS N own) && !isSetE iter && cSrc N s sc iter && cCo N cond (relS scope sc) ifs && cE N elt (relS scope sc) el
    | _ => false)
  | .ofSrc tup s, sc, ex => isRg s && cCall1 sc (if tup then "tuple" else "list") ex (fun x => cSrc N s sc x)
  | .pop i a, sc, ex => cMeth1 "pop" ex (cName N sc i) (fun y => cE N a sc y)
  | .popl i, sc, ex => cMeth0 "pop" ex (cName N sc i)
  | .app i a, sc, ex => cMeth1 "append" ex (cName N sc i) (fun y => cE N a sc y)
  | .ext i a, sc, ex => cMeth1 "extend" ex (cName N sc i) (fun y => cE N a sc y)
def cEs (N : List Str) : Es → Scope → List Expr → Bool
  | .nil, _, xs => (match xs with | [] => true | _ => false)
  | .cons a r, sc, xs => (match xs with | x :: xr => noStar x && cE N a sc x && cEs N r sc xr | [] => false)
def cEo (N : List Str) : Eo → Scope → Option Expr → Bool
  | .no, _, x => (match x with | none => true | some _ => false)
  | .yes a, sc, x => (match x with | some ex => cE N a sc ex | none => false)
def cT (N : List Str) : Te → Scope → Expr → Bool
  | .e a, sc, ex => cTe a ex && cE N a sc ex
  | .not a, sc, ex => (match ex with | .UnaryOp .Not x _ => cT N a sc x | _ => false)
  | .and a b, sc, ex => (match ex with | .BoolOp .And (x :: y :: r) p => cT N a sc x && (match r with | [] => cT N b sc y | _ => cT N b sc (.BoolOp .And (y :: r) p)) | _ => false)
  | .or a b, sc, ex => (match ex with | .BoolOp .Or (x :: y :: r) p => cT N a sc x && (match r with | [] => cT N b sc y | _ => cT N b sc (.BoolOp .Or (y :: r) p)) | _ => false)
  | .ite t a b, sc, ex => (match ex with | .IfExp c x y _ => cT N t sc c && cT N a sc x && cT N b sc y | _ => false)
def cCo (N : List Str) : Co → Scope → List Expr → Bool
  | .no, _, xs => (match xs with | [] => true | _ => false)
  | .yes t, sc, xs => (match xs with | [x] => cT N t sc x | _ => false)
def cSrc (N : List Str) : Src → Scope → Expr → Bool
  | .seq a, sc, ex => cE N a sc ex
  | .rng1 a, sc, ex => cCall1 sc "range" ex fun x => cE N a sc x
  | .rng2 a b, sc, ex => cCall2 sc "range" ex (fun x => cE N a sc x) (fun y => cE N b sc y)
  | .rng3 a b c, sc, ex => cCall3 sc "range" ex (fun x => cE N a sc x) (fun y => cE N b sc y) (fun z => cE N c sc z)
  | .zip2 a b, sc, ex => cCall2 sc "zip" ex (fun x => cE N a sc x) (fun y => cE N b sc y)
  | .enum a, sc, ex => cCall1 sc "enumerate" ex fun x => cE N a sc x
end
section
variable {N : List Str} {CX : CXT} {φ : Orc} {sc : Scope} {ex : Expr}
theorem cName_inv {i : Nat} (h : cName N sc i ex = true) : ∃ x p, ex = .Name x p ∧ N[i]? = some x ∧ isVis sc x = true ∧ plainName x = true := by
  unfold cName at h
  split at h
  · simp only [Bool.and_eq_true, decide_eq_true_eq] at h
    exact ⟨_, _, rfl, h.1.1, h.1.2, h.2⟩
  · cases h
theorem isK_inv {c : Const} (h : isK c ex = true) : ∃ k p, ex = .Constant c k p := by
  unfold isK at h
  split at h
  · rw [of_decide_eq_true h]; exact ⟨_, _, rfl⟩
  · cases h
theorem cCall1_inv {b : String} {f : Expr → Bool} (h : cCall1 sc b ex f = true) : ∃ p x q, ex = .Call (.Name (Str.ofString b) p) [x] [] q ∧ GlS sc (Str.ofString b) ∧ noStar x = true ∧ f x = true := by
  unfold cCall1 at h
  split at h
  · simp only [Bool.and_eq_true, decide_eq_true_eq, glB] at h
    obtain ⟨⟨⟨rfl, h2⟩, h3⟩, h4⟩ := h
    exact ⟨_, _, _, rfl, h2, h3, h4⟩
  · cases h
theorem cCall2_inv {b : String} {f g : Expr → Bool} (h : cCall2 sc b ex f g = true) : ∃ p x y q, ex = .Call (.Name (Str.ofString b) p) [x, y] [] q ∧ GlS sc (Str.ofString b) ∧ noStar x = true ∧ noStar y = true ∧ f x = true ∧ g y = true := by
  unfold cCall2 at h
  split at h
  · simp only [Bool.and_eq_true, decide_eq_true_eq, glB] at h
    obtain ⟨⟨⟨⟨⟨rfl, h2⟩, h3⟩, h4⟩, h5⟩, h6⟩ := h
    exact ⟨_, _, _, _, rfl, h2, h3, h4, h5, h6⟩
  · cases h
theorem cCall3_inv {b : String} {f g k : Expr → Bool} (h : cCall3 sc b ex f g k = true) : ∃ p x y z q, ex = .Call (.Name (Str.ofString b) p) [x, y, z] [] q ∧ GlS sc (Str.ofString b) ∧ noStar x = true ∧ noStar y = true ∧ noStar z = true ∧ f x = true ∧ g y = true ∧ k z = true := by
  unfold cCall3 at h
  split at h
  · simp only [Bool.and_eq_true, decide_eq_true_eq, glB] at h
    obtain ⟨⟨⟨⟨⟨⟨⟨rfl, h2⟩, h3⟩, h4⟩, h5⟩, h6⟩, h7⟩, h8⟩ := h
    exact ⟨_, _, _, _, _, rfl, h2, h3, h4, h5, h6, h7, h8⟩
  · cases h
theorem cMeth1_inv {m : String} {f g : Expr → Bool} (h : cMeth1 m ex f g = true) : ∃ o ap x cp, ex = .Call (.Attribute o (Str.ofString m) ap) [x] [] cp ∧ (ap.endLine == cp.line) = true ∧ noStar x = true ∧ f o = true ∧ g x = true := by
  unfold cMeth1 at h
  split at h
  · simp only [Bool.and_eq_true, decide_eq_true_eq] at h
    obtain ⟨⟨⟨⟨rfl, h2⟩, h3⟩, h4⟩, h5⟩ := h
    exact ⟨_, _, _, _, rfl, h2, h3, h4, h5⟩
  · cases h
theorem cMeth0_inv {m : String} {f : Expr → Bool} (h : cMeth0 m ex f = true) : ∃ o ap cp, ex = .Call (.Attribute o (Str.ofString m) ap) [] [] cp ∧ (ap.endLine == cp.line) = true ∧ f o = true := by
  unfold cMeth0 at h
  split at h
  · simp only [Bool.and_eq_true, decide_eq_true_eq] at h
    obtain ⟨⟨rfl, h2⟩, h3⟩ := h
    exact ⟨_, _, _, rfl, h2, h3⟩
  · cases h
theorem cCmp_inv {f : CmpOp → Expr → Expr → Bool} (h : cCmp ex f = true) : ∃ x o y p, ex = .Compare x [o] [y] p ∧ f o x y = true := by
  unfold cCmp at h
  split at h
  · exact ⟨_, _, _, _, rfl, h⟩
  · cases h
theorem cBop_inv {op : Operator} {f g : Expr → Bool} (h : cBop op ex f g = true) : ∃ x y p, ex = .BinOp x op y p ∧ f x = true ∧ g y = true := by
  unfold cBop at h
  split at h
  · simp only [Bool.and_eq_true, decide_eq_true_eq] at h
    obtain ⟨⟨rfl, h2⟩, h3⟩ := h
    exact ⟨_, _, _, rfl, h2, h3⟩
  · cases h
theorem cIdx_inv {f g : Expr → Bool} (h : cIdx ex f g = true) : ∃ x y p, ex = .Subscript x y p ∧ isSl y = false ∧ f x = true ∧ g y = true := by
  unfold cIdx at h
  split at h
  · simp only [Bool.and_eq_true, Bool.not_eq_true'] at h
    obtain ⟨⟨h1, h2⟩, h3⟩ := h
    exact ⟨_, _, _, rfl, h1, h2, h3⟩
  · cases h
theorem plainIx_of {y : Expr} (h : isSl y = false) : PlainIx y := fun o i => by cases y <;> first | rfl | cases h
theorem c1_ok {o : O1} {f : Expr → Bool} (h : c1 sc o ex f = true) : ∃ x, f x = true ∧ A1 N sc CX φ o x ex := by
  cases o with
  | neg =>
    simp only [c1] at h
    split at h
    · exact ⟨_, h, a1_neg⟩
    · cases h
  | isNone b =>
    simp only [c1] at h
    obtain ⟨x, o, y, p, rfl, h0⟩ := cCmp_inv h
    simp only [Bool.and_eq_true, decide_eq_true_eq] at h0
    obtain ⟨⟨rfl, h2⟩, h3⟩ := h0
    obtain ⟨k, q, rfl⟩ := isK_inv h2
    exact ⟨x, h3, a1_isNone⟩
  | isBool v b =>
    simp only [c1] at h
    obtain ⟨x, o, y, p, rfl, h0⟩ := cCmp_inv h
    simp only [Bool.and_eq_true, decide_eq_true_eq] at h0
    obtain ⟨⟨rfl, h2⟩, h3⟩ := h0
    obtain ⟨k, q, rfl⟩ := isK_inv h2
    exact ⟨x, h3, a1_isBool⟩
  | len => obtain ⟨p, x, q, rfl, h1, h2, h3⟩ := cCall1_inv (b := "len") h; exact ⟨x, h3, a1_len h1 h2⟩
  | tupleOf => obtain ⟨p, x, q, rfl, h1, h2, h3⟩ := cCall1_inv (b := "tuple") h; exact ⟨x, h3, a1_tuple h1 h2⟩
  | listOf => obtain ⟨p, x, q, rfl, h1, h2, h3⟩ := cCall1_inv (b := "list") h; exact ⟨x, h3, a1_list h1 h2⟩
  | sum => obtain ⟨p, x, q, rfl, h1, h2, h3⟩ := cCall1_inv (b := "sum") h; exact ⟨x, h3, a1_sum h1 h2⟩
  | minOf => obtain ⟨p, x, q, rfl, h1, h2, h3⟩ := cCall1_inv (b := "min") h; exact ⟨x, h3, a1_min h1 h2⟩
  | maxOf => obtain ⟨p, x, q, rfl, h1, h2, h3⟩ := cCall1_inv (b := "max") h; exact ⟨x, h3, a1_max h1 h2⟩
  | all => obtain ⟨p, x, q, rfl, h1, h2, h3⟩ := cCall1_inv (b := "all") h; exact ⟨x, h3, a1_all h1 h2⟩
  | any => obtain ⟨p, x, q, rfl, h1, h2, h3⟩ := cCall1_inv (b := "any") h; exact ⟨x, h3, a1_any h1 h2⟩
  | repr => obtain ⟨p, x, q, rfl, h1, h2, h3⟩ := cCall1_inv (b := "repr") h; exact ⟨x, h3, a1_repr h1 h2⟩
  | strOf => obtain ⟨p, x, q, rfl, h1, h2, h3⟩ := cCall1_inv (b := "str") h; exact ⟨x, h3, a1_str h1 h2⟩
  | intOf => obtain ⟨p, x, q, rfl, h1, h2, h3⟩ := cCall1_inv (b := "int") h; exact ⟨x, h3, a1_int h1 h2⟩
  | sorted => obtain ⟨p, x, q, rfl, h1, h2, h3⟩ := cCall1_inv (b := "sorted") h; exact ⟨x, h3, a1_sorted h1 h2⟩
  | lenSet =>
    obtain ⟨p, x, q, rfl, h1, h2, h3⟩ := cCall1_inv (b := "len") h
    obtain ⟨p2, y, q2, rfl, h4, h5, h6⟩ := cCall1_inv (b := "set") h3
    exact ⟨y, h6, a1_lenSet h1 h4 h5⟩
  | rev =>
    simp only [c1] at h
    split at h
    · exact ⟨_, h, a1_rev⟩
    · cases h
  | bits =>
    simp only [c1] at h
    obtain ⟨o, ap, cp, rfl, h1, h3⟩ := cMeth0_inv h
    simp only [Bool.and_eq_true] at h3
    exact ⟨o, h3.2, a1_bits h3.1 h1⟩
  | isi t =>
    simp only [c1, Bool.and_eq_true, decide_eq_true_eq, glB] at h
    obtain ⟨⟨ht, hg⟩, h⟩ := h
    obtain ⟨p, x, y, q, rfl, h1, h2, h3, h4, h5⟩ := cCall2_inv (b := "isinstance") h
    unfold isNm at h5
    split at h5
    · obtain rfl := of_decide_eq_true h5
      exact ⟨x, h4, a1_isi h1 ht hg h2⟩
    · cases h5
theorem oc_of {o : O2} {op : CmpOp} (h : copOf o = some op) : OC N sc CX φ o op := by
  cases o <;> cases h
  · exact oc_eq
  · exact oc_ne
  · exact oc_lt
  · exact oc_le
  · exact oc_gt
  · exact oc_ge
  · exact oc_in
  · exact oc_notin
theorem isCmp_of {o : O2} {op : CmpOp} (h : copOf o = some op) : isCmp o = true := by cases o <;> first | rfl | cases h
theorem c2_cmp {o : O2} {op : CmpOp} {f g : Expr → Bool} (ho : copOf o = some op) (h : c2 sc o ex f g = true) : ∃ x y p, ex = .Compare x [op] [y] p ∧ behindInMarks op y = false ∧ f x = true ∧ g y = true := by
  unfold c2 at h
  rw [ho] at h
  dsimp only at h
  obtain ⟨x, o', y, p, rfl, h0⟩ := cCmp_inv h
  simp only [Bool.and_eq_true, decide_eq_true_eq, Bool.not_eq_true'] at h0
  obtain ⟨⟨⟨rfl, h2⟩, h3⟩, h4⟩ := h0
  exact ⟨x, y, p, rfl, h2, h3, h4⟩
theorem c2_ok {o : O2} {f g : Expr → Bool} (h : c2 sc o ex f g = true) : ∃ x y, f x = true ∧ g y = true ∧ A2 N sc CX φ o x y ex := by
  cases ho : copOf o with
  | some op =>
    obtain ⟨x, y, p, rfl, h1, h2, h3⟩ := c2_cmp ho h
    exact ⟨x, y, h2, h3, (oc_of ho).a2 h1⟩
  | none =>
    cases o <;> first | (cases ho; done) | skip
    · obtain ⟨x, y, p, rfl, h1, h2⟩ := cBop_inv (op := .Add) h; exact ⟨x, y, h1, h2, a2_add⟩
    · obtain ⟨x, y, p, rfl, h1, h2⟩ := cBop_inv (op := .Sub) h; exact ⟨x, y, h1, h2, a2_sub⟩
    · obtain ⟨x, y, p, rfl, h1, h2⟩ := cBop_inv (op := .Mult) h; exact ⟨x, y, h1, h2, a2_mul⟩
    · obtain ⟨x, y, p, rfl, h1, h2⟩ := cBop_inv (op := .FloorDiv) h; exact ⟨x, y, h1, h2, a2_fdiv⟩
    · obtain ⟨x, y, p, rfl, h1, h2⟩ := cBop_inv (op := .Mod) h; exact ⟨x, y, h1, h2, a2_mod⟩
    · obtain ⟨x, y, p, rfl, h1, h2⟩ := cBop_inv (op := .Pow) h; exact ⟨x, y, h1, h2, a2_pow⟩
    · obtain ⟨x, y, p, rfl, h1, h2⟩ := cBop_inv (op := .LShift) h; exact ⟨x, y, h1, h2, a2_shl⟩
    · obtain ⟨x, y, p, rfl, h1, h2⟩ := cBop_inv (op := .RShift) h; exact ⟨x, y, h1, h2, a2_shr⟩
    · obtain ⟨x, y, p, rfl, h1, h2⟩ := cBop_inv (op := .BitAnd) h; exact ⟨x, y, h1, h2, a2_band⟩
    · obtain ⟨x, y, p, rfl, h1, h2⟩ := cBop_inv (op := .BitXor) h; exact ⟨x, y, h1, h2, a2_bxor⟩
    · obtain ⟨x, y, p, rfl, h0, h1, h2⟩ := cIdx_inv h; exact ⟨x, y, h1, h2, a2_idx (plainIx_of h0)⟩
    · obtain ⟨p, x, y, q, rfl, h1, h2, h3, h4, h5⟩ := cCall2_inv (b := "min") h; exact ⟨x, y, h4, h5, a2_min h1 h2 h3⟩
    · obtain ⟨p, x, y, q, rfl, h1, h2, h3, h4, h5⟩ := cCall2_inv (b := "max") h; exact ⟨x, y, h4, h5, a2_max h1 h2 h3⟩
/-! ### targets -/
mutual
theorem cTg_ok {L : Str → Bool} : ∀ (t : T) (tg : Expr), cTg N L t tg = true → ∀ X, GoodT N L X → TgOk X tg t
  | .n i, tg, h, X, G => by
    simp only [cTg] at h
    split at h
    · simp only [Bool.and_eq_true, decide_eq_true_eq] at h
      exact tg_n (by rw [G.hN]; exact G.nd) (by rw [G.hN]; exact h.1) (G.loc _ h.2).1 (G.loc _ h.2).2
    · cases h
  | .p ts, tg, h, X, G => by
    simp only [cTg] at h
    split at h
    · simp only [Bool.and_eq_true, decide_eq_true_eq] at h
      exact tg_p G.calm h.1.1 h.1.2 (cTgs_ok ts _ h.1.1 h.2 X G)
    · cases h
theorem cTgs_ok {L : Str → Bool} : ∀ (ts : List T) (tgs : List Expr), allNoStar tgs = true → cTgs N L ts tgs = true → ∀ X, GoodT N L X → TgsOk X tgs ts
  | [], tgs, _, h, X, G => by
    simp only [cTgs] at h
    split at h
    · exact tgs_nil
    · cases h
  | t :: ts, tgs, hs, h, X, G => by
    simp only [cTgs] at h
    split at h
    · simp only [Bool.and_eq_true] at h
      simp only [allNoStar, Bool.and_eq_true] at hs
      exact tgs_cons hs.1 (cTg_ok t _ h.1 X G) (cTgs_ok ts _ hs.2 h.2 X G)
    · cases h
end
theorem c_so {a : E} (h : cE N a sc ex = true) (s : SE N sc CX ex φ (evalE φ a)) : SO N sc CX ex φ (opW (evalE φ a) a) := so_of s fun i e => by
  subst e
  simp only [cE] at h
  obtain ⟨x, p, rfl, h1, h2, h3⟩ := cName_inv h
  exact so_var h1 h2 h3 _
theorem ownS_snd (own : List Nat) : (ownS N own).map (·.2) = own := by
  unfold ownS
  rw [List.map_map]
  exact List.map_id own
/-- a test's three readings -/
structure TOk (N : List Str) (sc : Scope) (CX : CXT) (ex : Expr) (φ : Orc) (r : Env → R (Bool × Env)) : Prop where
  st : ST N sc CX ex φ r
  sb : SB N sc CX ex φ r
theorem st_sw {op : PySem.BoolOp} {vs : List Expr} {p : Pos} {r : Env → R (Bool × Env)} (h : ST N sc CX (.BoolOp op vs p) φ r) : SW N sc CX (.BoolOp op vs p) φ r := fun X G e w e' hr F H σ Q rel k wh pins s I => by
  have := h X G e w e' hr F H σ Q rel k pins s I
  rw [arm_isTrue_BoolOp] at this ⊢
  exact this
theorem noStars_of {as : Es} {xs : List Expr} (h : cEs N as sc xs = true) : noStars xs = true := by
  induction xs generalizing as with
  | nil => rfl
  | cons x r ih =>
    cases as with
    | nil => simp [cEs] at h
    | cons a as =>
      simp only [cEs, Bool.and_eq_true] at h
      simp only [noStars, Bool.and_eq_true]
      exact ⟨h.1.1, ih h.2⟩
mutual
theorem cE_ok : ∀ (a : E) (sc : Scope) (ex : Expr), cE N a sc ex = true → SE N sc CX ex φ (evalE φ a)
  | .var i, sc, ex, h => by
    simp only [cE] at h
    obtain ⟨x, p, rfl, h1, h2, h3⟩ := cName_inv h
    exact se_var h1 h2 h3
  | .mv i, sc, ex, h => by
    simp only [cE] at h
    obtain ⟨x, p, rfl, h1, h2, h3⟩ := cName_inv h
    exact se_mv h1 h2 h3
  | .non, sc, ex, h => by
    simp only [cE] at h
    obtain ⟨k, p, rfl⟩ := isK_inv h
    exact se_const (t := .non) (x := .none) (fun e => by simp only [evalE]) (fun X => pe_non) fun K F => .non
  | .bl b, sc, ex, h => by
    simp only [cE] at h
    obtain ⟨k, p, rfl⟩ := isK_inv h
    exact se_const (t := .bl b) (x := .bool b) (fun e => by simp only [evalE]) (fun X => pe_bl) fun K F => .bl b
  | .int i, sc, ex, h => by
    simp only [cE] at h
    obtain ⟨k, p, rfl⟩ := isK_inv h
    exact se_const (t := .int i) (x := .int i) (fun e => by simp only [evalE]) (fun X => pe_int) fun K F => .int i
  | .str s, sc, ex, h => by
    simp only [cE] at h
    obtain ⟨k, p, rfl⟩ := isK_inv h
    exact se_const (t := .str (Str.ofString s)) (x := .str (Str.ofString s)) (fun e => by simp only [evalE]) (fun X => pe_str) fun K F => .str _
  | .tup es, sc, ex, h => by
    simp only [cE] at h
    split at h
    · exact se_tup (cEs_ok es sc _ h).1
    · cases h
  | .lst es, sc, ex, h => by
    simp only [cE] at h
    split at h
    · exact se_lst (cEs_ok es sc _ h).1
    · cases h
  | .rep tp es a, sc, ex, h => by
    simp only [cE, Bool.and_eq_true, Bool.not_eq_true'] at h
    obtain ⟨rfl, h⟩ := h
    obtain ⟨x, y, p, rfl, h1, h2⟩ := cBop_inv h
    split at h1
    · exact se_rep (cEs_ok es sc _ h1).1 (c_so h2 (cE_ok a sc y h2))
    · cases h1
  | .o1 o a, sc, ex, h => by
    simp only [cE] at h
    obtain ⟨x, h1, h2⟩ := c1_ok (N := N) (CX := CX) (φ := φ) h
    exact se_o1 (c_so h1 (cE_ok a sc x h1)) h2
  | .o2 o a b, sc, ex, h => by
    simp only [cE] at h
    obtain ⟨x, y, h1, h2, h3⟩ := c2_ok (N := N) (CX := CX) (φ := φ) h
    exact se_o2 (c_so h1 (cE_ok a sc x h1)) (c_so h2 (cE_ok b sc y h2)) h3
  | .slice a lo hi, sc, ex, h => by
    simp only [cE] at h
    split at h
    · simp only [Bool.and_eq_true] at h
      exact se_slice (c_so h.1.1 (cE_ok a sc _ h.1.1)) (cEo_ok lo sc _ h.1.2) (cEo_ok hi sc _ h.2)
    · cases h
  | .index a b, sc, ex, h => by
    simp only [cE] at h
    obtain ⟨o, ap, x, cp, rfl, h1, h2, h3, h4⟩ := cMeth1_inv h
    simp only [Bool.and_eq_true] at h3
    exact se_index (c_so h3.2 (cE_ok a sc o h3.2)) (c_so h4 (cE_ok b sc x h4)) h3.1 h1 h2
  | .chain o o' a b c, sc, ex, h => by
    simp only [cE] at h
    split at h
    · simp only [Bool.and_eq_true, decide_eq_true_eq, Bool.not_eq_true'] at h
      obtain ⟨⟨⟨⟨⟨h1, h2⟩, h3⟩, h4⟩, h5⟩, h6⟩ := h
      exact se_chain (isCmp_of h1) (c_so h4 (cE_ok a sc _ h4)) (c_so h5 (cE_ok b sc _ h5)) (c_so h6 (cE_ok c sc _ h6)) (oc_of h1) (oc_of h2) h3
    · cases h
  | .not a, sc, ex, h => by
    simp only [cE] at h
    split at h
    · exact se_not (cT_ok a sc _ h).sb
    · cases h
  | .and a b, sc, ex, h => by
    simp only [cE] at h
    split at h
    · rename_i x y r p
      simp only [Bool.and_eq_true] at h
      cases r with
      | nil => exact se_and (sd_of (cE_ok a sc x h.1)) (se_one (cE_ok b sc y h.2))
      | cons z r => exact se_and (sd_of (cE_ok a sc x h.1)) (cE_ok b sc _ h.2)
    · cases h
  | .or a b, sc, ex, h => by
    simp only [cE] at h
    split at h
    · rename_i x y r p
      simp only [Bool.and_eq_true] at h
      cases r with
      | nil => exact se_or (sd_of (cE_ok a sc x h.1)) (se_one (cE_ok b sc y h.2))
      | cons z r => exact se_or (sd_of (cE_ok a sc x h.1)) (cE_ok b sc _ h.2)
    · cases h
  | .ite t a b, sc, ex, h => by
    simp only [cE] at h
    split at h
    · simp only [Bool.and_eq_true] at h
      exact se_ite (cT_ok t sc _ h.1.1).st (cE_ok a sc _ h.1.2) (cE_ok b sc _ h.2)
    · cases h
  | .call f as, sc, ex, h => by
    simp only [cE] at h
    split at h
    · simp only [Bool.and_eq_true, decide_eq_true_eq, glB] at h
      obtain ⟨⟨⟨⟨h0, h1⟩, h2⟩, h3⟩, h4⟩ := h
      exact se_call h0 h1 h2 h3 (noStars_of h4) (cEs_ok as sc _ h4).2
    · simp only [Bool.and_eq_true, decide_eq_true_eq, glB] at h
      obtain ⟨⟨⟨h1, h2⟩, h3⟩, h4⟩ := h
      split at h1
      · split at h2
        · rename_i s hs
          exact se_con hs (of_decide_eq_true h2) h3 h4
        · cases h2
      · cases h1
    · cases h
  | .comp own t s cond elt, sc, ex, h => by
    simp only [cE] at h
    split at h
    · simp only [Bool.and_eq_true, decide_eq_true_eq, Bool.not_eq_true', Bool.or_eq_true, List.all_eq_true] at h
      obtain ⟨⟨⟨⟨⟨⟨⟨⟨rfl, h1⟩, h2⟩, h3⟩, h4⟩, h5⟩, h6⟩, h7⟩, h8⟩ := h
      rename_i el tg iter ifs scope pos
      have := se_comp (pos := pos) (t := t) (s := s) (cond := cond) (a := elt) (pl := plS s) ((cSrc_ok s sc iter h6).1 tg (h2.imp id fun z => z.2)) (cTg_ok t tg h1) (h2.imp id fun z => z.1) (ownS := ownS N own) (fun j hj => by rw [ownS_snd]; simpa using h3 j hj) h4 h5 (cCo_ok cond (relS scope sc) ifs h7) (sd_of (cE_ok elt (relS scope sc) el h8))
      rw [ownS_snd] at this
      exact this
    · cases h
  | .ofSrc tup s, sc, ex, h => by
    simp only [cE, Bool.and_eq_true] at h
    obtain ⟨p, x, q, rfl, h1, h2, h3⟩ := cCall1_inv h.2
    exact se_ofRg h1 h2 ((cSrc_ok s sc x h3).2 h.1)
  | .pop i a, sc, ex, h => by
    simp only [cE] at h
    obtain ⟨o, ap, x, cp, rfl, h1, h2, h3, h4⟩ := cMeth1_inv h
    obtain ⟨y, p, rfl, g1, g2, g3⟩ := cName_inv h3
    exact se_pop g1 g2 g3 (c_so h4 (cE_ok a sc x h4)) h1 h2
  | .popl i, sc, ex, h => by
    simp only [cE] at h
    obtain ⟨o, ap, cp, rfl, h1, h3⟩ := cMeth0_inv h
    obtain ⟨y, p, rfl, g1, g2, g3⟩ := cName_inv h3
    exact se_popl g1 g2 g3 h1
  | .app i a, sc, ex, h => by
    simp only [cE] at h
    obtain ⟨o, ap, x, cp, rfl, h1, h2, h3, h4⟩ := cMeth1_inv h
    obtain ⟨y, p, rfl, g1, g2, g3⟩ := cName_inv h3
    exact se_app g1 g2 g3 (sd_of (cE_ok a sc x h4)) h1 h2
  | .ext i a, sc, ex, h => by
    simp only [cE] at h
    obtain ⟨o, ap, x, cp, rfl, h1, h2, h3, h4⟩ := cMeth1_inv h
    obtain ⟨y, p, rfl, g1, g2, g3⟩ := cName_inv h3
    exact se_ext g1 g2 g3 (c_so h4 (cE_ok a sc x h4)) h1 h2
theorem cEs_ok : ∀ (as : Es) (sc : Scope) (xs : List Expr), cEs N as sc xs = true → SDs N sc CX xs φ (evalDs φ as) ∧ SOs N sc CX xs φ (evalOs φ as)
  | .nil, sc, xs, h => by
    simp only [cEs] at h
    split at h
    · exact ⟨sds_nil, sos_nil⟩
    · cases h
  | .cons a r, sc, xs, h => by
    simp only [cEs] at h
    split at h
    · simp only [Bool.and_eq_true] at h
      have e := cE_ok a sc _ h.1.2
      have q := cEs_ok r sc _ h.2
      exact ⟨sds_cons h.1.1 (sd_of e) q.1, sos_cons h.1.1 (c_so h.1.2 e) q.2⟩
    · cases h
theorem cEo_ok : ∀ (a : Eo) (sc : Scope) (x : Option Expr), cEo N a sc x = true → SPt N sc CX x φ (evalPart φ a)
  | .no, sc, x, h => by
    simp only [cEo] at h
    split at h
    · exact sp_none
    · cases h
  | .yes a, sc, x, h => by
    simp only [cEo] at h
    split at h
    · exact sp_some (sd_of (cE_ok a sc _ h))
    · cases h
theorem cT_ok : ∀ (a : Te) (sc : Scope) (ex : Expr), cT N a sc ex = true → TOk N sc CX ex φ (evalT φ a)
  | .e a, sc, ex, h => by
    simp only [cT, Bool.and_eq_true] at h
    have e := cE_ok a sc ex h.2
    have so := c_so h.2 e
    refine ⟨?_, sb_e so⟩
    have h1 := h.1
    unfold cTe at h1
    rw [Bool.or_eq_true] at h1
    rcases h1 with h1 | h1
    · exact st_plain so h1
    · cases a <;> first | (cases h1; done) | skip
      · rename_i o a
        cases o <;> first | (cases h1; done) | skip
        · rename_i b
          have h2 := h.2
          simp only [cE, c1] at h2
          obtain ⟨x, o, y, p, rfl, h0⟩ := cCmp_inv h2
          simp only [Bool.and_eq_true, decide_eq_true_eq] at h0
          obtain ⟨⟨rfl, h3⟩, h4⟩ := h0
          obtain ⟨k, q, rfl⟩ := isK_inv h3
          exact st_isNone (c_so h4 (cE_ok a sc x h4))
        · rename_i z b
          have h2 := h.2
          simp only [cE, c1] at h2
          obtain ⟨x, o, y, p, rfl, h0⟩ := cCmp_inv h2
          simp only [Bool.and_eq_true, decide_eq_true_eq] at h0
          obtain ⟨⟨rfl, h3⟩, h4⟩ := h0
          obtain ⟨k, q, rfl⟩ := isK_inv h3
          exact st_isBool (c_so h4 (cE_ok a sc x h4))
      · rename_i o a b
        have h1 : (copOf o).isSome = true := h1
        obtain ⟨op, ho⟩ := Option.isSome_iff_exists.mp h1
        have h2 := h.2
        simp only [cE] at h2
        obtain ⟨x, y, p, rfl, g1, g2, g3⟩ := c2_cmp ho h2
        exact st_cmp (isCmp_of ho) (c_so g2 (cE_ok a sc x g2)) (c_so g3 (cE_ok b sc y g3)) (oc_of ho) g1
      · rename_i o o' a b c
        have h2 := h.2
        simp only [cE] at h2
        split at h2
        · simp only [Bool.and_eq_true, decide_eq_true_eq, Bool.not_eq_true'] at h2
          obtain ⟨⟨⟨⟨⟨g1, g2⟩, g3⟩, g4⟩, g5⟩, g6⟩ := h2
          exact st_chain (isCmp_of g1) (isCmp_of g2) (c_so g4 (cE_ok a sc _ g4)) (c_so g5 (cE_ok b sc _ g5)) (c_so g6 (cE_ok c sc _ g6)) (oc_of g1) (oc_of g2) g3
        · cases h2
  | .not a, sc, ex, h => by
    simp only [cT] at h
    split at h
    · have q := cT_ok a sc _ h
      exact ⟨st_not q.st, sb_not q.sb⟩
    · cases h
  | .and a b, sc, ex, h => by
    simp only [cT] at h
    split at h
    · rename_i x y r p
      simp only [Bool.and_eq_true] at h
      rw [evalT_and]
      have q := cT_ok a sc x h.1
      cases r with
      | nil =>
        have q2 := cT_ok b sc y h.2
        exact ⟨(sw_and q.st (sw_and1 q2.st)).st, sb_and q.sb (sb_one q2.sb)⟩
      | cons z r =>
        have q2 := cT_ok b sc _ h.2
        exact ⟨(sw_and q.st (st_sw q2.st)).st, sb_and q.sb q2.sb⟩
    · cases h
  | .or a b, sc, ex, h => by
    simp only [cT] at h
    split at h
    · rename_i x y r p
      simp only [Bool.and_eq_true] at h
      rw [evalT_or]
      have q := cT_ok a sc x h.1
      cases r with
      | nil =>
        have q2 := cT_ok b sc y h.2
        exact ⟨(sw_or q.st (sw_or1 q2.st)).st, sb_or q.sb (sb_one q2.sb)⟩
      | cons z r =>
        have q2 := cT_ok b sc _ h.2
        exact ⟨(sw_or q.st (st_sw q2.st)).st, sb_or q.sb q2.sb⟩
    · cases h
  | .ite t a b, sc, ex, h => by
    simp only [cT] at h
    split at h
    · simp only [Bool.and_eq_true] at h
      have q := cT_ok t sc _ h.1.1
      have q1 := cT_ok a sc _ h.1.2
      have q2 := cT_ok b sc _ h.2
      exact ⟨st_ite q.st q1.st q2.st, sb_ite q.st q1.sb q2.sb⟩
    · cases h
theorem cCo_ok : ∀ (a : Co) (sc : Scope) (xs : List Expr), cCo N a sc xs = true → SCo N sc CX xs φ (evalC φ a)
  | .no, sc, xs, h => by
    simp only [cCo] at h
    split at h
    · exact sco_no
    · cases h
  | .yes t, sc, xs, h => by
    simp only [cCo] at h
    split at h
    · exact sco_yes (cT_ok t sc _ h).st
    · cases h
theorem cSrc_ok : ∀ (s : Src) (sc : Scope) (ex : Expr), cSrc N s sc ex = true → (∀ tg, (plS s = true ∨ isTup tg = true) → Srcs N sc CX tg ex φ (plS s) (evalSrc φ s)) ∧ (isRg s = true → RgS N sc CX ex φ (evalSrc φ s))
  | .seq a, sc, ex, h => by
    simp only [cSrc] at h
    exact ⟨fun tg _ => src_seq (sd_of (cE_ok a sc ex h)), fun z => by cases z⟩
  | .rng1 a, sc, ex, h => by
    simp only [cSrc] at h
    obtain ⟨p, x, q, rfl, h1, h2, h3⟩ := cCall1_inv h
    have e := sd_of (cE_ok a sc x h3)
    exact ⟨fun tg _ => src_rng1 h1 h2 e, fun _ => rgs1 h1 h2 e⟩
  | .rng2 a b, sc, ex, h => by
    simp only [cSrc] at h
    obtain ⟨p, x, y, q, rfl, h1, h2, h3, h4, h5⟩ := cCall2_inv h
    have e := sd_of (cE_ok a sc x h4)
    have e2 := sd_of (cE_ok b sc y h5)
    exact ⟨fun tg _ => src_rng2 h1 h2 h3 e e2, fun _ => rgs2 h1 h2 h3 e e2⟩
  | .rng3 a b c, sc, ex, h => by
    simp only [cSrc] at h
    obtain ⟨p, x, y, z, q, rfl, h1, h2, h3, h4, h5, h6, h7⟩ := cCall3_inv h
    have e := sd_of (cE_ok a sc x h5)
    have e2 := sd_of (cE_ok b sc y h6)
    have e3 := sd_of (cE_ok c sc z h7)
    exact ⟨fun tg _ => src_rng3 h1 h2 h3 h4 e e2 e3, fun _ => rgs3 h1 h2 h3 h4 e e2 e3⟩
  | .zip2 a b, sc, ex, h => by
    simp only [cSrc] at h
    obtain ⟨p, x, y, q, rfl, h1, h2, h3, h4, h5⟩ := cCall2_inv h
    refine ⟨fun tg ht => ?_, fun z => by cases z⟩
    rcases ht with z | z
    · cases z
    · cases tg <;> first | (cases z; done) | skip
      exact src_zip h1 h2 h3 (sd_of (cE_ok a sc x h4)) (sd_of (cE_ok b sc y h5))
  | .enum a, sc, ex, h => by
    simp only [cSrc] at h
    obtain ⟨p, x, q, rfl, h1, h2, h3⟩ := cCall1_inv h
    refine ⟨fun tg ht => ?_, fun z => by cases z⟩
    rcases ht with z | z
    · cases z
    · cases tg <;> first | (cases z; done) | skip
      exact src_enum h1 h2 (sd_of (cE_ok a sc x h3))
end
end
end Sw
end T_SwP
section T_SwQ
set_option autoImplicit false
set_option linter.all false
set_option Elab.async false
set_option maxRecDepth 100000
set_option maxHeartbeats 2000000
/-! SwQ: the check of statements, and that it is enough. -/
namespace Sw
open PySem L2
def isCompE : E → Bool | .comp _ _ _ _ _ => true | _ => false
def cLc (sc : Scope) (x : Str) (px : Pos) (a : E) (ex : Expr) : Bool := if isComp ex then isCompE a && (match ex with
  | .ListComp _ _ scope pos => decide (sc.names.lookup x = some .local) && (px.line == pos.line) && !(scope.names.any fun (n, k) => n == x && (k == .local || k == .cell))
  | _ => false) else true
def npr (pr : Nat → Bool) (l : List Nat) : Bool := l.all fun j => !pr j
mutual
def cS (N : List Str) (sc : Scope) (pr : Nat → Bool) : S → Stmt → Bool
  | .asg i a, st => (match st with | .Assign [.Name x px] ex _ => decide (N[i]? = some x) && isLoc sc x && !pr i && cE N a sc ex && cLc sc x px a ex | _ => false)
  | .asgT t a, st => (match st with | .Assign [.Tuple tgs c p] ex _ => cTg N (isLoc sc) t (.Tuple tgs c p) && npr pr (slotsT t) && !isTup ex && cE N a sc ex | _ => false)
  | .aug i o a, st => (match st with | .AugAssign (.Name x _) .Add ex _ => decide (o = .add) && decide (N[i]? = some x) && isLoc sc x && !pr i && cE N a sc ex | _ => false)
  | .st i ix a, st => (match st with | .Assign [.Subscript o iy _] ex _ => cName N sc i o && !isSl iy && cE N ix sc iy && cE N a sc ex | _ => false)
  | .st2 i ix j jx a b, st => (match st with | .Assign [.Tuple [.Subscript o ia _, .Subscript q ja _] _ _] (.Tuple [e1, e2] _ _) _ => cName N sc i o && cName N sc j q && !isSl ia && !isSl ja && noStar e1 && noStar e2 && cE N ix sc ia && cE N jx sc ja && cE N a sc e1 && cE N b sc e2 | _ => false)
  | .ex a, st => (match st with | .Expr ex _ => !isComp ex && cE N a sc ex | _ => false)
  | .ret a, st => (match st with | .Return (some ex) _ => cE N a sc ex | _ => false)
  | .retN, st => (match st with | .Return none _ => true | _ => false)
  | .iff t a b, st => (match st with | .If c as bs _ => cT N t sc c && cSs N sc pr a as && cSs N sc pr b bs | _ => false)
  | .forr t s b kill, st => (match st with | .For tg iter body [] _ => cTg N (isLoc sc) t tg && (plS s || (isP t && isTup tg)) && npr pr (slotsT t) && !isSetE iter && cSrc N s sc iter && cSs N sc pr b body | _ => false)
  | .whil t b kill, st => (match st with | .While c body [] _ => cT N t sc c && cSs N sc pr b body | _ => false)
  | .pass, st => (match st with | .Pass _ => true | _ => false)
  | .brk, st => (match st with | .Break _ => true | _ => false)
  | .cnt, st => (match st with | .Continue _ => true | _ => false)
  | .raise _, _ => false
def cSs (N : List Str) (sc : Scope) (pr : Nat → Bool) : Ss → List Stmt → Bool
  | .nil, l => (match l with | [] => true | _ => false)
  | .cons s r, l => (match l with | st :: lr => cS N sc pr s st && cSs N sc pr r lr | [] => false)
end
section
variable {N : List Str} {CX : CXT} {φ : Orc} {sc : Scope} {ex : Expr} {pr : Nat → Bool}
theorem npr_of {l : List Nat} (h : npr pr l = true) : ∀ j ∈ l, pr j = false := fun j hj => by
  have := List.all_eq_true.mp h j hj
  simpa using this
theorem sw_tup {tgs : List Expr} {c : Nat} {p : Pos} (env : PySem.Env) (l : Nat) : swapsWith ex (some (.Tuple tgs c p)) l env = pure false := by cases ex <;> rfl
theorem sp_tup {tgs : List Expr} {c : Nat} {p : Pos} (h : isTup ex = false) (env : PySem.Env) : swappedStores [.Tuple tgs c p] ex env = pure none := by
  cases ex <;> first | rfl | cases h
mutual
theorem cS_ok : ∀ (s : S) (st : Stmt), cS N sc pr s st = true → SS N sc CX pr st φ (exec φ s)
  | .asg i a, st, h => by
    simp only [cS] at h
    split at h
    · rename_i x px ex pos
      simp only [Bool.and_eq_true, decide_eq_true_eq, Bool.not_eq_true'] at h
      obtain ⟨⟨⟨⟨h1, h2⟩, h3⟩, h4⟩, h5⟩ := h
      by_cases hc : isComp ex = true
      · unfold cLc at h5
        rw [if_pos hc, Bool.and_eq_true] at h5
        obtain ⟨h6, h5⟩ := h5
        split at h5
        · rename_i el gs scope pos2
          simp only [Bool.and_eq_true, decide_eq_true_eq, Bool.not_eq_true'] at h5
          obtain ⟨⟨g1, g2⟩, g3⟩ := h5
          cases a <;> first | (cases h6; done) | skip
          rename_i own t s cond elt
          simp only [cE] at h4
          split at h4
          · rename_i el' tg iter ifs asy scope' pos3 heq
            cases heq
            simp only [Bool.and_eq_true, decide_eq_true_eq, Bool.not_eq_true', Bool.or_eq_true, List.all_eq_true] at h4
            obtain ⟨⟨⟨⟨⟨⟨⟨⟨rfl, f1⟩, f2⟩, f3⟩, f4⟩, f5⟩, f6⟩, f7⟩, f8⟩ := h4
            have := ss_setLc (CX := CX) (φ := φ) (pos := pos2) (spos := pos) (py := px) (t := t) (s := s) (cond := cond) (a := elt) (pl := plS s) h1 g1 h3 g2 g3 ((cSrc_ok s sc iter f6).1 tg (f2.imp id fun z => z.2)) (cTg_ok t tg f1) (f2.imp id fun z => z.1) (ownS := ownS N own) (fun j hj => by rw [ownS_snd]; simpa using f3 j hj) f4 f5
              (cCo_ok cond (relS scope sc) ifs f7) (sd_of (cE_ok elt (relS scope sc) _ f8))
            rw [ownS_snd] at this
            exact this
          · cases h4
        · cases h5
      · exact ss_asg h1 h2 h3 (by simpa using hc) (cE_ok a sc ex h4)
    · cases h
  | .asgT t a, st, h => by
    simp only [cS] at h
    split at h
    · simp only [Bool.and_eq_true, Bool.not_eq_true'] at h
      obtain ⟨⟨⟨h1, h2⟩, h3⟩, h4⟩ := h
      exact ss_asgT (fun X G => cTg_ok t _ h1 X G.tgt) (npr_of h2) sw_tup (sp_tup h3) (fun env => rfl) (sd_of (cE_ok a sc _ h4))
    · cases h
  | .aug i o a, st, h => by
    simp only [cS] at h
    split at h
    · simp only [Bool.and_eq_true, decide_eq_true_eq, Bool.not_eq_true'] at h
      obtain ⟨⟨⟨⟨rfl, h1⟩, h2⟩, h3⟩, h4⟩ := h
      exact ss_aug h1 h2 h3 (sd_of (cE_ok a sc _ h4))
    · cases h
  | .st i ix a, st, h => by
    simp only [cS] at h
    split at h
    · simp only [Bool.and_eq_true, Bool.not_eq_true'] at h
      obtain ⟨⟨⟨h1, h2⟩, h3⟩, h4⟩ := h
      obtain ⟨x, p, rfl, g1, g2, g3⟩ := cName_inv h1
      exact ss_st g1 g2 g3 (sd_of (cE_ok a sc _ h4)) (sd_of (cE_ok ix sc _ h3)) h2
    · cases h
  | .st2 i ix j jx a b, st, h => by
    simp only [cS] at h
    split at h
    · simp only [Bool.and_eq_true, Bool.not_eq_true'] at h
      obtain ⟨⟨⟨⟨⟨⟨⟨⟨⟨h1, h2⟩, h3⟩, h4⟩, h5⟩, h6⟩, h7⟩, h8⟩, h9⟩, h10⟩ := h
      obtain ⟨x, p, rfl, g1, g2, g3⟩ := cName_inv h1
      obtain ⟨y, q, rfl, f1, f2, f3⟩ := cName_inv h2
      exact ss_st2 g1 g2 g3 f1 f2 f3 (sd_of (cE_ok a sc _ h9)) (sd_of (cE_ok b sc _ h10)) (sd_of (cE_ok ix sc _ h7)) (sd_of (cE_ok jx sc _ h8)) h5 h6 h3 h4
    · cases h
  | .ex a, st, h => by
    simp only [cS] at h
    split at h
    · simp only [Bool.and_eq_true, Bool.not_eq_true'] at h
      exact ss_ex h.1 (cE_ok a sc _ h.2)
    · cases h
  | .ret a, st, h => by
    simp only [cS] at h
    split at h
    · exact ss_ret (cE_ok a sc _ h)
    · cases h
  | .retN, st, h => by
    simp only [cS] at h
    split at h
    · exact ss_retN
    · cases h
  | .iff t a b, st, h => by
    simp only [cS] at h
    split at h
    · simp only [Bool.and_eq_true] at h
      exact ss_iff (cT_ok t sc _ h.1.1).st (cSs_ok a _ h.1.2) (cSs_ok b _ h.2)
    · cases h
  | .forr t s b kill, st, h => by
    simp only [cS] at h
    split at h
    · simp only [Bool.and_eq_true, Bool.not_eq_true', Bool.or_eq_true] at h
      obtain ⟨⟨⟨⟨⟨h1, h2⟩, h3⟩, h4⟩, h5⟩, h6⟩ := h
      exact ss_for (pl := plS s) ((cSrc_ok s sc _ h5).1 _ (h2.imp id fun z => z.2)) (fun X G => cTg_ok t _ h1 X G.tgt) (h2.imp id fun z => z.1) (npr_of h3) h4 (cSs_ok b _ h6)
    · cases h
  | .whil t b kill, st, h => by
    simp only [cS] at h
    split at h
    · simp only [Bool.and_eq_true] at h
      exact ss_while (cT_ok t sc _ h.1).st (cSs_ok b _ h.2)
    · cases h
  | .pass, st, h => by
    simp only [cS] at h
    split at h
    · exact ss_pass
    · cases h
  | .brk, st, h => by
    simp only [cS] at h
    split at h
    · exact ss_brk
    · cases h
  | .cnt, st, h => by
    simp only [cS] at h
    split at h
    · exact ss_cnt
    · cases h
  | .raise c, st, h => by
    simp only [cS] at h
    cases h
theorem cSs_ok : ∀ (s : Ss) (l : List Stmt), cSs N sc pr s l = true → SSs N sc CX pr l φ (execs φ s)
  | .nil, l, h => by
    simp only [cSs] at h
    split at h
    · exact sss_nil
    · cases h
  | .cons s r, l, h => by
    simp only [cSs] at h
    split at h
    · simp only [Bool.and_eq_true] at h
      exact sss_cons (cS_ok s _ h.1) (cSs_ok r _ h.2)
    · cases h
end
end
end Sw
end T_SwQ
section T_SwR
set_option autoImplicit false
set_option linter.all false
set_option Elab.async false
set_option maxRecDepth 100000
set_option maxHeartbeats 2000000
/-! SwR: defs, levels of calls, the law's end. -/
namespace Sw
open PySem L2

/-! ### a def by its body, where no repr is under way -/
theorem fng_of {CX : CXT} {P : Program} {w : World} {K : Frag} {mg : Str → Option Value} {base : Heap} {lv : Nat} {fa : Addr} {nm : Str} {st : Stmt} {fd : FuncData} {N ps : List Str} {sp : Sp} (Fn : Fun K nm nm st fa fd) (S : FnScope N ps (defScope st))
    (cnt : ∀ vs H Q E, sp vs H Q E → vs.length = ps.length)
    (run : ∀ (cd : Value) (A : Around) (outer : List PySem.Env) (s : Shared) (H : Hp) (vs : List L2.V) (Q : VK) (E : XK), A.guards = some [] → Room lv (A.deeper (PyProof.Rows.envOfC nm (defScope st) s.heap.objs.size fa cd)) → sp vs H Q E →
      RSs (cxOf CX P w K mg base N nm (defScope st) fa cd A outer s H E).nox (defBody st) { nx := fun _ H' => Q .non H', rt := Q } (L2.start N vs) H) : FnG P w K mg base CX (lv + 1) fa fd ps sp := by
  obtain ⟨oc, od, kV, doc, pm, an, cd, ct, osl, rfl, hl, hc⟩ := Fn.ex
  refine ⟨cnt, fun A outer s H args us vs Q E hg room e0 bt rel hs => ?_⟩
  have hn := cnt _ _ _ _ hs
  have kin : K.In s.heap := e0.mod.kin.keeps fun a u q => (e0.bs a u q).1
  have noLim : s.heap.NoLimit := e0.mod.nolimit.keeps fun a u q => (e0.bs a u q).1
  refine codeAny_call_function room.depth (kin _ _ hl) rfl S.co S.gen rfl (PySem.W.codeRec_of kin hc) (bt _ _ _ _ ?_)
  refine wpAny_newFunctionEnv_cells S.kind (fun z hz => ?_) fun fe he s' ic => ?_
  · obtain ⟨y, u⟩ := z
    rcases S.par y (List.of_mem_zip hz).1 with g | g
    · exact .inl g
    · exact .inr ⟨g, PySem.W.cellsFrom_some _ _ _ (.inl g)⟩
  · subst he
    refine ⟨noLim.keeps ic.toInCall.keep, codeAny_func ?_⟩
    have I := inv_start (CX := CX) (E := E) S room.hd e0 hn rel ic
    have body := run cd A outer s H vs Q E hg (room.deeper _) hs [] s' (I.wish _)
    refine wpAny_mono body (fun fl t q => ?_) fun _ _ q => q.elim
    have q := q.unwish
    cases fl with
    | ret u =>
      obtain ⟨v, σ', H', J, rv, z⟩ := q
      exact ⟨v, H', J.os, J.bare, J.base, J.hok, rv, z⟩
    | next =>
      obtain ⟨σ', H', J, z⟩ := q
      exact ⟨.non, H', J.os, J.bare, J.base, J.hok, rfl, z⟩
    | brk => obtain ⟨_, _, _, z⟩ := q; exact z.elim
    | cont => obtain ⟨_, _, _, z⟩ := q; exact z.elim

/-! ### the frame at the start and at the end -/
section
variable {K : Frag} {F H : Hp} {vs : List L2.V} {args : List V} {N : List Str}
theorem start_lt {i : Nat} (h : i < vs.length) : (L2.start N vs)[i]? = (vs.map some)[i]? := by
  unfold L2.start
  rw [List.getElem?_append_left (by rw [List.length_map]; exact h)]
theorem get_app {m i : Nat} : get (args ++ List.replicate m .u) i = get args i := by
  unfold get
  rw [List.getD_eq_getElem?_getD, List.getD_eq_getElem?_getD]
  by_cases h : i < args.length
  · rw [List.getElem?_append_left h]
  · rw [List.getElem?_append_right (by omega), List.getElem?_eq_none (l := args) (by omega), List.getElem?_replicate]
    split <;> rfl
theorem own_start {m : Nat} {a : Addr} (hl : vs.length = args.length) (h : Own (L2.start N vs) (args ++ List.replicate m .u) a) : Own (vs.map some) args a := by
  obtain ⟨i, h1, h2⟩ := h
  rw [get_app] at h1
  have hi : i < vs.length := by
    by_cases z : i < vs.length
    · exact z
    · rw [get_ge (by omega)] at h1; cases h1
  rw [start_lt hi] at h2
  exact ⟨i, h1, h2⟩
theorem rel_start {m : Nat} (hl : vs.length = args.length) (r : Rel K F H (vs.map some) args) : Rel K F H (L2.start N vs) (args ++ List.replicate m .u) := by
  have lt : ∀ i, isOwn (get args i) = true → i < vs.length := fun i h => by
    by_cases z : i < vs.length
    · exact z
    · rw [get_ge (by omega)] at h; cases h
  refine ⟨r.sub, fun i => ?_, fun i j a h1 h2 h3 h4 => ?_⟩
  · rw [get_app]
    by_cases z : i < vs.length
    · rw [start_lt z]; exact r.slot i
    · rw [get_ge (by omega)]; trivial
  · rw [get_app] at h1 h2
    rw [start_lt (lt i h1)] at h3
    rw [start_lt (lt j h2)] at h4
    exact r.sep i j a h1 h2 h3 h4
def prF (fd : FDef) (i : Nat) : Bool := decide (i < fd.np) && !fd.wp.contains i
theorem get_take {e : Env} {n i : Nat} : get (e.take n) i = if i < n then get e i else .u := by
  unfold get
  rw [List.getD_eq_getElem?_getD, List.getD_eq_getElem?_getD, List.getElem?_take]
  split <;> rfl
/-- the outs of a def -/
theorem post_end {F' H' : Hp} {m : Nat} {fd : FDef} {σ' : L2.St} {e' : Env} (hl : vs.length = args.length) (hn : fd.np = args.length) (p : Post K F H (L2.start N vs) (args ++ List.replicate m .u) F' H' σ' e') (kp : Kept (prF fd) (L2.start N vs) σ') :
    Post K F H (vs.map some) args F' H' (vs.map some) (killAll fd.wp (e'.take fd.np)) ∧ ∀ a, Own (vs.map some) (killAll fd.wp (e'.take fd.np)) a → Own σ' e' a := by
  have slot : ∀ i, get (killAll fd.wp (e'.take fd.np)) i = .u ∨ (get (killAll fd.wp (e'.take fd.np)) i = get e' i ∧ (vs.map some)[i]? = σ'[i]?) := fun i => by
    rcases get_kill (l := fd.wp) (e := e'.take fd.np) (i := i) with z | ⟨z1, z2⟩
    · exact .inl z
    · rw [get_take] at z1
      split at z1
      · rename_i hi
        refine .inr ⟨z1, ?_⟩
        have := kp i (by unfold prF; simp [hi, z2])
        rw [this, start_lt (by omega)]
      · exact .inl z1
  have ow : ∀ i, isOwn (get (killAll fd.wp (e'.take fd.np)) i) = true → isOwn (get e' i) = true ∧ (vs.map some)[i]? = σ'[i]? := fun i h => by
    rcases slot i with z | ⟨z1, z2⟩
    · rw [z] at h; cases h
    · rw [z1] at h; exact ⟨h, z2⟩
  have own' : ∀ a, Own (vs.map some) (killAll fd.wp (e'.take fd.np)) a → Own σ' e' a := fun a ⟨i, h1, h2⟩ => by
    obtain ⟨o1, o2⟩ := ow i h1
    rw [o2] at h2
    exact ⟨i, o1, h2⟩
  refine ⟨⟨p.grow, ⟨p.rel.sub, fun i => ?_, fun i j a h1 h2 h3 h4 => ?_⟩, fun a o h n => p.keep a o h fun z => n (own_start hl z), fun a h => ?_, p.dom, fun a h => ?_⟩, own'⟩
  · rcases slot i with z | ⟨z1, z2⟩
    · rw [z]; trivial
    · rw [z1, z2]; exact p.rel.slot i
  · obtain ⟨o1, q1⟩ := ow i h1
    obtain ⟨o2, q2⟩ := ow j h2
    rw [q1] at h3
    rw [q2] at h4
    exact p.rel.sep i j a o1 o2 h3 h4
  · rcases p.new a h with z | z | z
    · exact .inl z
    · exact .inr (.inl z)
    · exact .inr (.inr (own_start hl z))
  · rcases p.own a (own' a h) with z | z
    · exact .inl (own_start hl z)
    · exact .inr z
end

/-! ### the table of defs -/
structure DefAt (K : Frag) (mg : Str → Option Value) (f : String) (fd : FDef) (st : Stmt) (N ps : List Str) (fa : Addr) (FD : FuncData) : Prop where
  fn : Fun K (Str.ofString f) (Str.ofString f) st fa FD
  binds : Binds K FD ps []
  mg : mg (Str.ofString f) = some (.ref fa)
  scope : FnScope N ps (defScope st)
  ok : cSs N (defScope st) (prF fd) fd.body (defBody st) = true
  np : fd.np = ps.length
def ConAt (K : Frag) (mg : Str → Option Value) (T : Tab) (f s : String) : Prop := ∃ d v u, (∀ m args p, callF T (m + 1) f args = .ok p → p.1 = V.d d) ∧ mg (Str.ofString s) = some u ∧ RelV v u ∧ ∀ F, Rp K F v d
def TabOk (K : Frag) (mg : Str → Option Value) (T : Tab) : Prop := ∀ f fd, T f = some fd → (isCon f = none → ∃ st N ps fa FD, DefAt K mg f fd st N ps fa FD) ∧ ∀ s, isCon f = some s → ConAt K mg T f s
theorem not_con {f : String} (h : isCon f = none) {P : String → Prop} : ∀ s, isCon f = some s → P s := fun s hs => by rw [h] at hs; cases hs
theorem con_at {f s : String} (h : isCon f = some s) {P : String → Prop} (hp : P s) : ∀ t, isCon f = some t → P t := fun t ht => by rw [h] at ht; cases ht; exact hp
theorem call_inv {T : Tab} {n : Nat} {f : String} {args : List V} {p : V × List V} (h : callF T n f args = .ok p) : ∃ m fd, n = m + 1 ∧ T f = some fd ∧ args.length = fd.np ∧ endF fd (execs (callF T m) fd.body (args ++ List.replicate (fd.nv - fd.np) .u)) = .ok p := by
  cases n with
  | zero => simp only [callF] at h; cases h
  | succ m =>
    simp only [callF] at h
    split at h
    · rename_i fd hT
      split at h
      · rename_i hl
        exact ⟨m, fd, rfl, hT, hl, h⟩
      · cases h
    · cases h
theorem con_val {T : Tab} {f : String} {fd : FDef} {d : D} {m : Nat} {args : List V} {p : V × List V} (hT : T f = some fd) (h0 : fd.np = 0) (hv : ∀ φ : Orc, endF fd (execs φ fd.body ([] ++ List.replicate (fd.nv - fd.np) .u)) = .ok (.d d, [])) (h : callF T (m + 1) f args = .ok p) : p.1 = V.d d := by
  obtain ⟨m', fd', _, hT', hl, hE⟩ := call_inv h
  rw [hT] at hT'; cases hT'
  have : args = [] := List.length_eq_zero_iff.mp (by omega)
  subst this
  rw [hv] at hE
  cases hE
  rfl
theorem lev {P : Program} {w : World} {K : Frag} {mg : Str → Option Value} {base : Heap} {T : Tab} (TO : TabOk K mg T) (hb : ∀ b ∈ blts, mg (Str.ofString b) = none) :
    ∀ (n : Nat) (f : String) (fd : FDef) (st : Stmt) (N ps : List Str) (fa : Addr) (FD : FuncData), T f = some fd → DefAt K mg f fd st N ps fa FD → FnG P w K mg base CX0 n fa FD ps (SpOf K (callF T n) f)
  | 0, f, fd, st, N, ps, fa, FD, hT, D => by
    have no : ∀ vs H Q E, ¬ SpOf K (callF T 0) f vs H Q E := fun vs H Q E ⟨args, w', outs, F, h, _⟩ => by
      obtain ⟨m, _, z, _⟩ := call_inv h
      omega
    exact ⟨fun vs H Q E h => (no vs H Q E h).elim, fun A outer s H args us vs Q E _ _ _ _ _ h => (no vs H Q E h).elim⟩
  | n + 1, f, fd, st, N, ps, fa, FD, hT, D => by
    have shape : ∀ vs H Q E, SpOf K (callF T (n + 1)) f vs H Q E → vs.length = ps.length := fun vs H Q E ⟨args, w', outs, F, h, hl, _⟩ => by
      obtain ⟨m, fd', z, hT', hn, _⟩ := call_inv h
      rw [hT] at hT'; cases hT'
      rw [hl, hn, D.np]
    refine fng_of D.fn D.scope shape fun cd A outer s H vs Q E hg room hsp => ?_
    obtain ⟨args, w', outs, F, h, hl, rel, q⟩ := hsp
    obtain ⟨m, fd', z, hT', hn, hE⟩ := call_inv h
    rw [hT] at hT'; cases hT'
    have hm : m = n := by omega
    subst hm
    have units : (A.deeper (PyProof.Rows.envOfC (Str.ofString f) (defScope st) s.heap.objs.size fa cd)).units + 200 < cLine := by have := room.un; omega
    have G : GoodS N (defScope st) CX0 (cxOf CX0 P w K mg base N (Str.ofString f) (defScope st) fa cd A outer s H E).nox (callF T m) := by
      refine ⟨⟨rfl, D.scope.nd, rfl, rfl, hg, units, hb, fun _ _ _ _ _ z => z, fun g s as p hs hp => ?_, fun g as p hg0 hp => ?_⟩, fun _ _ => rfl, fun _ _ z => z, D.scope.kind⟩
      · obtain ⟨m', fd2, z, hT2, _⟩ := call_inv hp
        obtain ⟨d, v, u, g1, g2, g3, g4⟩ := (TO g fd2 hT2).2 s hs
        rw [z] at hp
        exact ⟨d, v, u, g1 m' as p hp, g2, g3, g4⟩
      obtain ⟨m', fd2, z, hT2, _⟩ := call_inv hp
      obtain ⟨st2, N2, ps2, fa2, FD2, D2⟩ := (TO g fd2 hT2).1 hg0
      exact ⟨fa2, FD2, ps2, m, lev TO hb m g fd2 st2 N2 ps2 fa2 FD2 hT2 D2, room, D2.mg, D2.fn.kp, D2.binds⟩
    refine cSs_ok fd.body (defBody st) D.ok _ G (args ++ List.replicate (fd.nv - fd.np) Sw.V.u) F H (L2.start N vs) _ (rel_start hl rel) ?_
    have fin : ∀ {v w2 e' σ' F' H'}, Post K F H (L2.start N vs) (args ++ List.replicate (fd.nv - fd.np) .u) F' H' σ' e' → Kept (prF fd) (L2.start N vs) σ' → ResR K F' H' σ' e' w2 v → From H (L2.start N vs) (args ++ List.replicate (fd.nv - fd.np) .u) w2 v →
        w2 = w' → killAll fd.wp (e'.take fd.np) = outs → Q v H' := fun {v w2 e' σ' F' H'} p kp r fr e1 e2 => by
      subst e1 e2
      obtain ⟨p', ow⟩ := post_end hl hn.symm p kp
      refine q v F' H' p' ?_ ?_
      · cases w2 with
        | u => exact r
        | k _ => exact r
        | d x => exact r
        | c xs =>
          obtain ⟨a, us, h1, h2, h3, h4, h5⟩ := r
          exact ⟨a, us, h1, h2, h3, h4, fun z => h5 (ow a z)⟩
      · cases w2 with
        | c xs =>
          intro a ha
          rcases fr a ha with z | z
          · exact .inl z
          · exact .inr (own_start hl z)
        | u => trivial
        | k _ => trivial
        | d _ => trivial
    revert hE
    cases execs (callF T m) fd.body (args ++ List.replicate (fd.nv - fd.np) .u) with
    | nx e' =>
      intro hE
      cases hE
      exact fun σ' F' H' p kp => fin p kp (w2 := .d .none) .non trivial rfl rfl
    | rt w2 e' =>
      intro hE
      cases hE
      exact fun v σ' F' H' p kp r fr => fin p kp r fr rfl rfl
    | bk e' => intro hE; cases hE
    | ct e' => intro hE; cases hE
    | exc c => intro hE; cases hE
    | bad => intro hE; cases hE
end Sw
end T_SwR
section T_SwS
set_option autoImplicit false
set_option linter.all false
set_option Elab.async false
set_option maxRecDepth 100000
set_option maxHeartbeats 2000000
/-! SwS: the law's end. -/
namespace Sw
open PySem L2
theorem room_caller {k : Nat} (h : k ≤ 40) : Room k callerA := by
  have d : callerA.depth + 3 * 40 + 5 < recursionLimit := by decide +kernel
  have u : callerA.units + 16 * 40 + 200 < cLine := by decide +kernel
  exact ⟨rfl, by omega, by omega⟩
theorem ints_rp {K : Frag} {F : Hp} (ns : List Int) : RpAll K F (ns.map L2.V.int) (ns.map PyData.int) := rpAll_ints
theorem end_call {P : Program} {w : World} {K : Frag} {mg mb : Str → Option Value} {k : Nat} {fa sa : Addr} {FD : FuncData} {x : Str} {T : Tab} {S1 : Shared} {items : List Value} {ns : List Int}
    (kin : K.In S1.heap) (gl : S1.heap.Ns mainGlobals mg) (bl : S1.heap.Ns builtinsNs mb) (bb : ∀ y : Str, y ≠ "__name__" → mb y = bootBuiltins y) (nl : S1.heap.NoLimit) (gens : S1.gens = #[])
    (obj : S1.heap.get? sa = some { cls := .type "list", data := .seq items.toArray }) (intz : PyProof.Rows.IntsAre items ns) (short : ns.length ≤ sizeLine) (rm : Room k callerA)
    (fn : ∀ B : Heap, K.In B → B.Ns mainGlobals mg → FnG P w K mg B CX0 k fa FD [x] (SpOf K (callF T k) "law")) (bt : ∀ (t : Shared) (u : Value), BindsTo t FD ⟨[u], []⟩ [(x, u)])
    (val : ∃ outs, callF T k "law" [.d (.list (ns.map .int))] = .ok (.d (.bool true), outs)) :
    codeAny (model P w) callerA (.call (.ref fa) ⟨[.ref sa], []⟩) (fun r t => r = .ok (.ret (.bool true)) ∧ OldK S1.heap t.heap ∧ t.os = S1.os ∧ PyProof.Rows.AllBare t.gens) S1 := by
  have rv := vals_ints intz
  have il := intz.length
  obtain ⟨outs, hval⟩ := val
  have go : ∀ Hx : Hp, Only Hx → SqL K Hx sa (ns.map L2.V.int) → HOk P w Hx S1.heap → (∀ b, Hx b ≠ none → b = sa) → (Hx sa ≠ none → K.lookup sa = none) →
      codeAny (model P w) callerA (.call (.ref fa) ⟨[.ref sa], []⟩) (fun r t => r = .ok (.ret (.bool true)) ∧ OldK S1.heap t.heap ∧ t.os = S1.os ∧ PyProof.Rows.AllBare t.gens) S1 := by
    intro Hx only sq ok one out
    have keepB : ∀ {b : Addr} {o : Obj}, S1.heap.get? b = some o → Hx b = none → (hidT S1.heap Hx).get? b = some o := fun g z => hidT_get g z
    have dictB : ∀ {b : Addr} {o : Obj} {es : Array DictEntry} {ep : Nat}, S1.heap.get? b = some o → o.data = .dict es ep → Hx b = none := fun {b o es ep} g d => by
      cases z : Hx b with
      | none => rfl
      | some u =>
        have hb := one b (by rw [z]; simp)
        subst hb
        rw [obj] at g; cases g
        cases (show Data.seq items.toArray _ = Data.dict es ep from d)
    have nsB : ∀ {b : Addr} {m : Str → Option Value}, S1.heap.Ns b m → (hidT S1.heap Hx).Ns b m := fun {b m} ⟨o, es, ep, g, d, r⟩ => ⟨o, es, ep, keepB g (dictB g d), d, r⟩
    have kinB : K.In (hidT S1.heap Hx) := fun b o g => keepB (kin b o g) (by
      cases z : Hx b with
      | none => rfl
      | some u =>
        have hb := one b (by rw [z]; simp)
        subst hb
        rw [out (by rw [z]; simp)] at g; cases g)
    obtain ⟨mc, nl1, nl2⟩ := nl
    have md : Mod K mg (hidT S1.heap Hx) := ⟨kinB, nsB gl, ⟨mb, nsB bl, bb⟩, ⟨mc, nsB nl1, nl2⟩⟩
    have ee : Env0 P w K mg (hidT S1.heap Hx) callerA [] S1 Hx := by
      refine ⟨rfl, md, fun b o g => of_hidT g, Nat.le_of_eq (hidT_size _ _), trivial, ?_, ok, .of_eq gens⟩
      intro b hb
      cases (show b ∈ ([] : List Addr) from hb)
    have slot : Rel K Hx Hx ([L2.V.ref sa].map some) [.d (.list (ns.map .int))] := by
      refine ⟨Sub.refl _, fun i => ?_, fun i j b h1 => ?_⟩
      · cases i with
        | zero => exact ⟨_, rfl, .lst sq (ints_rp ns)⟩
        | succ i => rw [get_ge (by simp)]; trivial
      · cases i with
        | zero => cases h1
        | succ i => rw [get_ge (by simp)] at h1; cases h1
    have sp : SpOf K (callF T k) "law" [L2.V.ref sa] Hx (fun v _ => v = .bl true) (fun _ _ _ => False) := ⟨_, _, _, Hx, hval, rfl, slot, fun v F' H' _ r _ => by cases r; rfl⟩
    refine codeAny_mono ((fn _ kinB (nsB gl)).go callerA [] S1 Hx ⟨[.ref sa], []⟩ [.ref sa] [.ref sa] _ _ rfl rm ee (bt S1 (.ref sa)) (.cons rfl .nil) sp) fun r t hr => ?_
    cases r with
    | error er => exact hr.elim
    | ok fl =>
      cases fl with
      | ret u =>
        obtain ⟨v, H', c1, c2, c3, c4, c5, c6⟩ := hr
        have c6 : v = .bl true := c6
        subst c6
        cases (show u = Value.bool true from c5)
        refine ⟨rfl, OldK.of_keep fun b o g => ?_, c1, c2⟩
        cases z : Hx b with
        | none =>
          refine c3.keep b o g z (fun y => ?_) (by simp)
          cases (show b ∈ ([] : List Addr) from y)
        | some u =>
          rcases only b with y | ⟨ob, xs, y⟩
          · rw [z] at y; cases y
          · have old := (ok b _ y).1
            rw [g] at old; cases old
            exact (c4 b _ (c3.frzs b _ _ y)).1
      | next => exact hr.elim
      | brk => exact hr.elim
      | cont => exact hr.elim
  by_cases hk : ∃ o, K.lookup sa = some o
  · obtain ⟨o, hk⟩ := hk
    have g := kin sa o hk
    rw [obj] at g
    cases g
    refine go (fun _ => none) (fun _ => .inl rfl) (.inr ⟨_, items.toArray, _, hk, rfl, rfl, rfl, ?_, by simpa using rv⟩) (fun b u y => by cases (show (none : Option HO) = some u from y)) (fun b y => (y rfl).elim) fun y => (y rfl).elim
    rw [List.size_toArray, il]; exact short
  · have hk' : K.lookup sa = none := by
      cases z : K.lookup sa with
      | none => rfl
      | some o => exact absurd ⟨o, z⟩ hk
    have self : (fun b => if b = sa then some (HO.frz { cls := .type "list", data := .seq items.toArray } (.lst (ns.map L2.V.int))) else none) sa = some (HO.frz { cls := .type "list", data := .seq items.toArray } (.lst (ns.map L2.V.int))) := if_pos rfl
    refine go (fun b => if b = sa then some (HO.frz { cls := .type "list", data := .seq items.toArray } (.lst (ns.map L2.V.int))) else none) (fun b => ?_) (.inl (.inr ⟨_, self⟩)) (fun b u y => ?_) (fun b y => ?_) fun _ => hk'
    · by_cases hb : b = sa
      · subst hb; exact .inr ⟨_, _, self⟩
      · exact .inl (if_neg hb)
    · by_cases hb : b = sa
      · subst hb
        rw [self] at y
        cases y
        exact ⟨obj, by rw [List.length_map]; exact short, items, _, rv, obj⟩
      · cases (if_neg hb).symm.trans y
    · exact Classical.byContradiction fun hb => y (if_neg hb)
/-- what the goal of k_head asks, from the table of defs and the core's answer -/
theorem end_walk {l : PySem.W.OpenLaw} {n k : Nat} {q : Program} {loose : List Str} {XP : (Str → Option Value) → Heap → Prop} {YP : World → Heap → Prop} {d : DefRec} {Kf : Params → Frag} {T : Tab} {lawD : FDef} {lawS : Stmt} {NL : List Str} {x : Str}
    (most : l.most = some n) (short : n ≤ sizeLine) (dflt : d.params.defaults = []) (hk : k ≤ 40) (isY : ∀ (w : World) (h : Heap), YP w h → (Kf w.params).In h) (dn : d.name = Str.ofString "law")
    (tab : ∀ (w : World) (mg : Str → Option Value) (h : Heap), (Kf w.params).In h → h.Ns mainGlobals mg → TabOk (Kf w.params) mg T ∧ (∀ b ∈ blts, mg (Str.ofString b) = none) ∧ T "law" = some lawD ∧ ∃ fa FD, DefAt (Kf w.params) mg "law" lawD lawS NL [x] fa FD ∧ ∀ (t : Shared) (u : Value), BindsTo t FD ⟨[u], []⟩ [(x, u)])
    (val : ∀ ns : List Int, ns.length ≤ n → ∃ outs, callF T k "law" [.d (.list (ns.map .int))] = .ok (.d (.bool true), outs)) :
    PySem.W.WalkO q loose XP YP l.row.toRowW d [] (fun f vs => PySem.call f vs) := by
  refine Att.attach_call most dflt fun w s0 S1 mg mb fa o pm cd doc sa items ns G Y ho hd hcd hmg obj intz len gens => ?_
  have kin := isY w _ Y
  obtain ⟨TO, hb, hT, fa', FD, D, bt⟩ := tab w mg _ kin G.T.g
  have e := hmg
  rw [dn, D.mg] at e
  cases e
  exact end_call kin G.T.g G.T.b G.T.builtins G.T.nolimit gens obj intz (Nat.le_trans len short) (room_caller hk) (fun B _ _ => lev TO hb k "law" lawD lawS NL [x] fa FD hT D) bt (val ns len)
end Sw
end T_SwS
section T_SwU
set_option autoImplicit false
set_option linter.all false
set_option maxRecDepth 100000
/-! SwU: plain facts about the core, and the helpers that many laws share. -/
namespace Sw
open PySem

theorem call_eq {T : Tab} {n : Nat} {f : String} {fd : FDef} {as : List V} (h : T f = some fd) (hl : as.length = fd.np) : callF T (n + 1) f as = endF fd (execs (callF T n) fd.body (as ++ List.replicate (fd.nv - fd.np) .u)) := by
  simp only [callF, h, hl, if_true]

/-! ### comprehensions and loops by what stays true -/
theorem compL_inv {f : D → Env → R (Option D × Env)} {own : List Nat} (P : List D → List D → Env → Prop) (step : ∀ x r acc e, P (x :: r) acc e → ∃ od e', f x e = .ok (od, e') ∧ P r (acc ++ od.toList) (killAll own e')) :
    ∀ (xs acc : List D) (e : Env), P xs acc e → ∃ ys e', compL f own xs e = .ok (ys, e') ∧ P [] (acc ++ ys) e'
  | [], acc, e, h => ⟨[], e, rfl, by simpa using h⟩
  | x :: r, acc, e, h => by
    obtain ⟨od, e1, h1, h2⟩ := step x r acc e h
    obtain ⟨ys, e2, h3, h4⟩ := compL_inv P step r _ _ h2
    exact ⟨od.toList ++ ys, e2, by simp [compL, h1, h3], by simpa using h4⟩
/-- a comprehension that makes of each item one -/
theorem compL_map {f : D → Env → R (Option D × Env)} {own : List Nat} {e : Env} (g : D → D) : ∀ (xs : List D), (∀ x ∈ xs, ∃ e', f x e = .ok (some (g x), e') ∧ killAll own e' = e) → compL f own xs e = .ok (xs.map g, e)
  | [], _ => rfl
  | x :: r, h => by
    obtain ⟨e1, h1, h2⟩ := h x List.mem_cons_self
    have ih := compL_map (f := f) (own := own) (e := e) g r fun y hy => h y (List.mem_cons_of_mem _ hy)
    simp [compL, h1, h2, ih]
theorem forL_inv {f : D → Env → SR} {kill : List Nat} (P : List D → Env → Prop) (step : ∀ x r e, P (x :: r) e → ∃ e', (f x e = .nx e' ∨ f x e = .ct e') ∧ P r (killAll kill e')) : ∀ (xs : List D) (e : Env), P xs e → ∃ e', forL f kill xs e = .nx e' ∧ P [] e'
  | [], e, h => ⟨e, rfl, h⟩
  | x :: r, e, h => by
    obtain ⟨e1, h1, h2⟩ := step x r e h
    obtain ⟨e2, h3, h4⟩ := forL_inv P step r _ h2
    refine ⟨e2, ?_, h4⟩
    rcases h1 with h1 | h1 <;> simp [forL, h1, h3]
/-! ### lists of numbers as data -/
def natD (n : Nat) : D := .int (n : Int)
def natsD (ns : List Nat) : List D := ns.map natD
def tupN (ns : List Nat) : D := .tuple (natsD ns)
theorem natsD_len (ns : List Nat) : (natsD ns).length = ns.length := List.length_map _
theorem natsD_get (ns : List Nat) (i : Nat) : (natsD ns)[i]? = (ns[i]?).map natD := List.getElem?_map ..
theorem rangeD_nat (n : Nat) : rangeD 0 n 1 = natsD (List.range n) := by
  unfold rangeD natsD natD
  refine List.map_congr_left fun i _ => ?_
  simp
theorem eqv_natsD : ∀ ns ms : List Nat, PyData.eqvAll (natsD ns) (natsD ms) = decide (ns = ms)
  | [], [] => rfl
  | [], _ :: _ => rfl
  | _ :: _, [] => rfl
  | x :: xs, y :: ys => by
    have ih := eqv_natsD xs ys
    show (PyData.eqv (natD x) (natD y) && PyData.eqvAll (natsD xs) (natsD ys)) = _
    rw [ih]
    have e : PyData.eqv (natD x) (natD y) = decide (x = y) := by
      show ((x : Int) == (y : Int)) = decide (x = y)
      by_cases h : x = y
      · subst h; simp
      · have : ¬ (x : Int) = (y : Int) := by omega
        simp [h, this]
    rw [e, ← Bool.decide_and]
    congr 1
    simp
theorem canLay_natsD : ∀ ns : List Nat, PyData.canLayAll0 (natsD ns) = true
  | [] => rfl
  | x :: r => by
    have := canLay_natsD r
    show (PyData.canLay0 (natD x) && PyData.canLayAll0 (natsD r)) = true
    rw [this]; rfl
theorem depth_natsD : ∀ ns : List Nat, PyData.depthAll (natsD ns) ≤ 1
  | [] => by simp [natsD, PyData.depthAll]
  | x :: r => by
    have := depth_natsD r
    show PyData.depthAll (natD x :: natsD r) ≤ 1
    simp only [PyData.depthAll, natD, PyData.depth]
    omega
theorem shaped_tupN (ns : List Nat) : shapedB (tupN ns) = true := by
  have h1 := canLay_natsD ns
  have h2 := depth_natsD ns
  unfold shapedB tupN
  simp only [PyData.canLay0, PyData.depth, h1, Bool.true_and]
  exact decide_eq_true (by omega)
@[simp] theorem eqD_tupN (ns ms : List Nat) : eqD (tupN ns) (tupN ms) = some (decide (ns = ms)) := by
  show (if shapedB (tupN ns) && shapedB (tupN ms) then some ((tupN ns).eqv (tupN ms)) else none) = _
  rw [shaped_tupN, shaped_tupN]
  show some (PyData.eqvAll (natsD ns) (natsD ms)) = _
  rw [eqv_natsD]
theorem okRepr_tupN {ns : List Nat} (hl : ns.length ≤ 10000) (hs : ∀ n ∈ ns, n < 1000000) : okRepr (tupN ns) = true := by
  have h1 := canLay_natsD ns
  have h2 := depth_natsD ns
  have h3 : PyData.showableAll (natsD ns) = true := by
    clear hl h1 h2
    induction ns with
    | nil => rfl
    | cons x r ih =>
      show (PyData.showable (natD x) && PyData.showableAll (natsD r)) = true
      rw [ih fun n hn => hs n (List.mem_cons_of_mem _ hn)]
      have hx := hs x List.mem_cons_self
      have : PyData.showable (natD x) = true := by
        show decide (((x : Nat) : Int).natAbs.log2 < 1920) = true
        rw [decide_eq_true_eq, Int.natAbs_natCast]
        by_cases h0 : x = 0
        · subst h0; decide
        · have : x.log2 < 20 := (Nat.log2_lt h0).mpr (by omega)
          omega
      rw [this]; rfl
  have h4 : PyData.weightAll (natsD ns) ≤ 21 * ns.length := by
    clear hl h1 h2 h3
    induction ns with
    | nil => simp [natsD, PyData.weightAll]
    | cons x r ih =>
      have ih := ih fun n hn => hs n (List.mem_cons_of_mem _ hn)
      have hx := hs x List.mem_cons_self
      show PyData.weightAll (natD x :: natsD r) ≤ _
      simp only [PyData.weightAll, natD, PyData.weight, List.length_cons, Int.natAbs_natCast]
      split
      · omega
      · rename_i h0
        have h0' : x ≠ 0 := fun z => h0 (by subst z; rfl)
        have : x.log2 < 20 := (Nat.log2_lt h0').mpr (by omega)
        omega
  have h5 : PyData.intsShortAll 13 (natsD ns) = true := by
    clear hl h1 h2 h3 h4
    induction ns with
    | nil => rfl
    | cons x r ih =>
      show (PyData.intsShort 13 (natD x) && PyData.intsShortAll 13 (natsD r)) = true
      rw [ih fun n hn => hs n (List.mem_cons_of_mem _ hn)]
      have hx := hs x List.mem_cons_self
      have : PyData.intsShort 13 (natD x) = true := by
        show decide ((PyData.shown (.int (x : Int))).length ≤ 13) = true
        rw [decide_eq_true_eq]
        have := int_text_length_le10 (a := (x : Int)) (k := 6) (by decide) (by simpa using hx)
        simp only [PyData.shown]
        rw [ofString_length]
        omega
      rw [this]; rfl
  unfold okRepr tupN
  simp only [PyData.showable, PyData.depth, PyData.canLay0, PyData.weight, PyData.intsShort, h1, h3, h5, Bool.and_true, Bool.true_and, Bool.and_eq_true, Bool.or_eq_true]
  exact ⟨decide_eq_true (by omega), .inl (decide_eq_true (by omega))⟩
end Sw
end T_SwU
section T_SwV
set_option autoImplicit false
set_option linter.all false
set_option maxRecDepth 100000
/-! SwV: the helpers that many laws share. -/
namespace Sw
open PySem
def b_law_cell_at : FDef := ⟨2, 2, [], (.of [
  .iff (.e (.o2 .lt (.var 1) (.o1 .len (.var 0)))) (.of [
    .ret (.o2 .idx (.var 0) (.var 1))]) (.of []),
  .ret (.int 0)])⟩
def b_law_begin : FDef := ⟨1, 2, [], (.of [
  .asg 1 (.o2 .add (.o2 .add (.o2 .mod (.var 0) (.int 2147483647)) (.o2 .mod (.o2 .fdiv (.var 0) (.int 2147483647)) (.int 1000003))) (.int 3)),
  .iff (.e (.o2 .lt (.var 0) (.o2 .pow (.int 10) (.int 18)))) (.of [
    .ret (.lst (.of [(.int 0), (.var 1)]))]) (.of []),
  .ret (.lst (.of [(.var 0), (.var 1)]))])⟩
def b_law_draw : FDef := ⟨2, 4, [], (.of [
  .iff (.e (.o2 .gt (.o2 .idx (.var 0) (.int 0)) (.int 0))) (.of [
    .asg 2 (.o2 .mod (.o2 .idx (.var 0) (.int 0)) (.var 1)),
    .st 0 (.int 0) (.o2 .fdiv (.o2 .idx (.var 0) (.int 0)) (.var 1)),
    .ret (.mv 2)]) (.of []),
  .asg 3 (.o2 .mod (.o2 .add (.o2 .mul (.o2 .idx (.var 0) (.int 1)) (.int 48271)) (.int 11)) (.int 2147483629)),
  .st 0 (.int 1) (.o2 .mod (.o2 .add (.o2 .mul (.var 3) (.int 69621)) (.int 7)) (.int 2147483587)),
  .ret (.o2 .mod (.o2 .fdiv (.o2 .mod (.o2 .add (.o2 .mul (.o2 .idx (.var 0) (.int 1)) (.int 16807)) (.int 3)) (.int 2147483579)) (.int 8)) (.var 1))])⟩
def b_law_order : FDef := ⟨2, 4, [], (.of [
  .asg 2 (.ofSrc false (.rng1 (.var 1))),
  .ret (.o1 .tupleOf (.comp [3] (.n 3) (.rng1 (.var 1)) .no (.pop 2 (.call "_law_draw" (.of [(.var 0), (.o1 .len (.var 2))])))))])⟩
theorem draw_ok {T : Tab} (hT : T "_law_draw" = some b_law_draw) (n : Nat) (a b m : Int) (hm : 0 < m) (hl : m < 18446744073709551616) :
    ∃ r a' b', callF T (n + 1) "_law_draw" [.c [.int a, .int b], .d (.int m)] = .ok (.d (.int r), [.c [.int a', .int b'], .d (.int m)]) ∧ 0 ≤ r ∧ r < m := by
  have h1 : ∀ x : Int, 0 ≤ x % m := fun x => Int.emod_nonneg x (by omega)
  have h2 : ∀ x : Int, x % m < m := fun x => Int.emod_lt_of_pos x hm
  rw [call_eq hT rfl]
  by_cases ha : 0 < a
  · simp [Ss.of, Es.of, Sw.execs, Sw.exec, evalE, evalT, evalC, evalDs, evalOs, evalSrc, evalPart, opW, daW, Sw.get, Sw.view, viewV, Sw.settle, op1, op2, cmpD, Sw.truth, seqOf, atI, Sw.ixN, int2, ret1, isU, isC, isOwn, setC, endF, killAll, Sw.val, addD, mulD, intMul, eqD, callE, apart, putBack, asgT, asgTs, b_law_draw, hm, hl, ha]
    exact ⟨h1 _, h2 _⟩
  · simp [Ss.of, Es.of, Sw.execs, Sw.exec, evalE, evalT, evalC, evalDs, evalOs, evalSrc, evalPart, opW, daW, Sw.get, Sw.view, viewV, Sw.settle, op1, op2, cmpD, Sw.truth, seqOf, atI, Sw.ixN, int2, ret1, isU, isC, isOwn, setC, endF, killAll, Sw.val, addD, mulD, intMul, eqD, callE, apart, putBack, asgT, asgTs, b_law_draw, hm, hl, ha]
    exact ⟨h1 _, h2 _⟩
theorem cell_ok {T : Tab} (hT : T "_law_cell_at" = some b_law_cell_at) (n : Nat) (xs : List Int) (k : Int) (hk : 0 ≤ k) :
    ∃ z : Int, callF T (n + 1) "_law_cell_at" [.d (.list (xs.map .int)), .d (.int k)] = .ok (.d (.int z), [.d (.list (xs.map .int)), .d (.int k)]) := by
  rw [call_eq hT rfl]
  by_cases h : k < (xs.length : Int)
  · have hk2 : k.toNat < xs.length := by omega
    simp [Ss.of, Es.of, Sw.execs, Sw.exec, evalE, evalT, evalC, evalDs, evalOs, evalSrc, evalPart, opW, daW, Sw.get, Sw.view, viewV, Sw.settle, op1, op2, cmpD, Sw.truth, seqOf, atI, Sw.ixN, int2, ret1, isU, isC, isOwn, setC, endF, killAll, Sw.val, addD, mulD, intMul, eqD, callE, apart, putBack, asgT, asgTs, b_law_cell_at, h, hk, hk2]
  · simp [Ss.of, Es.of, Sw.execs, Sw.exec, evalE, evalT, evalC, evalDs, evalOs, evalSrc, evalPart, opW, daW, Sw.get, Sw.view, viewV, Sw.settle, op1, op2, cmpD, Sw.truth, seqOf, atI, Sw.ixN, int2, ret1, isU, isC, isOwn, setC, endF, killAll, Sw.val, addD, mulD, intMul, eqD, callE, apart, putBack, asgT, asgTs, b_law_cell_at, h, hk]
theorem begin_ok {T : Tab} (hT : T "_law_begin" = some b_law_begin) (n : Nat) (z : Int) :
    ∃ a b : Int, callF T (n + 1) "_law_begin" [.d (.int z)] = .ok (.c [.int a, .int b], [.d (.int z)]) := by
  rw [call_eq hT rfl]
  by_cases h : z < 1000000000000000000
  · simp [Ss.of, Es.of, Sw.execs, Sw.exec, evalE, evalT, evalC, evalDs, evalOs, evalSrc, evalPart, opW, daW, Sw.get, Sw.view, viewV, Sw.settle, op1, op2, cmpD, Sw.truth, seqOf, atI, Sw.ixN, int2, ret1, isU, isC, isOwn, setC, endF, killAll, Sw.val, addD, mulD, intMul, eqD, callE, apart, putBack, asgT, asgTs, b_law_begin, h, lim]
  · simp [Ss.of, Es.of, Sw.execs, Sw.exec, evalE, evalT, evalC, evalDs, evalOs, evalSrc, evalPart, opW, daW, Sw.get, Sw.view, viewV, Sw.settle, op1, op2, cmpD, Sw.truth, seqOf, atI, Sw.ixN, int2, ret1, isU, isC, isOwn, setC, endF, killAll, Sw.val, addD, mulD, intMul, eqD, callE, apart, putBack, asgT, asgTs, b_law_begin, h, lim]

/-! ### a drawn order -/
def IsP (m : Nat) (p : List Nat) : Prop := p.Perm (List.range m)
theorem natsD_erase : ∀ (l : List Nat) (i : Nat), (natsD l).eraseIdx i = natsD (l.eraseIdx i)
  | [], _ => rfl
  | _ :: _, 0 => rfl
  | x :: r, i + 1 => by
    have := natsD_erase r i
    show natD x :: (natsD r).eraseIdx i = natD x :: natsD (r.eraseIdx i)
    rw [this]
theorem popAt_nats {l : List Nat} {r : Int} (h0 : 0 ≤ r) (h1 : r < (l.length : Int)) (hl : l.length ≤ 100000) : ∃ x, l[r.toNat]? = some x ∧ popAt (natsD l) r = some (natD x, natsD (l.eraseIdx r.toNat)) := by
  have hk : r.toNat < l.length := by omega
  refine ⟨l[r.toNat], List.getElem?_eq_getElem hk, ?_⟩
  unfold popAt Sw.ixN
  rw [if_pos (by omega), if_pos h0, natsD_len, if_pos h1]
  simp only [Option.bind_some, natsD_get, List.getElem?_eq_getElem hk, Option.map_some, natsD_erase]
theorem erase_perm {l : List Nat} {i : Nat} {x : Nat} (h : l[i]? = some x) : (x :: l.eraseIdx i).Perm l := by
  induction l generalizing i with
  | nil => simp at h
  | cons y r ih =>
    cases i with
    | zero => simp at h; subst h; exact .refl _
    | succ i =>
      have h' : r[i]? = some x := by simpa using h
      exact (List.Perm.swap ..).trans ((ih h').cons y)
theorem order_step {T : Tab} (hD : T "_law_draw" = some b_law_draw) (n : Nat) (a b : Int) (m : Nat) (left : List Nat) (x : D) (hl : left.length ≤ 100000) (h0 : 0 < left.length) :
    ∃ a' b' k y, left[k]? = some y ∧ stepC (callF T (n + 1)) (.n 3) .no (.pop 2 (.call "_law_draw" (.of [(.var 0), (.o1 .len (.var 2))]))) x [.c [.int a, .int b], .d (.int m), .c (natsD left), .u] =
      .ok (some (natD y), [.c [.int a', .int b'], .d (.int m), .c (natsD (left.eraseIdx k)), .d x]) := by
  obtain ⟨k, a', b', hd, k0, k1⟩ := draw_ok hD n a b left.length (by omega) (by omega)
  obtain ⟨y, hy, hpop⟩ := popAt_nats k0 k1 hl
  refine ⟨a', b', k.toNat, y, hy, ?_⟩
  simp [Ss.of, Es.of, Sw.execs, Sw.exec, evalE, evalT, evalC, evalDs, evalOs, evalSrc, evalPart, opW, daW, Sw.get, Sw.view, viewV, Sw.settle, op1, op2, cmpD, Sw.truth, seqOf, atI, Sw.ixN, int2, ret1, isU, isC, isOwn, setC, endF, killAll, Sw.val, addD, mulD, intMul, eqD, callE, apart, putBack, asgT, asgTs, stepC, natsD_len, hd, hpop]
theorem order_comp {T : Tab} (hD : T "_law_draw" = some b_law_draw) (n : Nat) (a b : Int) (m : Nat) (hm : m ≤ 100000) :
    ∃ p a' b', compL (stepC (callF T (n + 1)) (.n 3) .no (.pop 2 (.call "_law_draw" (.of [(.var 0), (.o1 .len (.var 2))])))) [3] (rangeD 0 m 1) [.c [.int a, .int b], .d (.int m), .c (natsD (List.range m)), .u] =
      .ok (natsD p, [.c [.int a', .int b'], .d (.int m), .c [], .u]) ∧ IsP m p := by
  have main := compL_inv (f := stepC (callF T (n + 1)) (.n 3) .no (.pop 2 (.call "_law_draw" (.of [(.var 0), (.o1 .len (.var 2))])))) (own := [3])
    (fun rest acc e => ∃ a b taken left, e = [.c [.int a, .int b], .d (.int m), .c (natsD left), .u] ∧ acc = natsD taken ∧ (taken ++ left).Perm (List.range m) ∧ left.length = rest.length)
    (fun x r acc e ⟨a, b, taken, left, he, hacc, hp, hlen⟩ => by
      subst he hacc
      have hl : left.length ≤ m := by
        have := hp.length_eq
        simp at this
        omega
      have h0 : 0 < left.length := by rw [hlen]; simp
      obtain ⟨a', b', k, y, hy, hs⟩ := order_step hD n a b m left x (by omega) h0
      refine ⟨some (natD y), _, hs, a', b', taken ++ [y], left.eraseIdx k, rfl, by simp [natsD], ?_, ?_⟩
      · have e1 := erase_perm hy
        have e2 : (taken ++ [y] ++ left.eraseIdx k).Perm (taken ++ left) := by
          rw [List.append_assoc]
          exact List.Perm.append_left _ e1
        exact e2.trans hp
      · have := (List.getElem?_eq_some_iff.mp hy).1
        rw [List.length_eraseIdx, if_pos this, hlen]; simp)
    (rangeD 0 m 1) [] [.c [.int a, .int b], .d (.int m), .c (natsD (List.range m)), .u] ⟨a, b, [], List.range m, rfl, rfl, by simp, by simp [rangeD]⟩
  obtain ⟨ys, e', h1, a', b', taken, left, rfl, h2, h3, h4⟩ := main
  have hl : left = [] := by simpa using h4
  subst hl
  have h2' : ys = natsD taken := by simpa using h2
  subst h2'
  exact ⟨taken, a', b', h1, by simpa [IsP] using h3⟩
theorem range2_nat {m : Nat} (hm : m ≤ 100000) : range2 (.int 0) (.int m) = some (rangeD 0 m 1) := by
  have c : rgOk 0 m = true := by unfold rgOk; exact decide_eq_true (by omega)
  have l : ((m : Int) - 0).toNat = m := by omega
  show (if rgOk 0 m && decide (((m : Int) - 0).toNat ≤ lim) then some (rangeD 0 ((m : Int) - 0).toNat 1) else none) = _
  rw [c, l, Bool.true_and, if_pos (decide_eq_true (by unfold lim; omega))]
theorem comp_eval {φ : Orc} {own : List Nat} {t : T} {s : Src} {cond : Co} {a : E} {e e0 e1 e2 e3 : Env} {xs ys : List D} (hs : evalSrc φ s e = .ok (xs, e1)) (hl : xs.length ≤ lim) (hk : killAll own e1 = e0) (hc : compL (stepC φ t cond a) own xs e0 = .ok (ys, e2)) (hr : restore e1 own e2 = e3) :
    evalE φ (.comp own t s cond a) e = .ok (.c ys, e3) := by
  rw [evalE_comp, hs]
  simp only [R.bind_ok]
  rw [if_neg (by omega), hk, hc]
  simp only [R.bind_ok]
  rw [hr]
theorem ex_asg {φ : Orc} {i : Nat} {a : E} {r : Ss} {e e1 e2 : Env} {w : V} (h : evalE φ a e = .ok (w, e1)) (he : e1.set i w = e2) : Sw.execs φ (.cons (.asg i a) r) e = Sw.execs φ r e2 := by subst he; simp only [Sw.execs, Sw.exec, h, SR.ofR_ok, SR.seq_nx]
theorem ex_ret {φ : Orc} {a : E} {r : Ss} {e e1 : Env} {w : V} (h : evalE φ a e = .ok (w, e1)) : Sw.execs φ (.cons (.ret a) r) e = .rt w e1 := by simp only [Sw.execs, Sw.exec, h, SR.ofR_ok, SR.seq_rt]
theorem ex_iff {φ : Orc} {t : Te} {p q r : Ss} {e e1 : Env} {b : Bool} (h : evalT φ t e = .ok (b, e1)) : Sw.execs φ (.cons (.iff t p q) r) e = (if b then Sw.execs φ p e1 else Sw.execs φ q e1).seq (Sw.execs φ r) := by simp only [Sw.execs, Sw.exec, h, SR.ofR_ok]
theorem ex_ex {φ : Orc} {a : E} {r : Ss} {e e1 : Env} {w : V} (h : evalE φ a e = .ok (w, e1)) : Sw.execs φ (.cons (.ex a) r) e = Sw.execs φ r e1 := by simp only [Sw.execs, Sw.exec, h, SR.ofR_ok, SR.seq_nx]
def forF (φ : Orc) (t : T) (b : Ss) : D → Env → SR := fun x e2 => match asgT t x e2 with | some e3 => Sw.execs φ b e3 | none => .bad
theorem ex_for {φ : Orc} {t : T} {s : Src} {b r : Ss} {kill : List Nat} {e e1 : Env} {xs : List D} (h : evalSrc φ s e = .ok (xs, e1)) : Sw.execs φ (.cons (.forr t s b kill) r) e = (forL (forF φ t b) kill xs e1).seq (Sw.execs φ r) := by simp only [Sw.execs, Sw.exec, h, SR.ofR_ok]; rfl
def notVar : E → Bool | .var _ => false | _ => true
theorem opW_v {a : E} {e : Env} {r : Env → R (V × Env)} (h : notVar a = true) : opW r a e = (r e).bind fun p => .ok (.v p.1, p.2) := by cases a <;> first | rfl | cases h
theorem tuple_c {φ : Orc} {a : E} {e e1 : Env} {ys : List D} (h : evalE φ a e = .ok (.c ys, e1)) (ha : notVar a = true) : evalE φ (.o1 .tupleOf a) e = .ok (.d (.tuple ys), e1) := by
  simp only [evalE, opW_v ha, h, R.bind_ok]
  rfl
theorem src_r1 {φ : Orc} {a : E} {e e1 : Env} {d : D} {xs : List D} (h : daW (evalE φ a) e = .ok (d, e1)) (hr : range2 (.int 0) d = some xs) : evalSrc φ (.rng1 a) e = .ok (xs, e1) := by
  simp only [evalSrc, h, R.bind_ok, hr, R.ofO_some]
theorem da_var {φ : Orc} {i : Nat} {e : Env} {d : D} (h : Sw.get e i = .d d) : daW (evalE φ (.var i)) e = .ok (d, e) := by
  simp only [daW, evalE, h, R.bind_ok, Sw.settle, R.ofO_some]
theorem da_of {φ : Orc} {a : E} {e e1 : Env} {w : V} {d : D} (h : evalE φ a e = .ok (w, e1)) (hs : Sw.settle w = some d) : daW (evalE φ a) e = .ok (d, e1) := by
  simp only [daW, h, R.bind_ok, hs, R.ofO_some]
theorem ofL_eval {φ : Orc} {s : Src} {e e1 : Env} {xs : List D} (h : evalSrc φ s e = .ok (xs, e1)) : evalE φ (.ofSrc false s) e = .ok (.c xs, e1) := by
  simp only [evalE, h, R.bind_ok]; rfl
theorem ofT_eval {φ : Orc} {s : Src} {e e1 : Env} {xs : List D} (h : evalSrc φ s e = .ok (xs, e1)) : evalE φ (.ofSrc true s) e = .ok (.d (.tuple xs), e1) := by
  simp only [evalE, h, R.bind_ok]; rfl
theorem order_ok {T : Tab} (hD : T "_law_draw" = some b_law_draw) (hO : T "_law_order" = some b_law_order) (n : Nat) (a b : Int) (m : Nat) (hm : m ≤ 100000) :
    ∃ p a' b', callF T (n + 2) "_law_order" [.c [.int a, .int b], .d (.int m)] = .ok (.d (tupN p), [.c [.int a', .int b'], .d (.int m)]) ∧ IsP m p := by
  obtain ⟨p, a', b', hc, hp⟩ := order_comp hD n a b m hm
  refine ⟨p, a', b', ?_, hp⟩
  have hr := range2_nat hm
  have hl : (rangeD 0 m 1).length ≤ lim := by
    rw [rangeD_nat, natsD_len, List.length_range]; unfold lim; omega
  have s1 : evalE (callF T (n + 1)) (.ofSrc false (.rng1 (.var 1))) [.c [.int a, .int b], .d (.int m), .u, .u] = .ok (.c (rangeD 0 m 1), [.c [.int a, .int b], .d (.int m), .u, .u]) := ofL_eval (src_r1 (da_var rfl) hr)
  rw [← rangeD_nat] at hc
  have c1 := comp_eval (e := [.c [.int a, .int b], .d (.int m), .c (rangeD 0 m 1), .u]) (src_r1 (da_var (i := 1) rfl) hr) hl rfl hc rfl
  have body : Sw.execs (callF T (n + 1)) b_law_order.body [.c [.int a, .int b], .d (.int m), .u, .u] = .rt (.d (tupN p)) [.c [.int a', .int b'], .d (.int m), .c [], .u] := by
    have s2 := tuple_c c1 rfl
    simp only [b_law_order, Ss.of]
    rw [ex_asg s1 rfl]
    exact ex_ret s2
  have fr : ([.c [.int a, .int b], .d (.int m)] : List V) ++ List.replicate (b_law_order.nv - b_law_order.np) .u = [.c [.int a, .int b], .d (.int m), .u, .u] := rfl
  rw [call_eq hO rfl, fr, body]
  rfl
end Sw
end T_SwV
section T_SwW
set_option autoImplicit false
set_option linter.all false
set_option maxRecDepth 100000
/-! SwW: orders (lists of all the numbers below m), the way back, one after another. -/
namespace Sw
open PySem
theorem IsP.len {m : Nat} {p : List Nat} (h : IsP m p) : p.length = m := by have := h.length_eq; simpa using this
theorem IsP.lt {m : Nat} {p : List Nat} (h : IsP m p) {x : Nat} (hx : x ∈ p) : x < m := by simpa using h.mem_iff.mp hx
theorem IsP.mem {m : Nat} {p : List Nat} (h : IsP m p) {x : Nat} (hx : x < m) : x ∈ p := h.mem_iff.mpr (by simpa using hx)
theorem IsP.nd {m : Nat} {p : List Nat} (h : IsP m p) : p.Nodup := h.symm.nodup List.nodup_range
/-- the way back -/
def inv (m : Nat) (p : List Nat) : List Nat := (List.range m).map fun q => p.idxOf q
theorem inv_len (m : Nat) (p : List Nat) : (inv m p).length = m := by simp [inv]
theorem inv_get {m : Nat} {p : List Nat} {q : Nat} (h : q < m) : (inv m p)[q]? = some (p.idxOf q) := by
  unfold inv
  rw [List.getElem?_map, List.getElem?_range h]; rfl
theorem idx_get {p : List Nat} {q : Nat} (h : q ∈ p) : p[p.idxOf q]? = some q := by
  have hl := List.idxOf_lt_length_iff.mpr h
  rw [List.getElem?_eq_getElem hl, List.getElem_idxOf hl]
theorem get_idx {p : List Nat} (nd : p.Nodup) {i q : Nat} (h : p[i]? = some q) : p.idxOf q = i := by
  have hq : q ∈ p := List.mem_of_getElem? h
  have h2 := idx_get hq
  have hl := List.idxOf_lt_length_iff.mpr hq
  have hi := (List.getElem?_eq_some_iff.mp h).1
  have e1 : p[p.idxOf q]'hl = q := by have := List.getElem?_eq_some_iff.mp h2; exact this.2
  have e2 : p[i]'hi = q := (List.getElem?_eq_some_iff.mp h).2
  have pw := List.pairwise_iff_getElem.mp nd
  rcases Nat.lt_trichotomy (p.idxOf q) i with z | z | z
  · exact absurd (e1.trans e2.symm) (pw _ _ hl hi z)
  · exact z
  · exact absurd (e2.trans e1.symm) (pw _ _ hi hl z)
def b_back_of : FDef := ⟨1, 4, [], (.of [
  .asg 1 (.rep false (.of [(.int 0)]) (.o1 .len (.var 0))),
  .forr (.p [(.n 2), (.n 3)]) (.enum (.var 0)) (.of [
    .st 1 (.var 3) (.var 2)]) [2, 3],
  .ret (.o1 .tupleOf (.var 1))])⟩
theorem natsD_set : ∀ (l : List Nat) (i x : Nat), (natsD l).set i (natD x) = natsD (l.set i x)
  | [], _, _ => rfl
  | _ :: _, 0, _ => rfl
  | y :: r, i + 1, x => by
    show natD y :: (natsD r).set i (natD x) = natD y :: natsD (r.set i x)
    rw [natsD_set r i x]
theorem ixN_nat {n q : Nat} (h : q < n) : Sw.ixN n (q : Int) = some q := by
  unfold Sw.ixN
  rw [if_pos (by omega), if_pos (by omega)]; simp
theorem setC_nat {e : Env} {i : Nat} {l : List Nat} {q x : Nat} (h : Sw.get e i = .c (natsD l)) (hq : q < l.length) : setC e i (natD q) (natD x) = some (e.set i (.c (natsD (l.set q x)))) := by
  unfold setC natD
  rw [h]
  simp only [natsD_len, ixN_nat hq, Option.map_some]
  rw [show (PyData.int (x : Int)) = natD x from rfl, natsD_set]
theorem flat_zeros : ∀ m : Nat, (List.replicate m [PyData.int 0]).flatten = natsD (List.replicate m 0)
  | 0 => rfl
  | m + 1 => by
    rw [List.replicate_succ, List.flatten_cons, flat_zeros m]; rfl
theorem back_loop {φ : Orc} {m : Nat} {p : List Nat} (hp : IsP m p) :
    ∃ e', forL (forF φ (.p [(.n 2), (.n 3)]) (.of [.st 1 (.var 3) (.var 2)])) [2, 3] (enumFrom 0 (natsD p)) [.d (tupN p), .c (natsD (List.replicate m 0)), .u, .u] = .nx e' ∧ e' = [.d (tupN p), .c (natsD (inv m p)), .u, .u] := by
  have main := forL_inv (f := forF φ (.p [(.n 2), (.n 3)]) (.of [.st 1 (.var 3) (.var 2)])) (kill := [2, 3])
    (fun rest e => ∃ (found : List Nat) (j : Nat), e = [.d (tupN p), .c (natsD found), .u, .u] ∧ found.length = m ∧ rest = enumFrom j (natsD (p.drop j)) ∧ j ≤ m ∧ ∀ i < j, ∀ q, p[i]? = some q → found[q]? = some i)
    (fun x r e ⟨found, j, he, hl, hr, hj, hf⟩ => by
      subst he
      have hlen := hp.len
      have hjm : j < m := by
        by_cases z : j < m
        · exact z
        · rw [List.drop_eq_nil_of_le (by omega)] at hr
          cases hr
      have hjp : j < p.length := by omega
      rw [List.drop_eq_getElem_cons hjp] at hr
      simp only [natsD, List.map_cons, enumFrom] at hr
      injection hr with h1 h2
      subst h1 h2
      have hq : p[j] < m := hp.lt (List.getElem_mem hjp)
      refine ⟨[.d (tupN p), .c (natsD (found.set p[j] j)), .d (natD j), .d (natD p[j])], .inl ?_, found.set p[j] j, j + 1, rfl, by simp [hl], rfl, by omega, fun i hi q hq' => ?_⟩
      · show Sw.execs φ (.cons (.st 1 (.var 3) (.var 2)) .nil) [.d (tupN p), .c (natsD found), .d (natD j), .d (natD p[j])] = _
        have s := setC_nat (e := [.d (tupN p), .c (natsD found), .d (natD j), .d (natD p[j])]) (i := 1) (x := j) rfl (hl.symm ▸ hq : p[j] < found.length)
        simp only [Sw.execs, Sw.exec, da_var (i := 2) (e := [.d (tupN p), .c (natsD found), .d (natD j), .d (natD p[j])]) rfl, da_var (i := 3) (e := [.d (tupN p), .c (natsD found), .d (natD j), .d (natD p[j])]) rfl, SR.ofR_ok, s]
        rfl
      · by_cases h : i = j
        · subst h
          have : q = p[i] := by
            have := (List.getElem?_eq_some_iff.mp hq').2
            exact this.symm
          subst this
          rw [List.getElem?_set_self (by omega)]
        · have hne : p[j] ≠ q := fun z => by
            have e1 := get_idx hp.nd hq'
            have e2 := get_idx hp.nd (List.getElem?_eq_getElem hjp)
            rw [z] at e2
            omega
          rw [List.getElem?_set_ne hne]
          exact hf i (by omega) q hq')
    (enumFrom 0 (natsD p)) [.d (tupN p), .c (natsD (List.replicate m 0)), .u, .u] ⟨List.replicate m 0, 0, rfl, by simp, rfl, by omega, fun i hi => by omega⟩
  obtain ⟨e', h1, found, j, rfl, hl, hr, hj, hf⟩ := main
  refine ⟨_, h1, ?_⟩
  have hjm : j = m := by
    by_cases z : j = m
    · exact z
    · have hjp : j < p.length := by have := hp.len; omega
      rw [List.drop_eq_getElem_cons hjp] at hr
      cases hr
  subst hjm
  have : found = inv j p := by
    apply List.ext_getElem?
    intro q
    by_cases hq : q < j
    · rw [inv_get hq]
      have hm := hp.mem hq
      exact hf _ (by have := List.idxOf_lt_length_iff.mpr hm; rw [hp.len] at this; exact this) q (idx_get hm)
    · rw [List.getElem?_eq_none (by omega), List.getElem?_eq_none (by rw [inv_len]; omega)]
  rw [this]
theorem repOk1 {m : Nat} (hm : m ≤ 100000) : repOk 1 (m : Int) = true := by
  unfold repOk lim
  exact decide_eq_true ⟨by omega, by omega, by omega, by omega⟩
theorem repR_ok {m : Nat} {e : Env} (hm : m ≤ 100000) : repR false [.int 0] (.int (m : Int)) e = .ok (.c (natsD (List.replicate m 0)), e) := by
  show (if repOk 1 (m : Int) = true then (if false = true then R.bad else R.ok (V.c (List.replicate (m : Int).toNat [PyData.int 0]).flatten, e)) else R.bad) = _
  rw [repOk1 hm, if_pos rfl, if_neg Bool.false_ne_true, Int.toNat_natCast, flat_zeros]
theorem bind2 {α β : Type} {r : R α} {a : α} {f : α → R β} (h : r = .ok a) : r.bind f = f a := by rw [h]; rfl
theorem evalE_rep {φ : Orc} {tp : Bool} {es : Es} {a : E} {e : Env} : evalE φ (.rep tp es a) e = (evalDs φ es e).bind fun p => (opW (evalE φ a) a p.2).bind fun q => (R.ofO (Sw.view q.1 q.2)).bind fun y => repR tp p.1 y q.2 := by rw [evalE]
theorem rep_eval {φ : Orc} {a : E} {e e1 : Env} {m : Nat} {o : Opd} (h : opW (evalE φ a) a e = .ok (o, e1)) (hv : Sw.view o e1 = some (.int m)) (hm : m ≤ 100000) : evalE φ (.rep false (.of [(.int 0)]) a) e = .ok (.c (natsD (List.replicate m 0)), e1) := by
  have h0 : evalDs φ (.of [(.int 0)]) e = .ok ([.int 0], e) := by simp only [Es.of, evalDs, daW, evalE, R.bind_ok, Sw.settle, R.ofO_some]
  rw [evalE_rep]
  refine (bind2 h0).trans ?_
  refine (bind2 h).trans ?_
  refine (bind2 (a := .int (m : Int)) (by rw [hv]; rfl)).trans ?_
  exact repR_ok hm
theorem op_var {r : Env → R (V × Env)} {i : Nat} {e : Env} (h : isU (Sw.get e i) = false) : opW r (.var i) e = .ok (.x i, e) := by
  show (if isU (Sw.get e i) then R.bad else R.ok (Opd.x i, e)) = _
  rw [h]; rfl
theorem op_v {a : E} {φ : Orc} {e e1 : Env} {w : V} (ha : notVar a = true) (h : evalE φ a e = .ok (w, e1)) : opW (evalE φ a) a e = .ok (.v w, e1) := by rw [opW_v ha, h]; rfl
theorem o1_eval {φ : Orc} {o : O1} {a : E} {e e1 : Env} {p : Opd} {x : D} {w : V} (h : opW (evalE φ a) a e = .ok (p, e1)) (hv : Sw.view p e1 = some x) (ho : op1 o x = some w) : evalE φ (.o1 o a) e = .ok (w, e1) := by
  simp only [evalE, h, R.bind_ok, hv, R.ofO_some, ho, ret1]
theorem o2_eval {φ : Orc} {o : O2} {a b : E} {e e1 e2 : Env} {p q : Opd} {x y : D} {w : V} (h : opW (evalE φ a) a e = .ok (p, e1)) (h2 : opW (evalE φ b) b e1 = .ok (q, e2)) (hv : Sw.view p e2 = some x) (hv2 : Sw.view q e2 = some y) (ho : op2 o x y = some w) : evalE φ (.o2 o a b) e = .ok (w, e2) := by
  simp only [evalE, h, h2, R.bind_ok, hv, hv2, R.ofO_some, ho, ret1]
theorem src_en {φ : Orc} {a : E} {e e1 : Env} {xs : List D} {d : D} (h : daW (evalE φ a) e = .ok (d, e1)) (hs : seqOf d = some xs) : evalSrc φ (.enum a) e = .ok (enumFrom 0 xs, e1) := by
  simp only [evalSrc, h, R.bind_ok, enumD, hs, Option.map_some, R.ofO_some]
theorem src_sq {φ : Orc} {a : E} {e e1 : Env} {xs : List D} {d : D} (h : daW (evalE φ a) e = .ok (d, e1)) (hs : seqOf d = some xs) : evalSrc φ (.seq a) e = .ok (xs, e1) := by
  simp only [evalSrc, h, R.bind_ok, hs, R.ofO_some]
theorem back_ok {T : Tab} (hT : T "back_of" = some b_back_of) (n m : Nat) {p : List Nat} (hp : IsP m p) (hm : m ≤ 100000) : callF T (n + 1) "back_of" [.d (tupN p)] = .ok (.d (tupN (inv m p)), [.d (tupN p)]) := by
  obtain ⟨e', hl, rfl⟩ := back_loop (φ := callF T n) hp
  have fr : ([.d (tupN p)] : List V) ++ List.replicate (b_back_of.nv - b_back_of.np) .u = [.d (tupN p), .u, .u, .u] := rfl
  have body : Sw.execs (callF T n) b_back_of.body [.d (tupN p), .u, .u, .u] = .rt (.d (tupN (inv m p))) [.d (tupN p), .c (natsD (inv m p)), .u, .u] := by
    have l1 : evalE (callF T n) (.o1 .len (.var 0)) [.d (tupN p), .u, .u, .u] = .ok (.d (.int m), [.d (tupN p), .u, .u, .u]) := o1_eval (op_var rfl) rfl (by show some (V.d (.int ((natsD p).length : Int))) = _; rw [natsD_len, hp.len])
    have s1 := rep_eval (φ := callF T n) (op_v rfl l1) rfl hm
    have s2 : evalSrc (callF T n) (.enum (.var 0)) [.d (tupN p), .c (natsD (List.replicate m 0)), .u, .u] = .ok (enumFrom 0 (natsD p), [.d (tupN p), .c (natsD (List.replicate m 0)), .u, .u]) := src_en (da_var rfl) rfl
    have s3 : evalE (callF T n) (.o1 .tupleOf (.var 1)) [.d (tupN p), .c (natsD (inv m p)), .u, .u] = .ok (.d (tupN (inv m p)), [.d (tupN p), .c (natsD (inv m p)), .u, .u]) := o1_eval (op_var rfl) rfl rfl
    show Sw.execs (callF T n) (.cons (.asg 1 (.rep false (.of [(.int 0)]) (.o1 .len (.var 0)))) (.cons (.forr (.p [(.n 2), (.n 3)]) (.enum (.var 0)) (.of [.st 1 (.var 3) (.var 2)]) [2, 3]) (.cons (.ret (.o1 .tupleOf (.var 1))) .nil))) _ = _
    rw [ex_asg (e2 := [.d (tupN p), .c (natsD (List.replicate m 0)), .u, .u]) s1 rfl, ex_for s2, hl, SR.seq_nx]
    exact ex_ret s3
  rw [call_eq hT rfl, fr, body]
  rfl
def b_after : FDef := ⟨2, 3, [], (.of [
  .ret (.o1 .tupleOf (.comp [2] (.n 2) (.seq (.var 0)) .no (.o2 .idx (.var 1) (.var 2))))])⟩
def aft (p q : List Nat) : List Nat := p.map fun i => q.getD i 0
theorem after_ok {T : Tab} (hT : T "after" = some b_after) (n m : Nat) {p q : List Nat} (hp : ∀ x ∈ p, x < q.length) (hl : p.length ≤ 100000) : callF T (n + 1) "after" [.d (tupN p), .d (tupN q)] = .ok (.d (tupN (aft p q)), [.d (tupN p), .d (tupN q)]) := by
  have fr : ([.d (tupN p), .d (tupN q)] : List V) ++ List.replicate (b_after.nv - b_after.np) .u = [.d (tupN p), .d (tupN q), .u] := rfl
  have hc : compL (stepC (callF T n) (.n 2) .no (.o2 .idx (.var 1) (.var 2))) [2] (natsD p) [.d (tupN p), .d (tupN q), .u] = .ok (natsD (aft p q), [.d (tupN p), .d (tupN q), .u]) := by
    have := compL_map (f := stepC (callF T n) (.n 2) .no (.o2 .idx (.var 1) (.var 2))) (own := [2]) (e := [.d (tupN p), .d (tupN q), .u]) (fun x => match x with | .int i => natD (q.getD i.toNat 0) | _ => .none) (natsD p) (fun x hx => by
      obtain ⟨i, hi, rfl⟩ := List.mem_map.mp hx
      have hq := hp i hi
      refine ⟨[.d (tupN p), .d (tupN q), .d (natD i)], ?_, rfl⟩
      have g : op2 .idx (tupN q) (natD i) = some (.d (natD (q.getD i 0))) := by
        show ((some (natsD q)).bind fun xs => (atI xs (i : Int)).map V.d) = _
        simp only [Option.bind_some, atI, natsD_len, ixN_nat hq, natsD_get, List.getElem?_eq_getElem hq, Option.map_some]
        rw [List.getD_eq_getElem?_getD, List.getElem?_eq_getElem hq]; rfl
      have e1 := o2_eval (φ := callF T n) (o := .idx) (a := .var 1) (b := .var 2) (e := [.d (tupN p), .d (tupN q), .d (natD i)]) (op_var rfl) (op_var rfl) rfl rfl g
      show (R.ofO (some [V.d (tupN p), V.d (tupN q), V.d (natD i)])).bind _ = _
      simp only [R.ofO_some, R.bind_ok, evalC, if_true, da_of e1 rfl]
      simp [natD])
    rw [this]
    simp [natsD, aft, natD]
  have c1 := comp_eval (φ := callF T n) (e := [.d (tupN p), .d (tupN q), .u]) (src_sq (da_var (i := 0) rfl) rfl) (by rw [natsD_len]; unfold lim; omega) rfl hc rfl
  have body : Sw.execs (callF T n) b_after.body [.d (tupN p), .d (tupN q), .u] = .rt (.d (tupN (aft p q))) [.d (tupN p), .d (tupN q), .u] := ex_ret (tuple_c c1 rfl)
  rw [call_eq hT rfl, fr, body]
  rfl
end Sw
end T_SwW
section T_SwX
set_option autoImplicit false
set_option linter.all false
set_option maxRecDepth 100000
/-! SwX: more steps of the core. -/
namespace Sw
open PySem
theorem int_eval {φ : Orc} {i : Int} {e : Env} : evalE φ (.int i) e = .ok (.d (.int i), e) := by rw [evalE]
theorem os_nil {φ : Orc} {e : Env} : evalOs φ .nil e = .ok ([], e) := by rw [evalOs]
theorem os_cons {φ : Orc} {a : E} {r : Es} {e e1 e2 : Env} {o : Opd} {os : List Opd} (h : opW (evalE φ a) a e = .ok (o, e1)) (h2 : evalOs φ r e1 = .ok (os, e2)) : evalOs φ (.cons a r) e = .ok (o :: os, e2) := by
  rw [evalOs]
  exact (bind2 h).trans (bind2 h2)
theorem call_ev {φ : Orc} {f : String} {as : Es} {e e1 e2 : Env} {os : List Opd} {args outs : List V} {w : V} (h : evalOs φ as e = .ok (os, e1)) (hok : (apart e1 os && !(os.any fun o => isU (Sw.val o e1))) = true) (hm : os.map (Sw.val · e1) = args) (hc : φ f args = .ok (w, outs))
    (hl : outs.length = os.length) (hp : putBack e1 os outs e1 = e2) : evalE φ (.call f as) e = .ok (w, e2) := by
  rw [evalE]
  refine (bind2 h).trans ?_
  show callE φ f os e1 = _
  unfold callE
  rw [if_pos hok, hm]
  refine (bind2 hc).trans ?_
  rw [if_pos hl, hp]
/-- a test of two ints -/
theorem t_eq {φ : Orc} {a b : E} {e e1 e2 : Env} {p q : Opd} {i j : Int} (h : opW (evalE φ a) a e = .ok (p, e1)) (h2 : opW (evalE φ b) b e1 = .ok (q, e2)) (hv : Sw.view p e2 = some (.int i)) (hv2 : Sw.view q e2 = some (.int j)) : evalT φ (.e (.o2 .eq a b)) e = .ok (decide (i = j), e2) := by
  have e0 : evalE φ (.o2 .eq a b) e = .ok (.d (.bool (i == j)), e2) := o2_eval h h2 hv hv2 rfl
  rw [evalT]
  refine (bind2 (op_v rfl e0)).trans ?_
  refine (bind2 (a := PyData.bool (i == j)) rfl).trans ?_
  refine (bind2 (a := (i == j : Bool)) rfl).trans ?_
  have d : (i == j) = decide (i = j) := by
    by_cases z : i = j
    · subst z; simp
    · rw [decide_eq_false z]; exact beq_eq_false_iff_ne.mpr z
  rw [d]
def b_law_some : FDef := ⟨2, 8, [], (.of [
  .asg 2 (.call "_law_draw" (.of [(.var 0), (.int 4)])),
  .asg 3 (.call "_law_order" (.of [(.var 0), (.var 1)])),
  .iff (.e (.o2 .eq (.var 2) (.int 0))) (.of [
    .ret (.ofSrc true (.rng1 (.var 1)))]) (.of []),
  .iff (.e (.o2 .eq (.var 2) (.int 1))) (.of [
    .asg 4 (.call "_law_draw" (.of [(.var 0), (.var 1)])),
    .ret (.o1 .tupleOf (.comp [5] (.n 5) (.rng1 (.var 1)) .no (.o2 .mod (.o2 .add (.var 5) (.var 4)) (.var 1))))]) (.of []),
  .iff (.e (.o2 .eq (.var 2) (.int 2))) (.of [
    .asg 3 (.ofSrc false (.rng1 (.var 1))),
    .asg 6 (.call "_law_draw" (.of [(.var 0), (.var 1)])),
    .asg 7 (.call "_law_draw" (.of [(.var 0), (.var 1)])),
    .st 3 (.var 6) (.var 7),
    .st 3 (.var 7) (.var 6)]) (.of []),
  .ret (.o1 .tupleOf (.var 3))])⟩
/-- draw with the state in slot 0, by a name or a number -/
theorem draw_ev {T : Tab} (hD : T "_law_draw" = some b_law_draw) (n : Nat) (a b m : Int) (hm : 0 < m) (hl : m < 18446744073709551616) (r : Env) {x : E} {o : Opd} (ho : opW (evalE (callF T (n + 1)) x) x (.c [.int a, .int b] :: r) = .ok (o, .c [.int a, .int b] :: r)) (hap : apart (.c [.int a, .int b] :: r) [.x 0, o] = true)
    (hv : ∀ s, Sw.val o (s :: r) = .d (.int m)) (hp : ∀ s s' : V, putBack (s :: r) [o] [.d (.int m)] (s' :: r) = s' :: r) :
    ∃ k a' b', evalE (callF T (n + 1)) (.call "_law_draw" (.of [(.var 0), x])) (.c [.int a, .int b] :: r) = .ok (.d (.int k), .c [.int a', .int b'] :: r) ∧ 0 ≤ k ∧ k < m := by
  obtain ⟨k, a', b', hd, h0, h1⟩ := draw_ok hD n a b m hm hl
  refine ⟨k, a', b', ?_, h0, h1⟩
  refine call_ev (os := [.x 0, o]) (args := [.c [.int a, .int b], .d (.int m)]) (os_cons (op_var rfl) (os_cons ho os_nil)) ?_ ?_ hd rfl ?_
  · rw [hap]
    show (!(isU (V.c [.int a, .int b]) || (isU (Sw.val o _) || false))) = true
    rw [hv]; rfl
  · show [V.c [.int a, .int b], Sw.val o _] = _
    rw [hv]
  · show putBack (.c [.int a, .int b] :: r) [o] [.d (.int m)] (.c [.int a', .int b'] :: r) = _
    exact hp _ _
end Sw
end T_SwX
section T_SwY
set_option autoImplicit false
set_option linter.all false
set_option maxRecDepth 100000
/-! SwY: orders: rotations, swaps. -/
namespace Sw
open PySem
theorem nodup_le : ∀ {l r : List Nat}, l.Nodup → (∀ x ∈ l, x ∈ r) → l.length ≤ r.length
  | [], r, _, _ => Nat.zero_le _
  | x :: l, r, nd, h => by
    obtain ⟨n1, n2⟩ := List.nodup_cons.mp nd
    have hx := h x List.mem_cons_self
    have ih := nodup_le (r := r.erase x) n2 fun y hy => (List.mem_erase_of_ne (fun z => n1 (by subst z; exact hy))).mpr (h y (List.mem_cons_of_mem _ hy))
    rw [List.length_erase_of_mem hx] at ih
    have : 0 < r.length := List.length_pos_of_mem hx
    simp only [List.length_cons]
    omega
theorem isP_of {m : Nat} {p : List Nat} (hl : p.length = m) (hlt : ∀ x ∈ p, x < m) (nd : p.Nodup) : IsP m p := by
  refine (List.perm_ext_iff_of_nodup nd List.nodup_range).mpr fun x => ⟨fun hx => by simpa using hlt x hx, fun hx => ?_⟩
  have hx : x < m := by simpa using hx
  refine Classical.byContradiction fun hn => ?_
  have := nodup_le (l := x :: p) (r := List.range m) (List.nodup_cons.mpr ⟨hn, nd⟩) fun y hy => by
    rcases List.mem_cons.mp hy with z | z
    · subst z; simpa using hx
    · simpa using hlt y z
  simp only [List.length_cons, List.length_range] at this
  omega
def rot (m t : Nat) : List Nat := (List.range m).map fun k => (k + t) % m
theorem nodup_map {l : List Nat} {f : Nat → Nat} (nd : l.Nodup) (inj : ∀ x ∈ l, ∀ y ∈ l, f x = f y → x = y) : (l.map f).Nodup := by
  induction l with
  | nil => exact List.nodup_nil
  | cons x r ih =>
    obtain ⟨n1, n2⟩ := List.nodup_cons.mp nd
    refine List.nodup_cons.mpr ⟨fun h => ?_, ih n2 fun a ha b hb => inj a (List.mem_cons_of_mem _ ha) b (List.mem_cons_of_mem _ hb)⟩
    obtain ⟨y, hy, e⟩ := List.mem_map.mp h
    have := inj y (List.mem_cons_of_mem _ hy) x List.mem_cons_self e
    subst this
    exact n1 hy
theorem rot_isP {m t : Nat} (hm : 0 < m) : IsP m (rot m t) := by
  refine isP_of (by simp [rot]) (fun x hx => ?_) (nodup_map List.nodup_range fun x hx y hy e => ?_)
  · obtain ⟨k, _, rfl⟩ := List.mem_map.mp hx
    exact Nat.mod_lt _ hm
  · have hx : x < m := by simpa using hx
    have hy : y < m := by simpa using hy
    have e : (x + t) % m = (y + t) % m := e
    have d1 := Nat.div_add_mod (x + t) m
    have d2 := Nat.div_add_mod (y + t) m
    rcases Nat.lt_trichotomy ((x + t) / m) ((y + t) / m) with z | z | z
    · have : m * ((x + t) / m) + m ≤ m * ((y + t) / m) := by rw [← Nat.mul_succ]; exact Nat.mul_le_mul_left m z
      omega
    · rw [z] at d1; omega
    · have : m * ((y + t) / m) + m ≤ m * ((x + t) / m) := by rw [← Nat.mul_succ]; exact Nat.mul_le_mul_left m z
      omega
def swp (m v w : Nat) : List Nat := ((List.range m).set v w).set w v
theorem swp_isP {m v w : Nat} (hv : v < m) (hw : w < m) : IsP m (swp m v w) := by
  have get : ∀ i, i < m → (swp m v w)[i]? = some (if i = w then v else if i = v then w else i) := fun i hi => by
    unfold swp
    by_cases h1 : i = w
    · subst h1
      rw [List.getElem?_set_self (by simpa using hi), if_pos rfl]
    · rw [List.getElem?_set_ne (fun z => h1 z.symm), if_neg h1]
      by_cases h2 : i = v
      · subst h2
        rw [List.getElem?_set_self (by simpa using hi), if_pos rfl]
      · rw [List.getElem?_set_ne (fun z => h2 z.symm), List.getElem?_range hi, if_neg h2]
  have e : swp m v w = (List.range m).map fun i => if i = w then v else if i = v then w else i := by
    apply List.ext_getElem?
    intro i
    by_cases hi : i < m
    · rw [get i hi, List.getElem?_map, List.getElem?_range hi]; rfl
    · rw [List.getElem?_eq_none (by simp [swp]; omega), List.getElem?_eq_none (by simp; omega)]
  rw [e]
  refine isP_of (by simp) (fun x hx => ?_) (nodup_map List.nodup_range fun x hx y hy h => ?_)
  · obtain ⟨i, hi, rfl⟩ := List.mem_map.mp hx
    have hi : i < m := by simpa using hi
    split
    · exact hv
    · split
      · exact hw
      · exact hi
  · split at h <;> split at h <;> (try split at h) <;> (try split at h) <;> omega
end Sw
end T_SwY
section T_SwZ
set_option autoImplicit false
set_option linter.all false
set_option maxRecDepth 100000
/-! SwZ: an order that is drawn in one of four ways. -/
namespace Sw
open PySem
/-- order with the state in slot 0 and the number in slot 1 -/
theorem order_ev {T : Tab} (hD : T "_law_draw" = some b_law_draw) (hO : T "_law_order" = some b_law_order) (n : Nat) (a b : Int) (m : Nat) (hm : m ≤ 100000) (r : Env) :
    ∃ p a' b', evalE (callF T (n + 2)) (.call "_law_order" (.of [(.var 0), (.var 1)])) (.c [.int a, .int b] :: .d (.int m) :: r) = .ok (.d (tupN p), .c [.int a', .int b'] :: .d (.int m) :: r) ∧ IsP m p := by
  obtain ⟨p, a', b', h, hp⟩ := order_ok hD hO n a b m hm
  refine ⟨p, a', b', ?_, hp⟩
  exact call_ev (os := [.x 0, .x 1]) (os_cons (op_var rfl) (os_cons (op_var rfl) os_nil)) rfl rfl h rfl rfl
theorem draw_m {T : Tab} (hD : T "_law_draw" = some b_law_draw) (n : Nat) (a b : Int) (m : Nat) (h0 : 0 < m) (hm : m ≤ 100000) (r : Env) :
    ∃ (k : Nat) (a' b' : Int), evalE (callF T (n + 1)) (.call "_law_draw" (.of [(.var 0), (.var 1)])) (.c [.int a, .int b] :: .d (.int m) :: r) = .ok (.d (natD k), .c [.int a', .int b'] :: .d (.int m) :: r) ∧ k < m := by
  obtain ⟨k, a', b', h, k0, k1⟩ := draw_ok hD n a b m (by omega) (by omega)
  refine ⟨k.toNat, a', b', ?_, by omega⟩
  have e : natD k.toNat = .int k := by
    show PyData.int ((k.toNat : Nat) : Int) = .int k
    rw [Int.toNat_of_nonneg k0]
  rw [e]
  exact call_ev (os := [.x 0, .x 1]) (os_cons (op_var rfl) (os_cons (op_var rfl) os_nil)) rfl rfl h rfl rfl
theorem draw_k {T : Tab} (hD : T "_law_draw" = some b_law_draw) (n : Nat) (a b z : Int) (h0 : 0 < z) (hz : z < 18446744073709551616) (r : Env) :
    ∃ (k : Nat) (a' b' : Int), evalE (callF T (n + 1)) (.call "_law_draw" (.of [(.var 0), (.int z)])) (.c [.int a, .int b] :: r) = .ok (.d (natD k), .c [.int a', .int b'] :: r) ∧ (k : Int) < z := by
  obtain ⟨k, a', b', h, k0, k1⟩ := draw_ok hD n a b z h0 hz
  refine ⟨k.toNat, a', b', ?_, by omega⟩
  have e : natD k.toNat = .int k := by
    show PyData.int ((k.toNat : Nat) : Int) = .int k
    rw [Int.toNat_of_nonneg k0]
  rw [e]
  exact call_ev (os := [.x 0, .v (.d (.int z))]) (os_cons (op_var rfl) (os_cons (op_v rfl int_eval) os_nil)) rfl rfl h rfl rfl
/-- a test of a slot against a number -/
theorem t_var {φ : Orc} {i : Nat} {e : Env} {k : Nat} {j : Int} (h : Sw.get e i = .d (natD k)) : evalT φ (.e (.o2 .eq (.var i) (.int j))) e = .ok (decide ((k : Int) = j), e) := by
  have hv : Sw.view (.x i) e = some (.int (k : Int)) := by
    show viewV (Sw.get e i) = _
    rw [h]; rfl
  exact t_eq (op_var (by rw [h]; rfl)) (op_v rfl int_eval) hv rfl
theorem rot_comp {φ : Orc} {m k : Nat} (h0 : 0 < m) {s w x6 x7 : V} {o : D} :
    compL (stepC φ (.n 5) .no (.o2 .mod (.o2 .add (.var 5) (.var 4)) (.var 1))) [5] (rangeD 0 m 1) [s, .d (.int m), w, .d o, .d (natD k), .u, x6, x7] = .ok (natsD (rot m k), [s, .d (.int m), w, .d o, .d (natD k), .u, x6, x7]) := by
  rw [rangeD_nat]
  have := compL_map (f := stepC φ (.n 5) .no (.o2 .mod (.o2 .add (.var 5) (.var 4)) (.var 1))) (own := [5]) (e := [s, .d (.int m), w, .d o, .d (natD k), .u, x6, x7]) (fun x => match x with | .int i => natD ((i.toNat + k) % m) | _ => .none) (natsD (List.range m)) (fun x hx => by
    obtain ⟨i, hi, rfl⟩ := List.mem_map.mp hx
    refine ⟨[s, .d (.int m), w, .d o, .d (natD k), .d (natD i), x6, x7], ?_, rfl⟩
    have e1 := o2_eval (φ := φ) (o := .add) (a := .var 5) (b := .var 4) (e := [s, .d (.int m), w, .d o, .d (natD k), .d (natD i), x6, x7]) (op_var rfl) (op_var rfl) rfl rfl (w := .d (.int ((i : Int) + (k : Int)))) rfl
    have g : op2 .mod (.int ((i : Int) + (k : Int))) (.int (m : Int)) = some (.d (natD ((i + k) % m))) := by
      show (if decide ((0 : Int) < (m : Int)) = true then some (V.d (.int (((i : Int) + (k : Int)) % (m : Int)))) else none) = _
      rw [if_pos (decide_eq_true (by omega))]
      rfl
    have e2 := o2_eval (φ := φ) (o := .mod) (b := .var 1) (op_v rfl e1) (op_var rfl) rfl rfl g
    show (R.ofO (some [s, V.d (.int m), w, V.d o, V.d (natD k), V.d (natD i), x6, x7])).bind _ = _
    simp only [R.ofO_some, R.bind_ok, evalC, if_true, da_of e2 rfl]
    simp [natD])
  rw [this]
  simp [natsD, rot, natD]
end Sw
end T_SwZ
section T_SxA
set_option autoImplicit false
set_option linter.all false
set_option maxRecDepth 100000
/-! SxA: what holds behind statements; an order that is drawn in one of four ways. -/
namespace Sw
open PySem
/-- what holds behind a piece of code: N falling through, B at a break, C at a continue, Q at a return -/
structure Po where
  N : Env → Prop
  B : Env → Prop
  C : Env → Prop
  Q : V → Env → Prop
def Wp0 (P : Po) : SR → Prop
  | .nx e => P.N e
  | .bk e => P.B e
  | .ct e => P.C e
  | .rt v e => P.Q v e
  | _ => False
/-- (a structure, so that nothing runs the code while a term is read) -/
structure Wp (P : Po) (r : SR) : Prop where
  h : Wp0 P r
def Po.nx (P : Po) (N : Env → Prop) : Po := { P with N := N }
def rP (Q : V → Env → Prop) : Po := ⟨fun _ => False, fun _ => False, fun _ => False, Q⟩
theorem wp_seq {P : Po} {f : Env → SR} : ∀ {r : SR}, Wp (P.nx fun e => Wp P (f e)) r → Wp P (r.seq f)
  | .nx e, h => h.h
  | .bk e, h => ⟨h.h⟩
  | .ct e, h => ⟨h.h⟩
  | .rt v e, h => ⟨h.h⟩
  | .exc c, h => h.h.elim
  | .bad, h => h.h.elim
theorem wp_nil {P : Po} {φ : Orc} {e : Env} (h : P.N e) : Wp P (Sw.execs φ .nil e) := by simp only [Sw.execs]; exact ⟨h⟩
theorem wp_asg {P : Po} {φ : Orc} {i : Nat} {a : E} {r : Ss} {e e1 : Env} {w : V} (h : evalE φ a e = .ok (w, e1)) (k : Wp P (Sw.execs φ r (e1.set i w))) : Wp P (Sw.execs φ (.cons (.asg i a) r) e) := by rw [ex_asg h rfl]; exact k
theorem wp_ret {P : Po} {φ : Orc} {a : E} {r : Ss} {e e1 : Env} {w : V} (h : evalE φ a e = .ok (w, e1)) (k : P.Q w e1) : Wp P (Sw.execs φ (.cons (.ret a) r) e) := by rw [ex_ret h]; exact ⟨k⟩
theorem wp_iff {P : Po} {φ : Orc} {t : Te} {p q r : Ss} {e e1 : Env} {b : Bool} (h : evalT φ t e = .ok (b, e1)) (h1 : b = true → Wp (P.nx fun e => Wp P (Sw.execs φ r e)) (Sw.execs φ p e1)) (h2 : b = false → Wp (P.nx fun e => Wp P (Sw.execs φ r e)) (Sw.execs φ q e1)) : Wp P (Sw.execs φ (.cons (.iff t p q) r) e) := by
  rw [ex_iff h]
  apply wp_seq
  cases b
  · exact h2 rfl
  · exact h1 rfl
theorem wp_if1 {P : Po} {φ : Orc} {t : Te} {p r : Ss} {e e1 : Env} {b : Bool} (h : evalT φ t e = .ok (b, e1)) (h1 : b = true → Wp (P.nx fun e => Wp P (Sw.execs φ r e)) (Sw.execs φ p e1)) (h2 : b = false → Wp P (Sw.execs φ r e1)) : Wp P (Sw.execs φ (.cons (.iff t p .nil) r) e) :=
  wp_iff h h1 fun z => wp_nil (h2 z)
theorem wp_ex {P : Po} {φ : Orc} {a : E} {r : Ss} {e e1 : Env} {w : V} (h : evalE φ a e = .ok (w, e1)) (k : Wp P (Sw.execs φ r e1)) : Wp P (Sw.execs φ (.cons (.ex a) r) e) := by rw [ex_ex h]; exact k
theorem wp_st {P : Po} {φ : Orc} {i : Nat} {ix a : E} {r : Ss} {e e1 e2 e3 : Env} {x k : D} (h : daW (evalE φ a) e = .ok (x, e1)) (hc : isC (Sw.get e1 i) = true) (h2 : daW (evalE φ ix) e1 = .ok (k, e2)) (h3 : setC e2 i k x = some e3) (c : Wp P (Sw.execs φ r e3)) : Wp P (Sw.execs φ (.cons (.st i ix a) r) e) := by
  simpa only [Sw.execs, Sw.exec, h, hc, h2, h3, SR.ofR_ok, if_true, SR.seq_nx] using c
theorem wp_pass {P : Po} {φ : Orc} {r : Ss} {e : Env} (k : Wp P (Sw.execs φ r e)) : Wp P (Sw.execs φ (.cons .pass r) e) := by simpa only [Sw.execs, Sw.exec, SR.seq_nx] using k
theorem wp_asgT {P : Po} {φ : Orc} {t : T} {a : E} {r : Ss} {e e1 e2 : Env} {x : D} (h : daW (evalE φ a) e = .ok (x, e1)) (ht : asgT t x e1 = some e2) (k : Wp P (Sw.execs φ r e2)) : Wp P (Sw.execs φ (.cons (.asgT t a) r) e) := by
  simpa only [Sw.execs, Sw.exec, h, ht, SR.ofR_ok, SR.seq_nx] using k
/-- a loop by what stays true: J before each turn, of what is still to come -/
theorem wp_loop {P : Po} {f : D → Env → SR} {kill : List Nat} (J : List D → Env → Prop) (hn : ∀ e, J [] e → P.N e) (step : ∀ x r e, J (x :: r) e → Wp ⟨fun e1 => J r (killAll kill e1), fun e1 => P.N (killAll kill e1), fun e1 => J r (killAll kill e1), P.Q⟩ (f x e)) :
    ∀ (xs : List D) (e : Env), J xs e → Wp P (forL f kill xs e)
  | [], e, h => ⟨hn e h⟩
  | x :: r, e, h => by
    have s := step x r e h
    simp only [forL]
    cases g : f x e with
    | nx e1 => rw [g] at s; exact wp_loop J hn step r _ s.h
    | ct e1 => rw [g] at s; exact wp_loop J hn step r _ s.h
    | bk e1 => rw [g] at s; exact ⟨s.h⟩
    | rt v e1 => rw [g] at s; exact ⟨s.h⟩
    | exc c => rw [g] at s; exact s.h.elim
    | bad => rw [g] at s; exact s.h.elim
theorem wp_for {P : Po} {φ : Orc} {t : T} {s : Src} {b r : Ss} {kill : List Nat} {e e1 : Env} {xs : List D} (h : evalSrc φ s e = .ok (xs, e1)) (J : List D → Env → Prop) (h0 : J xs e1) (hn : ∀ e, J [] e → Wp P (Sw.execs φ r e))
    (step : ∀ x q e, J (x :: q) e → ∃ e2, asgT t x e = some e2 ∧ Wp ⟨fun e1 => J q (killAll kill e1), fun e1 => Wp P (Sw.execs φ r (killAll kill e1)), fun e1 => J q (killAll kill e1), P.Q⟩ (Sw.execs φ b e2)) :
    Wp P (Sw.execs φ (.cons (.forr t s b kill) r) e) := by
  rw [ex_for h]
  apply wp_seq
  refine wp_loop J hn (fun x q e hj => ?_) xs e1 h0
  obtain ⟨e2, h1, h2⟩ := step x q e hj
  simp only [forF, h1]
  exact h2
/-- a call by what holds behind its body -/
theorem call_wp {T : Tab} {n : Nat} {f : String} {fd : FDef} {as : List V} (Q : V → List V → Prop) (h : T f = some fd) (hl : as.length = fd.np) (k : Wp ⟨fun e => Q (.d .none) (killAll fd.wp (e.take fd.np)), fun _ => False, fun _ => False, fun v e => Q v (killAll fd.wp (e.take fd.np))⟩ (Sw.execs (callF T n) fd.body (as ++ List.replicate (fd.nv - fd.np) .u))) :
    ∃ v outs, callF T (n + 1) f as = .ok (v, outs) ∧ Q v outs := by
  rw [call_eq h hl]
  cases g : Sw.execs (callF T n) fd.body (as ++ List.replicate (fd.nv - fd.np) .u) with
  | nx e1 => rw [g] at k; exact ⟨_, _, rfl, k.h⟩
  | rt v e1 => rw [g] at k; exact ⟨_, _, rfl, k.h⟩
  | bk e1 => rw [g] at k; exact k.h.elim
  | ct e1 => rw [g] at k; exact k.h.elim
  | exc c => rw [g] at k; exact k.h.elim
  | bad => rw [g] at k; exact k.h.elim
theorem some_ok {T : Tab} (hD : T "_law_draw" = some b_law_draw) (hO : T "_law_order" = some b_law_order) (hS : T "_law_some" = some b_law_some) (n : Nat) (a b : Int) (m : Nat) (h0 : 0 < m) (hm : m ≤ 100000) :
    ∃ p a' b', callF T (n + 3) "_law_some" [.c [.int a, .int b], .d (.int m)] = .ok (.d (tupN p), [.c [.int a', .int b'], .d (.int m)]) ∧ IsP m p := by
  have hr := range2_nat hm
  have hl : (rangeD 0 m 1).length ≤ lim := by
    rw [rangeD_nat, natsD_len, List.length_range]; unfold lim; omega
  suffices h : ∃ v outs, callF T (n + 3) "_law_some" [.c [.int a, .int b], .d (.int m)] = .ok (v, outs) ∧ ∃ p a' b', v = .d (tupN p) ∧ outs = [.c [.int a', .int b'], .d (.int m)] ∧ IsP m p by
    obtain ⟨v, outs, h, p, a', b', rfl, rfl, hp⟩ := h
    exact ⟨p, a', b', h, hp⟩
  refine call_wp (fun v outs => ∃ p a' b', v = .d (tupN p) ∧ outs = [.c [.int a', .int b'], .d (.int m)] ∧ IsP m p) hS rfl ?_
  show Wp _ (Sw.execs (callF T (n + 2)) b_law_some.body [.c [.int a, .int b], .d (.int m), .u, .u, .u, .u, .u, .u])
  simp only [b_law_some, Ss.of]
  obtain ⟨w, a1, b1, e1, hw⟩ := draw_k hD (n + 1) a b 4 (by decide) (by decide) [.d (.int m), .u, .u, .u, .u, .u, .u]
  refine wp_asg e1 ?_
  obtain ⟨p, a2, b2, e2, hp⟩ := order_ev hD hO n a1 b1 m hm [.d (natD w), .u, .u, .u, .u, .u]
  refine wp_asg e2 ?_
  refine wp_if1 (t_var rfl) (fun _ => ?_) fun _ => ?_
  · refine wp_ret (ofT_eval (src_r1 (da_var rfl) hr)) ?_
    exact ⟨_, a2, b2, by rw [rangeD_nat]; rfl, rfl, .refl _⟩
  refine wp_if1 (t_var rfl) (fun _ => ?_) fun _ => ?_
  · obtain ⟨k, a3, b3, e3, hk⟩ := draw_m hD (n + 1) a2 b2 m h0 hm [.d (natD w), .d (tupN p), .u, .u, .u, .u]
    refine wp_asg e3 ?_
    have c := comp_eval (e := [.c [.int a3, .int b3], .d (.int m), .d (natD w), .d (tupN p), .d (natD k), .u, .u, .u]) (src_r1 (da_var (i := 1) rfl) hr) hl rfl (rot_comp (φ := callF T (n + 2)) h0) rfl
    exact wp_ret (tuple_c c rfl) ⟨_, a3, b3, rfl, rfl, rot_isP h0⟩
  refine wp_if1 (t_var rfl) (fun _ => ?_) fun _ => ?_
  · refine wp_asg (ofL_eval (src_r1 (da_var (i := 1) rfl) hr)) ?_
    obtain ⟨k, a3, b3, e3, hk⟩ := draw_m hD (n + 1) a2 b2 m h0 hm [.d (natD w), .c (rangeD 0 m 1), .u, .u, .u, .u]
    refine wp_asg e3 ?_
    obtain ⟨l, a4, b4, e4, hl2⟩ := draw_m hD (n + 1) a3 b3 m h0 hm [.d (natD w), .c (rangeD 0 m 1), .u, .u, .d (natD k), .u]
    refine wp_asg e4 ?_
    rw [rangeD_nat]
    refine wp_st (da_var (i := 7) rfl) rfl (da_var (i := 6) rfl) (setC_nat (l := List.range m) rfl (by simpa using hk)) ?_
    refine wp_st (da_var (i := 6) rfl) rfl (da_var (i := 7) rfl) (setC_nat (l := (List.range m).set k l) rfl (by simpa using hl2)) ?_
    refine wp_nil ?_
    exact wp_ret (o1_eval (op_var rfl) rfl rfl) ⟨_, a4, b4, rfl, rfl, swp_isP hk hl2⟩
  exact wp_ret (o1_eval (op_var rfl) rfl rfl) ⟨_, a2, b2, rfl, rfl, hp⟩
end Sw
end T_SxA
section T_SxB
set_option autoImplicit false
set_option linter.all false
set_option maxRecDepth 100000
/-! SxB: orders as functions: the way back and one after another. -/
namespace Sw
open PySem
theorem gd_of {l : List Nat} {i x : Nat} (h : l[i]? = some x) : l.getD i 0 = x := by rw [List.getD_eq_getElem?_getD, h]; rfl
theorem gd_some {l : List Nat} {i : Nat} (h : i < l.length) : l[i]? = some (l.getD i 0) := by
  rw [List.getD_eq_getElem?_getD, List.getElem?_eq_getElem h]; rfl
theorem ext_gd {l r : List Nat} {m : Nat} (hl : l.length = m) (hr : r.length = m) (h : ∀ i < m, l.getD i 0 = r.getD i 0) : l = r := by
  apply List.ext_getElem?
  intro i
  by_cases hi : i < m
  · rw [gd_some (by omega), gd_some (by omega), h i hi]
  · rw [List.getElem?_eq_none (by omega), List.getElem?_eq_none (by omega)]
theorem IsP.gd_lt {m : Nat} {p : List Nat} (h : IsP m p) {i : Nat} (hi : i < m) : p.getD i 0 < m := h.lt (List.mem_of_getElem? (gd_some (by rw [h.len]; exact hi)))
theorem IsP.ix_lt {m : Nat} {p : List Nat} (h : IsP m p) {q : Nat} (hq : q < m) : p.idxOf q < m := by
  have := List.idxOf_lt_length_iff.mpr (h.mem hq)
  rwa [h.len] at this
theorem IsP.gd_ix {m : Nat} {p : List Nat} (h : IsP m p) {q : Nat} (hq : q < m) : p.getD (p.idxOf q) 0 = q := gd_of (idx_get (h.mem hq))
theorem IsP.ix_gd {m : Nat} {p : List Nat} (h : IsP m p) {i : Nat} (hi : i < m) : p.idxOf (p.getD i 0) = i := get_idx h.nd (gd_some (by rw [h.len]; exact hi))
theorem inv_gd {m : Nat} {p : List Nat} {q : Nat} (h : q < m) : (inv m p).getD q 0 = p.idxOf q := gd_of (inv_get h)
theorem aft_len {p q : List Nat} : (aft p q).length = p.length := by simp [aft]
theorem aft_gd {p q : List Nat} {i : Nat} (h : i < p.length) : (aft p q).getD i 0 = q.getD (p.getD i 0) 0 := by
  refine gd_of ?_
  unfold aft
  rw [List.getElem?_map, gd_some h]; rfl
theorem inv_isP {m : Nat} {p : List Nat} (h : IsP m p) : IsP m (inv m p) := by
  refine isP_of (inv_len m p) (fun x hx => ?_) (nodup_map List.nodup_range fun x hx y hy e => ?_)
  · obtain ⟨q, hq, rfl⟩ := List.mem_map.mp hx
    exact h.ix_lt (by simpa using hq)
  · have hx : x < m := by simpa using hx
    have hy : y < m := by simpa using hy
    rw [← h.gd_ix hx, ← h.gd_ix hy, e]
theorem aft_isP {m : Nat} {p q : List Nat} (h : IsP m p) (k : IsP m q) : IsP m (aft p q) := by
  refine isP_of (by rw [aft_len, h.len]) (fun x hx => ?_) (nodup_map h.nd fun x hx y hy e => ?_)
  · obtain ⟨i, hi, rfl⟩ := List.mem_map.mp hx
    exact k.gd_lt (h.lt hi)
  · rw [← k.ix_gd (h.lt hx), ← k.ix_gd (h.lt hy), e]
theorem rng_gd {m i : Nat} (h : i < m) : (List.range m).getD i 0 = i := gd_of (List.getElem?_range h)
theorem aft_inv {m : Nat} {p : List Nat} (h : IsP m p) : aft p (inv m p) = List.range m := ext_gd (m := m) (by rw [aft_len, h.len]) (by simp) fun i hi => by
  rw [aft_gd (by rw [h.len]; exact hi), inv_gd (h.gd_lt hi), h.ix_gd hi, rng_gd hi]
theorem inv_aft {m : Nat} {p : List Nat} (h : IsP m p) : aft (inv m p) p = List.range m := ext_gd (m := m) (by rw [aft_len, inv_len]) (by simp) fun i hi => by
  rw [aft_gd (by rw [inv_len]; exact hi), inv_gd hi, h.gd_ix hi, rng_gd hi]
theorem inv_inv {m : Nat} {p : List Nat} (h : IsP m p) : inv m (inv m p) = p := ext_gd (m := m) (inv_len _ _) h.len fun i hi => by
  have e := (inv_isP h).ix_gd (h.gd_lt hi)
  rw [inv_gd (h.gd_lt hi), h.ix_gd hi] at e
  rw [inv_gd hi, e]
theorem inv_of_aft {m : Nat} {p q : List Nat} (h : IsP m p) (k : IsP m q) : inv m (aft p q) = aft (inv m q) (inv m p) := ext_gd (m := m) (inv_len _ _) (by rw [aft_len, inv_len]) fun i hi => by
  rw [inv_gd hi, aft_gd (by rw [inv_len]; exact hi), inv_gd hi, inv_gd (k.ix_lt hi)]
  have hj := h.ix_lt (k.ix_lt hi)
  have e := (aft_isP h k).ix_gd hj
  rw [aft_gd (by rw [h.len]; exact hj), h.gd_ix (k.ix_lt hi), k.gd_ix hi] at e
  exact e
/-! ### tests, calls -/
/-- a test that is false, and leaves the frame -/
theorem wp_no {P : Po} {φ : Orc} {t : Te} {p r : Ss} {e : Env} (h : evalT φ t e = .ok (false, e)) (k : Wp P (Sw.execs φ r e)) : Wp P (Sw.execs φ (.cons (.iff t p .nil) r) e) := wp_if1 h (fun z => by cases z) fun _ => k
theorem t_e {φ : Orc} {a : E} {e e1 : Env} {b : Bool} (h : evalE φ a e = .ok (.d (.bool b), e1)) (ha : notVar a = true) : evalT φ (.e a) e = .ok (b, e1) := by
  rw [evalT]
  refine (bind2 (op_v ha h)).trans ?_
  rfl
theorem t_or {φ : Orc} {a b : Te} {e e1 e2 : Env} {x y : Bool} (h : evalT φ a e = .ok (x, e1)) (h2 : x = false → evalT φ b e1 = .ok (y, e2)) (he : x = true → e1 = e2) : evalT φ (.or a b) e = .ok (x || y, e2) := by
  rw [evalT]
  refine (bind2 h).trans ?_
  cases x
  · exact h2 rfl
  · rw [he rfl]; rfl
theorem t_and {φ : Orc} {a b : Te} {e e1 e2 : Env} {x y : Bool} (h : evalT φ a e = .ok (x, e1)) (h2 : x = true → evalT φ b e1 = .ok (y, e2)) (he : x = false → e1 = e2) : evalT φ (.and a b) e = .ok (x && y, e2) := by
  rw [evalT]
  refine (bind2 h).trans ?_
  cases x
  · rw [he rfl]; rfl
  · exact h2 rfl
theorem t_not {φ : Orc} {a : Te} {e e1 : Env} {x : Bool} (h : evalT φ a e = .ok (x, e1)) : evalT φ (.not a) e = .ok (!x, e1) := by
  rw [evalT]
  exact bind2 h
theorem e_and {φ : Orc} {a b : E} {e e1 : Env} {w : V} (h : evalE φ a e = .ok (.d (.bool true), e)) (h2 : evalE φ b e = .ok (w, e1)) : evalE φ (.and a b) e = .ok (w, e1) := by
  rw [evalE, da_of h rfl]
  exact h2
theorem c1_ev {φ : Orc} {f : String} {a : E} {e e1 : Env} {o : Opd} {x w y : V} (h : opW (evalE φ a) a e = .ok (o, e1)) (hv : Sw.val o e1 = x) (hx : isU x = false) (hc : φ f [x] = .ok (w, [y])) (ho : isOwn x = false) : evalE φ (.call f (.of [a])) e = .ok (w, e1) := by
  subst hv
  have h1 : evalOs φ (.of [a]) e = .ok ([o], e1) := os_cons h os_nil
  cases o with
  | x i => exact call_ev h1 (by simp only [apart, List.any, Sw.val] at *; rw [ho, hx]; rfl) rfl hc rfl (by show (if isOwn (Sw.get e1 i) = true then e1.set i y else e1) = e1; rw [if_neg (by rw [show isOwn (Sw.get e1 i) = false from ho]; exact Bool.false_ne_true)])
  | v z => exact call_ev h1 (by simp only [apart, List.any, Sw.val] at *; rw [hx]; rfl) rfl hc rfl rfl
theorem c2_ev {φ : Orc} {f : String} {a b : E} {e e1 e2 : Env} {o p : Opd} {x y : D} {w : V} {z z2 : V} (h : opW (evalE φ a) a e = .ok (o, e1)) (h2 : opW (evalE φ b) b e1 = .ok (p, e2)) (hv : Sw.val o e2 = .d x) (hv2 : Sw.val p e2 = .d y) (hc : φ f [.d x, .d y] = .ok (w, [z, z2])) : evalE φ (.call f (.of [a, b])) e = .ok (w, e2) := by
  have h1 : evalOs φ (.of [a, b]) e = .ok ([o, p], e2) := os_cons h (os_cons h2 os_nil)
  have m : ([o, p] : List Opd).map (Sw.val · e2) = [.d x, .d y] := by simp [hv, hv2]
  have n1 : ∀ (q : Opd) (d : D) (v : V) (r : List Opd) (s : List V) (e0 : Env), Sw.val q e2 = .d d → putBack e2 (q :: r) (v :: s) e0 = putBack e2 r s e0 := fun q d v r s e0 hq => by
    cases q with
    | x i => show putBack e2 r s (if isOwn (Sw.get e2 i) = true then e0.set i v else e0) = _; rw [show Sw.get e2 i = .d d from hq]; rfl
    | v z => rfl
  have n2 : ∀ (q : Opd) (d : D) (r : List Opd), Sw.val q e2 = .d d → apart e2 (q :: r) = apart e2 r := fun q d r hq => by
    cases q with
    | x i => simp only [apart]; rw [show Sw.get e2 i = .d d from hq]; rfl
    | v z => rfl
  refine call_ev h1 ?_ m hc rfl ?_
  · rw [n2 _ _ _ hv, n2 _ _ _ hv2]
    simp [hv, hv2, apart, isU]
  · rw [n1 _ _ _ _ _ _ hv, n1 _ _ _ _ _ _ hv2]; rfl
theorem e_eq {φ : Orc} {a b : E} {e e1 e2 : Env} {p q : Opd} {x y : D} {r : Bool} (h : opW (evalE φ a) a e = .ok (p, e1)) (h2 : opW (evalE φ b) b e1 = .ok (q, e2)) (hv : Sw.view p e2 = some x) (hv2 : Sw.view q e2 = some y) (ho : eqD x y = some r) : evalE φ (.o2 .eq a b) e = .ok (.d (.bool r), e2) :=
  o2_eval h h2 hv hv2 (by simp only [op2, ho, Option.map_some])
theorem e_ne {φ : Orc} {a b : E} {e e1 e2 : Env} {p q : Opd} {x y : D} {r : Bool} (h : opW (evalE φ a) a e = .ok (p, e1)) (h2 : opW (evalE φ b) b e1 = .ok (q, e2)) (hv : Sw.view p e2 = some x) (hv2 : Sw.view q e2 = some y) (ho : eqD x y = some r) : evalE φ (.o2 .ne a b) e = .ok (.d (.bool (!r)), e2) :=
  o2_eval h h2 hv hv2 (by simp only [op2, ho, Option.map_some])
theorem e_repr {φ : Orc} {a : E} {e e1 : Env} {p : Opd} {x : D} (h : opW (evalE φ a) a e = .ok (p, e1)) (hv : Sw.view p e1 = some x) (hx : okRepr x = true) : evalE φ (.o1 .repr a) e = .ok (.d (.str x.shown), e1) :=
  o1_eval h hv (by simp only [op1, hx, if_true])
theorem find_nats {q : Nat} : ∀ (p : List Nat) (j : Nat), q ∈ p → find (natD q) (natsD p) j = some (p.idxOf q + j)
  | [], _, h => by cases h
  | x :: r, j, h => by
    show (if (natD x).eqv (natD q) then some j else find (natD q) (natsD r) (j + 1)) = _
    have e : (natD x).eqv (natD q) = decide (x = q) := by
      show ((x : Int) == (q : Int)) = decide (x = q)
      by_cases h : x = q
      · subst h; simp
      · have : ¬ (x : Int) = (q : Int) := by omega
        simp [h, this]
    rw [e, List.idxOf_cons]
    by_cases z : x = q
    · subst z; simp
    · have : q ∈ r := by
        rcases List.mem_cons.mp h with y | y
        · exact absurd y.symm z
        · exact y
      rw [find_nats r (j + 1) this]
      rw [if_neg (by simpa using z), show (x == q) = false from beq_eq_false_iff_ne.mpr z]
      simp only [cond_false]
      congr 1
      omega
theorem idx_nat {q : List Nat} {i : Nat} (hq : i < q.length) : op2 .idx (tupN q) (natD i) = some (.d (natD (q.getD i 0))) := by
  show ((some (natsD q)).bind fun xs => (atI xs (i : Int)).map V.d) = _
  simp only [Option.bind_some, atI, natsD_len, ixN_nat hq, natsD_get, List.getElem?_eq_getElem hq, Option.map_some]
  rw [List.getD_eq_getElem?_getD, List.getElem?_eq_getElem hq]; rfl
theorem shaped_nat (q : Nat) : shapedB (natD q) = true := by rfl
theorem index_nats {p : List Nat} {q : Nat} (h : q ∈ p) : indexD (tupN p) (natD q) = some (.d (natD (p.idxOf q))) := by
  show ((some (natsD p)).bind fun xs => if shapedB (tupN p) && shapedB (natD q) then (find (natD q) xs 0).map fun (j : Nat) => V.d (.int (j : Int)) else none) = _
  rw [shaped_tupN, shaped_nat]
  simp only [Option.bind_some, Bool.and_self, if_true, find_nats p 0 h]
  rfl
theorem index_eval {φ : Orc} {a b : E} {e e1 e2 : Env} {o o2 : Opd} {x y : D} {xs : List D} {w : V} (h : opW (evalE φ a) a e = .ok (o, e1)) (hv1 : Sw.view o e1 = some x) (hx : seqOf x = some xs) (h2 : opW (evalE φ b) b e1 = .ok (o2, e2)) (hv : Sw.view o e2 = some x) (hv2 : Sw.view o2 e2 = some y) (hi : indexD x y = some w) : evalE φ (.index a b) e = .ok (w, e2) := by
  rw [evalE]
  refine (bind2 h).trans ((bind2 (a := x) (by rw [hv1]; rfl)).trans ((bind2 (a := xs) (by rw [hx]; rfl)).trans ((bind2 h2).trans ((bind2 (a := x) (by rw [hv]; rfl)).trans ((bind2 (a := y) (by rw [hv2]; rfl)).trans ?_)))))
  simp only [if_true, hi, ret1]
/-- a call with a list of one's own in slot i and a datum -/
theorem s1_ev {φ : Orc} {f : String} {i : Nat} {b : E} {e : Env} {o : Opd} {xs xs2 : List D} {y : D} {z w : V} (h : Sw.get e i = .c xs) (hb : opW (evalE φ b) b e = .ok (o, e)) (ho : Sw.val o e = .d y) (hc : φ f [.c xs, .d y] = .ok (w, [.c xs2, z])) : evalE φ (.call f (.of [.var i, b])) e = .ok (w, e.set i (.c xs2)) := by
  have h1 : evalOs φ (.of [.var i, b]) e = .ok ([.x i, o], e) := os_cons (op_var (by rw [h]; rfl)) (os_cons hb os_nil)
  refine call_ev (args := [.c xs, .d y]) h1 ?_ (by simp [Sw.val, h, ho] <;> exact ho) hc rfl ?_
  · cases o with
    | x j =>
      have hj : Sw.get e j = .d y := ho
      have : i ≠ j := fun z => by subst z; rw [h] at hj; cases hj
      simp [apart, h, hj, isOwn, isU, Sw.val, this]
    | v q =>
      have hq : q = .d y := ho
      simp [apart, h, hq, isOwn, isU, Sw.val]
  · cases o with
    | x j =>
      have hj : Sw.get e j = .d y := ho
      simp [putBack, h, hj, isOwn]
    | v q => simp [putBack, h, isOwn]
theorem draw_int {T : Tab} (hD : T "_law_draw" = some b_law_draw) (n : Nat) (a b : Int) (m : Nat) (h0 : 0 < m) (hm : m ≤ 1000000) :
    ∃ (k : Nat) (a' b' : Int), callF T (n + 1) "_law_draw" [.c [.int a, .int b], .d (natD m)] = .ok (.d (natD k), [.c [.int a', .int b'], .d (natD m)]) ∧ k < m := by
  obtain ⟨k, a', b', h, k0, k1⟩ := draw_ok hD n a b m (by omega) (by omega)
  refine ⟨k.toNat, a', b', ?_, by omega⟩
  rw [show natD k.toNat = .int k by show PyData.int ((k.toNat : Nat) : Int) = .int k; rw [Int.toNat_of_nonneg k0]]
  exact h
theorem idx_natL {q : List Nat} {i : Nat} (hq : i < q.length) : op2 .idx (.list (natsD q)) (natD i) = some (.d (natD (q.getD i 0))) := by
  show ((some (natsD q)).bind fun xs => (atI xs (i : Int)).map V.d) = _
  simp only [Option.bind_some, atI, natsD_len, ixN_nat hq, natsD_get, List.getElem?_eq_getElem hq, Option.map_some]
  rw [List.getD_eq_getElem?_getD, List.getElem?_eq_getElem hq]; rfl
end Sw
end T_SxB
section T_SxC
set_option autoImplicit false
set_option linter.all false
set_option maxRecDepth 100000
/-! SxC: numbers; literal lists; the deck of three numbers. -/
namespace Sw
open PySem
/-! ### operators on naturals -/
theorem o_mod {a b : Nat} (h : 0 < b) : op2 .mod (natD a) (natD b) = some (.d (natD (a % b))) := by
  show (if decide ((0 : Int) < (b : Int)) = true then some (V.d (.int ((a : Int) % (b : Int)))) else none) = _
  rw [if_pos (decide_eq_true (by omega))]; rfl
theorem o_div {a b : Nat} (h : 0 < b) (hb : b < 18446744073709551616) : op2 .fdiv (natD a) (natD b) = some (.d (natD (a / b))) := by
  show (if decide ((0 : Int) < (b : Int) ∧ ((b : Int) < 18446744073709551616 ∨ (b : Int).natAbs.log2 < 9000)) = true then some (V.d (.int ((a : Int) / (b : Int)))) else none) = _
  rw [if_pos (decide_eq_true ⟨by omega, .inl (by omega)⟩)]; rfl
theorem o_add {a b : Nat} : op2 .add (natD a) (natD b) = some (.d (natD (a + b))) := by
  show some (V.d (.int ((a : Int) + (b : Int)))) = _
  rw [← Int.natCast_add]; rfl
theorem o_mul {a b : Nat} (h : a < 18446744073709551616) : op2 .mul (natD a) (natD b) = some (.d (natD (a * b))) := by
  show (if (a : Int).natAbs < 2 ^ 64 ∨ (b : Int).natAbs < 2 ^ 64 ∨ _ then some (V.d (.int ((a : Int) * (b : Int)))) else none) = _
  rw [if_pos (.inl (by omega)), ← Int.natCast_mul]; rfl
theorem o_shl {a b : Nat} (h : a < 18446744073709551616) (hb : b ≤ 1000000) : op2 .shl (natD a) (natD b) = some (.d (natD (a * 2 ^ b))) := by
  show (if decide (0 ≤ (b : Int) ∧ (b : Int) ≤ 1000000 ∧ (a : Int).natAbs < 2 ^ 64) = true then some (V.d (.int ((a : Int) * 2 ^ (b : Int).toNat))) else none) = _
  rw [if_pos (decide_eq_true ⟨by omega, by omega, by omega⟩), Int.toNat_natCast]
  have : (a : Int) * 2 ^ b = ((a * 2 ^ b : Nat) : Int) := by rw [Int.natCast_mul, Int.natCast_pow]; rfl
  rw [this]; rfl
theorem o_shr {a b : Nat} : op2 .shr (natD a) (natD b) = some (.d (natD (a / 2 ^ b))) := by
  show (if decide (0 ≤ (b : Int)) = true then some (V.d (.int ((a : Int) / 2 ^ (b : Int).toNat))) else none) = _
  rw [if_pos (decide_eq_true (by omega)), Int.toNat_natCast]
  have : (a : Int) / 2 ^ b = ((a / 2 ^ b : Nat) : Int) := by rw [Int.natCast_ediv, Int.natCast_pow]; rfl
  rw [this]; rfl
theorem o_sub {a b : Nat} (h : b ≤ a) : op2 .sub (natD a) (natD b) = some (.d (natD (a - b))) := by
  show some (V.d (.int ((a : Int) - (b : Int)))) = _
  have : (a : Int) - (b : Int) = ((a - b : Nat) : Int) := by omega
  rw [this]; rfl
theorem o_min {a b : Nat} : op2 .min2 (natD a) (natD b) = some (.d (natD (min a b))) := by
  show some (V.d (.int (if (b : Int) < (a : Int) then (b : Int) else (a : Int)))) = _
  have : (if (b : Int) < (a : Int) then (b : Int) else (a : Int)) = ((min a b : Nat) : Int) := by split <;> omega
  rw [this]; rfl
theorem o_max {a b : Nat} : op2 .max2 (natD a) (natD b) = some (.d (natD (max a b))) := by
  show some (V.d (.int (if (b : Int) > (a : Int) then (b : Int) else (a : Int)))) = _
  have : (if (b : Int) > (a : Int) then (b : Int) else (a : Int)) = ((max a b : Nat) : Int) := by split <;> omega
  rw [this]; rfl
theorem bq {a b : Nat} : ((a : Int) == (b : Int)) = decide (a = b) := by
  by_cases h : a = b
  · subst h; simp
  · rw [decide_eq_false h]; exact beq_eq_false_iff_ne.mpr (by omega)
theorem d_eq {a b : Nat} : eqD (natD a) (natD b) = some (decide (a = b)) := by
  show some ((a : Int) == (b : Int)) = _
  rw [bq]
theorem o_eq {a b : Nat} : op2 .eq (natD a) (natD b) = some (.d (.bool (decide (a = b)))) := by simp only [op2, d_eq, Option.map_some]
theorem o_ne {a b : Nat} : op2 .ne (natD a) (natD b) = some (.d (.bool (!decide (a = b)))) := by simp only [op2, d_eq, Option.map_some]
theorem o_lt {a b : Nat} : op2 .lt (natD a) (natD b) = some (.d (.bool (decide (a < b)))) := by
  show some (V.d (.bool (decide ((a : Int) < (b : Int))))) = _
  congr 3; exact decide_eq_decide.mpr (by omega)
theorem o_le {a b : Nat} : op2 .le (natD a) (natD b) = some (.d (.bool (decide (a ≤ b)))) := by
  show some (V.d (.bool (decide ((a : Int) ≤ (b : Int))))) = _
  congr 3; exact decide_eq_decide.mpr (by omega)
theorem o_gt {a b : Nat} : op2 .gt (natD a) (natD b) = some (.d (.bool (decide (b < a)))) := by
  show some (V.d (.bool (decide ((b : Int) < (a : Int))))) = _
  congr 3; exact decide_eq_decide.mpr (by omega)
theorem o_ge {a b : Nat} : op2 .ge (natD a) (natD b) = some (.d (.bool (decide (b ≤ a)))) := by
  show some (V.d (.bool (decide ((b : Int) ≤ (a : Int))))) = _
  congr 3; exact decide_eq_decide.mpr (by omega)
/-! ### literal lists and tuples, parts of a list -/
theorem ds_nil {φ : Orc} {e : Env} : evalDs φ .nil e = .ok ([], e) := by rw [evalDs]
theorem ds_cons {φ : Orc} {a : E} {r : Es} {e e1 e2 : Env} {d : D} {ds : List D} (h : daW (evalE φ a) e = .ok (d, e1)) (h2 : evalDs φ r e1 = .ok (ds, e2)) : evalDs φ (.cons a r) e = .ok (d :: ds, e2) := by
  rw [evalDs]
  exact (bind2 h).trans (bind2 h2)
theorem lst_ev {φ : Orc} {es : Es} {e e1 : Env} {ds : List D} (h : evalDs φ es e = .ok (ds, e1)) (hl : ds.length ≤ 1000) : evalE φ (.lst es) e = .ok (.c ds, e1) := by
  rw [evalE]
  refine (bind2 h).trans ?_
  rw [if_pos (show ds.length ≤ lim by unfold lim; omega)]
theorem tup_ev {φ : Orc} {es : Es} {e e1 : Env} {ds : List D} (h : evalDs φ es e = .ok (ds, e1)) (hl : ds.length ≤ 1000) : evalE φ (.tup es) e = .ok (.d (.tuple ds), e1) := by
  rw [evalE]
  refine (bind2 h).trans ?_
  rw [if_pos (show ds.length ≤ lim by unfold lim; omega)]
theorem da_int {φ : Orc} {i : Int} {e : Env} : daW (evalE φ (.int i)) e = .ok (.int i, e) := da_of int_eval rfl
theorem part_no {φ : Orc} {e : Env} : evalPart φ .no e = .ok (none, e) := by rw [evalPart]
theorem part_yes {φ : Orc} {a : E} {e e1 : Env} {i : Int} (h : daW (evalE φ a) e = .ok (.int i, e1)) : evalPart φ (.yes a) e = .ok (some i, e1) := by
  rw [evalPart]
  exact bind2 h
theorem slice_ev {φ : Orc} {a : E} {lo hi : Eo} {e e1 e2 e3 : Env} {o : Opd} {l h : Option Int} {x : D} {w : V} (ha : opW (evalE φ a) a e = .ok (o, e1)) (hl : evalPart φ lo e1 = .ok (l, e2)) (hh : evalPart φ hi e2 = .ok (h, e3)) (hv : Sw.view o e3 = some x) (hw : sliceD x l h = some w) : evalE φ (.slice a lo hi) e = .ok (w, e3) := by
  rw [evalE]
  refine (bind2 ha).trans ((bind2 hl).trans ((bind2 hh).trans ((bind2 (a := x) (by rw [hv]; rfl)).trans ?_)))
  show ret1 (sliceD x l h) e3 = _
  rw [hw]; rfl
theorem cutIx_nat {n d k : Nat} : cutIx n d (some (k : Int)) = min k n := by
  show (if (k : Int) < 0 then ((k : Int) + n).toNat else min (k : Int).toNat n) = _
  rw [if_neg (by omega), Int.toNat_natCast]
theorem cut_to {α : Type} {xs : List α} {k : Nat} : cut xs none (some (k : Int)) = xs.take k := by
  unfold cut
  rw [cutIx_nat]
  show (xs.drop 0).take (min k xs.length - 0) = _
  rw [List.drop_zero, Nat.sub_zero]
  by_cases h : k ≤ xs.length
  · rw [Nat.min_eq_left h]
  · rw [Nat.min_eq_right (by omega), List.take_of_length_le (Nat.le_refl _), List.take_of_length_le (by omega)]
theorem cut_from {α : Type} {xs : List α} {k : Nat} : cut xs (some (k : Int)) none = xs.drop k := by
  unfold cut
  rw [cutIx_nat]
  show (xs.drop (min k xs.length)).take (xs.length - min k xs.length) = _
  by_cases h : k ≤ xs.length
  · rw [Nat.min_eq_left h, List.take_of_length_le (by simp)]
  · rw [Nat.min_eq_right (by omega), List.drop_of_length_le (Nat.le_refl _), List.drop_of_length_le (by omega)]
    simp
/-- the cells of the script with a nought behind them, the first k -/
theorem cells_src {φ : Orc} {ns : List Int} {k : Nat} {e : Env} (hn : ns.length ≤ 63) (h0 : Sw.get e 0 = .d (.list (ns.map .int))) : ∃ zs : List Int, evalSrc φ (.seq (.slice (.o2 .add (.var 0) (.lst (.of [(.int 0)]))) .no (.yes (.int (k : Int))))) e = .ok (zs.map .int, e) := by
  refine ⟨(ns ++ [0]).take k, ?_⟩
  have e1 : evalE φ (.lst (.of [(.int 0)])) e = .ok (.c [.int 0], e) := lst_ev (ds_cons da_int ds_nil) (by decide)
  have hv : Sw.view (.x 0) e = some (.list (ns.map .int)) := by
    show viewV (Sw.get e 0) = _
    rw [h0]; rfl
  have e2 : evalE φ (.o2 .add (.var 0) (.lst (.of [(.int 0)]))) e = .ok (.c (ns.map .int ++ [.int 0]), e) := by
    refine o2_eval (op_var (by rw [h0]; rfl)) (op_v rfl e1) hv rfl ?_
    show (if (ns.map PyData.int).length + 1 ≤ lim then some (V.c _) else none) = _
    rw [if_pos (by rw [List.length_map]; unfold lim; omega)]
  have e3 : evalE φ (.slice (.o2 .add (.var 0) (.lst (.of [(.int 0)]))) .no (.yes (.int (k : Int)))) e = .ok (.c (((ns ++ [0]).take k).map .int), e) := by
    refine slice_ev (op_v rfl e2) part_no (part_yes da_int) rfl ?_
    show some (V.c (cut (ns.map .int ++ [.int 0]) none (some (k : Int)))) = _
    rw [cut_to, List.map_take, List.map_append]; rfl
  exact src_sq (da_of e3 rfl) rfl
/-! ### the deck of three numbers -/
def b_deck : FDef := ⟨1, 1, [], (.of [
  .iff (.e (.o2 .lt (.var 0) (.o2 .pow (.int 10) (.int 18)))) (.of [
    .ret (.lst (.of [(.int 0), (.int 0), (.o2 .mod (.var 0) (.int 2147483647))]))]) (.of []),
  .ret (.lst (.of [(.var 0), (.int 0), (.o2 .mod (.var 0) (.int 2147483647))]))])⟩
def b_draw3 : FDef := ⟨2, 4, [], (.of [
  .iff (.e (.o2 .gt (.o2 .idx (.var 0) (.int 0)) (.int 0))) (.of [
    .asg 2 (.o2 .mod (.o2 .idx (.var 0) (.int 0)) (.var 1)),
    .st 0 (.int 0) (.o2 .fdiv (.o2 .idx (.var 0) (.int 0)) (.var 1)),
    .ret (.mv 2)]) (.of []),
  .st 0 (.int 1) (.o2 .add (.o2 .idx (.var 0) (.int 1)) (.int 1)),
  .asg 3 (.o2 .mod (.o2 .mul (.o2 .add (.o2 .add (.o2 .idx (.var 0) (.int 2)) (.o2 .mul (.o2 .mul (.int 7919) (.o2 .idx (.var 0) (.int 1))) (.o2 .idx (.var 0) (.int 1)))) (.int 31)) (.int 48271)) (.int 2147483647)),
  .asg 3 (.o2 .mod (.o2 .add (.o2 .add (.o2 .mul (.var 3) (.var 3)) (.o2 .mul (.int 69621) (.var 3))) (.int 17)) (.int 2147483629)),
  .ret (.o2 .mod (.o2 .fdiv (.o2 .mod (.o2 .mul (.var 3) (.int 16807)) (.int 2147483587)) (.int 8)) (.var 1))])⟩
theorem deck_ok {T : Tab} (hT : T "_law_deck" = some b_deck) (n : Nat) (z : Int) :
    ∃ a s : Int, callF T (n + 1) "_law_deck" [.d (.int z)] = .ok (.c [.int a, natD 0, .int s], [.d (.int z)]) := by
  rw [call_eq hT rfl]
  by_cases h : z < 1000000000000000000
  · simp [Ss.of, Es.of, Sw.execs, Sw.exec, evalE, evalT, evalC, evalDs, evalOs, evalSrc, evalPart, opW, daW, Sw.get, Sw.view, viewV, Sw.settle, op1, op2, cmpD, Sw.truth, seqOf, atI, Sw.ixN, int2, ret1, isU, isC, isOwn, setC, endF, killAll, Sw.val, addD, mulD, intMul, eqD, callE, apart, putBack, asgT, asgTs, b_deck, h, lim, natD]
  · simp [Ss.of, Es.of, Sw.execs, Sw.exec, evalE, evalT, evalC, evalDs, evalOs, evalSrc, evalPart, opW, daW, Sw.get, Sw.view, viewV, Sw.settle, op1, op2, cmpD, Sw.truth, seqOf, atI, Sw.ixN, int2, ret1, isU, isC, isOwn, setC, endF, killAll, Sw.val, addD, mulD, intMul, eqD, callE, apart, putBack, asgT, asgTs, b_deck, h, lim, natD]
theorem draw3_int {T : Tab} (hT : T "_law_draw" = some b_draw3) (n : Nat) (a s c m : Int) (hm : 0 < m) (hl : m < 18446744073709551616) (hc : 0 ≤ c ∧ c < 1000000000000) :
    ∃ r a' c' : Int, callF T (n + 1) "_law_draw" [.c [.int a, .int c, .int s], .d (.int m)] = .ok (.d (.int r), [.c [.int a', .int c', .int s], .d (.int m)]) ∧ 0 ≤ r ∧ r < m ∧ 0 ≤ c' ∧ c' ≤ c + 1 := by
  have h1 : ∀ x : Int, 0 ≤ x % m := fun x => Int.emod_nonneg x (by omega)
  have h2 : ∀ x : Int, x % m < m := fun x => Int.emod_lt_of_pos x hm
  rw [call_eq hT rfl]
  by_cases ha : 0 < a
  · simp [Ss.of, Es.of, Sw.execs, Sw.exec, evalE, evalT, evalC, evalDs, evalOs, evalSrc, evalPart, opW, daW, Sw.get, Sw.view, viewV, Sw.settle, op1, op2, cmpD, Sw.truth, seqOf, atI, Sw.ixN, int2, ret1, isU, isC, isOwn, setC, endF, killAll, Sw.val, addD, mulD, intMul, eqD, callE, apart, putBack, asgT, asgTs, b_draw3, hm, hl, ha]
    exact ⟨_, _, _, ⟨rfl, rfl, rfl⟩, h1 _, h2 _, by omega, by omega⟩
  · have k1 : (c + 1).natAbs < 18446744073709551616 := by omega
    have k2 : ∀ x : Int, (x % 2147483647).natAbs < 18446744073709551616 := fun x => by omega
    simp [Ss.of, Es.of, Sw.execs, Sw.exec, evalE, evalT, evalC, evalDs, evalOs, evalSrc, evalPart, opW, daW, Sw.get, Sw.view, viewV, Sw.settle, op1, op2, cmpD, Sw.truth, seqOf, atI, Sw.ixN, int2, ret1, isU, isC, isOwn, setC, endF, killAll, Sw.val, addD, mulD, intMul, eqD, callE, apart, putBack, asgT, asgTs, b_draw3, hm, hl, ha, k1, k2]
    exact ⟨_, _, _, ⟨rfl, rfl, rfl⟩, h1 _, h2 _, by omega, by omega⟩
theorem draw3 {T : Tab} (hT : T "_law_draw" = some b_draw3) (n : Nat) (a s : Int) (c m : Nat) (hm : 0 < m) (hl : m ≤ 1000000) (hc : c < 1000000000000) :
    ∃ (k : Nat) (a' : Int) (c' : Nat), callF T (n + 1) "_law_draw" [.c [.int a, natD c, .int s], .d (natD m)] = .ok (.d (natD k), [.c [.int a', natD c', .int s], .d (natD m)]) ∧ k < m ∧ c' ≤ c + 1 := by
  obtain ⟨r, a', c', h, h0, h1, h2, h3⟩ := draw3_int hT n a s c m (by omega) (by omega) (by omega)
  refine ⟨r.toNat, a', c'.toNat, ?_, by omega, by omega⟩
  have e : ∀ r : Int, 0 ≤ r → natD r.toNat = .int r := fun r hr => by
    show PyData.int ((r.toNat : Nat) : Int) = .int r
    rw [Int.toNat_of_nonneg hr]
  rw [e r h0, e c' h2]
  exact h
end Sw
end T_SxC
section T_SxD
set_option autoImplicit false
set_option linter.all false
set_option maxRecDepth 100000
/-! SxD: loops over ranges and lists by what stays true; numbers by their bits. -/
namespace Sw
open PySem
theorem natsD_append (a b : List Nat) : natsD (a ++ b) = natsD a ++ natsD b := List.map_append ..
theorem wp_mono {P R : Po} {r : SR} (k : Wp P r) (h1 : ∀ e, P.N e → R.N e) (h2 : ∀ e, P.B e → R.B e) (h3 : ∀ e, P.C e → R.C e) (h4 : ∀ v e, P.Q v e → R.Q v e) : Wp R r := by
  cases r with
  | nx e => exact ⟨h1 e k.h⟩
  | bk e => exact ⟨h2 e k.h⟩
  | ct e => exact ⟨h3 e k.h⟩
  | rt v e => exact ⟨h4 v e k.h⟩
  | exc c => exact k.h.elim
  | bad => exact k.h.elim
theorem wp_forL {P : Po} {φ : Orc} {i : Nat} {s : Src} {b r : Ss} {kill : List Nat} {e e1 : Env} {α : Type} (g : α → D) {l : List α} (h : evalSrc φ s e = .ok (l.map g, e1)) (J : List α → Env → Prop) (h0 : J [] e1) (hn : ∀ e, J l e → Wp P (Sw.execs φ r e))
    (step : ∀ S x R e, l = S ++ x :: R → J S e → Wp ⟨fun e1 => J (S ++ [x]) (killAll kill e1), fun e1 => Wp P (Sw.execs φ r (killAll kill e1)), fun e1 => J (S ++ [x]) (killAll kill e1), P.Q⟩ (Sw.execs φ b (e.set i (.d (g x))))) : Wp P (Sw.execs φ (.cons (.forr (.n i) s b kill) r) e) := by
  refine wp_for h (fun rest e => ∃ S R, l = S ++ R ∧ rest = R.map g ∧ J S e) ⟨[], l, rfl, rfl, h0⟩ (fun e he => ?_) fun x q e he => ?_
  · obtain ⟨S, R, h1, h2, h3⟩ := he
    cases R with
    | nil => rw [List.append_nil] at h1; subst h1; exact hn e h3
    | cons x R => cases h2
  · obtain ⟨S, R, h1, h2, h3⟩ := he
    cases R with
    | nil => cases h2
    | cons y R =>
      injection h2 with h4 h5
      subst h4
      refine ⟨_, rfl, ?_⟩
      have k := step S y R e h1 h3
      refine wp_mono k ?_ ?_ ?_ ?_
      · exact fun e1 z => ⟨S ++ [y], R, by rw [h1]; simp, h5, z⟩
      · exact fun e1 z => z
      · exact fun e1 z => ⟨S ++ [y], R, by rw [h1]; simp, h5, z⟩
      · exact fun v e1 z => z
theorem wp_forN {P : Po} {φ : Orc} {i m : Nat} {s : Src} {b r : Ss} {kill : List Nat} {e e1 : Env} (h : evalSrc φ s e = .ok (natsD (List.range m), e1)) (J : Nat → Env → Prop) (h0 : J 0 e1) (hn : ∀ e, J m e → Wp P (Sw.execs φ r e))
    (step : ∀ j e, j < m → J j e → Wp ⟨fun e1 => J (j + 1) (killAll kill e1), fun e1 => Wp P (Sw.execs φ r (killAll kill e1)), fun e1 => J (j + 1) (killAll kill e1), P.Q⟩ (Sw.execs φ b (e.set i (.d (natD j))))) : Wp P (Sw.execs φ (.cons (.forr (.n i) s b kill) r) e) := by
  refine wp_forL natD h (fun S e => J S.length e) h0 (fun e he => hn e (by simpa using he)) fun S x R e hl hj => ?_
  have len : S.length + (R.length + 1) = m := by
    have := congrArg List.length hl
    simpa using this.symm
  have hx : x = S.length := by
    have : (List.range m)[S.length]? = some x := by rw [hl, List.getElem?_append_right (Nat.le_refl _), Nat.sub_self]; rfl
    rw [List.getElem?_range (by omega)] at this
    exact (Option.some.inj this).symm
  subst hx
  have k := step S.length e (by omega) hj
  rw [show (S ++ [S.length]).length = S.length + 1 by simp]
  exact k
/-- a comprehension over a list: J of the part done, its values, the frame -/
theorem comp_forL {φ : Orc} {own : List Nat} {i : Nat} {s : Src} {a : E} {e e1 : Env} {α : Type} (g : α → D) {l : List α} (hs : evalSrc φ s e = .ok (l.map g, e1)) (hl : l.length ≤ 1000000) (J : List α → List D → Env → Prop) (h0 : J [] [] (killAll own e1))
    (step : ∀ S x R ys e, l = S ++ x :: R → J S ys e → ∃ d e2, daW (evalE φ a) (e.set i (.d (g x))) = .ok (d, e2) ∧ J (S ++ [x]) (ys ++ [d]) (killAll own e2)) :
    ∃ ys e2, evalE φ (.comp own (.n i) s .no a) e = .ok (.c ys, restore e1 own e2) ∧ J l ys e2 := by
  obtain ⟨ys, e2, h1, S, R, h2, h3, h4⟩ := compL_inv (f := stepC φ (.n i) .no a) (own := own) (fun rest acc e => ∃ S R, l = S ++ R ∧ rest = R.map g ∧ J S acc e) (fun x r acc e he => by
    obtain ⟨S, R, h1, h2, h3⟩ := he
    cases R with
    | nil => cases h2
    | cons y R =>
      injection h2 with h4 h5
      subst h4
      obtain ⟨d, e2, k1, k2⟩ := step S y R acc e h1 h3
      refine ⟨some d, e2, ?_, S ++ [y], R, by rw [h1]; simp, h5, k2⟩
      show (Sw.R.ofO (some (e.set i (.d (g y))))).bind _ = _
      simp only [Sw.R.ofO_some, Sw.R.bind_ok, evalC, if_true, k1]) (l.map g) [] (killAll own e1) ⟨[], l, rfl, rfl, h0⟩
  have hR : R = [] := by
    cases R with
    | nil => rfl
    | cons x R => cases h3
  subst hR
  rw [List.append_nil] at h2
  subst h2
  exact ⟨ys, e2, comp_eval hs (by rw [List.length_map]; unfold lim; omega) rfl h1 rfl, h4⟩
theorem comp_forN {φ : Orc} {own : List Nat} {i m : Nat} {s : Src} {a : E} {e e1 : Env} (hs : evalSrc φ s e = .ok (natsD (List.range m), e1)) (hm : m ≤ 1000000) (J : Nat → List D → Env → Prop) (h0 : J 0 [] (killAll own e1))
    (step : ∀ j ys e, j < m → J j ys e → ∃ d e2, daW (evalE φ a) (e.set i (.d (natD j))) = .ok (d, e2) ∧ J (j + 1) (ys ++ [d]) (killAll own e2)) :
    ∃ ys e2, evalE φ (.comp own (.n i) s .no a) e = .ok (.c ys, restore e1 own e2) ∧ J m ys e2 := by
  obtain ⟨ys, e2, h1, h2⟩ := comp_forL natD hs (by simpa using hm) (fun S ys e => J S.length ys e) h0 fun S x R ys e hl hj => by
    have len : S.length + (R.length + 1) = m := by
      have := congrArg List.length hl
      simpa using this.symm
    have hx : x = S.length := by
      have : (List.range m)[S.length]? = some x := by rw [hl, List.getElem?_append_right (Nat.le_refl _), Nat.sub_self]; rfl
      rw [List.getElem?_range (by omega)] at this
      exact (Option.some.inj this).symm
    subst hx
    obtain ⟨d, e2, k1, k2⟩ := step S.length ys e (by omega) hj
    exact ⟨d, e2, k1, by simpa using k2⟩
  exact ⟨ys, e2, h1, by simpa using h2⟩
theorem src_n {φ : Orc} {a : E} {e e1 : Env} {m : Nat} (h : daW (evalE φ a) e = .ok (natD m, e1)) (hm : m ≤ 100000) : evalSrc φ (.rng1 a) e = .ok (natsD (List.range m), e1) := by
  rw [← rangeD_nat]
  exact src_r1 h (range2_nat hm)
theorem pop_ev {φ : Orc} {i : Nat} {a : E} {e e1 : Env} {o : Opd} {r : Int} {xs xs2 : List D} {x : D} (hc : isC (Sw.get e i) = true) (h : opW (evalE φ a) a e = .ok (o, e1)) (hv : Sw.view o e1 = some (.int r)) (hx : Sw.get e1 i = .c xs) (hp : popAt xs r = some (x, xs2)) : evalE φ (.pop i a) e = .ok (.d x, e1.set i (.c xs2)) := by
  rw [evalE, if_pos hc]
  refine (bind2 h).trans ((bind2 (a := PyData.int r) (by rw [hv]; rfl)).trans ?_)
  simp only [hx, hp]
theorem app_ev {φ : Orc} {i : Nat} {a : E} {e e1 : Env} {xs : List D} {x : D} (hc : isC (Sw.get e i) = true) (h : daW (evalE φ a) e = .ok (x, e1)) (hx : Sw.get e1 i = .c xs) (hl : xs.length < 1000000) : evalE φ (.app i a) e = .ok (.d .none, e1.set i (.c (xs ++ [x]))) := by
  rw [evalE, if_pos hc]
  refine (bind2 h).trans ?_
  simp only [hx]
  rw [if_pos (by unfold lim; omega)]
/-! ### a number by its bits -/
def bt (w b : Nat) : Nat := w / 2 ^ b % 2
theorem bt_le (w b : Nat) : bt w b ≤ 1 := by unfold bt; omega
def num (c : Nat → Nat) : Nat → Nat
  | 0 => 0
  | m + 1 => num c m + c m * 2 ^ m
theorem num_lt {c : Nat → Nat} (h : ∀ i, c i ≤ 1) : ∀ m, num c m < 2 ^ m
  | 0 => by simp [num]
  | m + 1 => by
    have := num_lt h m
    have h1 := h m
    have : c m * 2 ^ m ≤ 1 * 2 ^ m := Nat.mul_le_mul_right _ h1
    simp only [num, Nat.pow_succ]
    omega
theorem num_bit {c : Nat → Nat} (h : ∀ i, c i ≤ 1) : ∀ {m b : Nat}, b < m → bt (num c m) b = c b
  | 0, _, hb => by omega
  | m + 1, b, hb => by
    have pos : 0 < 2 ^ b := Nat.pow_pos (by decide)
    by_cases e : b = m
    · subst e
      have l := num_lt h b
      have h1 := h b
      unfold bt
      simp only [num]
      rw [Nat.add_mul_div_right _ _ pos, Nat.div_eq_of_lt l]
      omega
    · have ih := num_bit h (show b < m by omega)
      unfold bt at ih ⊢
      simp only [num]
      have : c m * 2 ^ m = (2 * (c m * 2 ^ (m - b - 1))) * 2 ^ b := by
        have : 2 ^ m = 2 ^ (m - b - 1) * 2 * 2 ^ b := by
          rw [← Nat.pow_succ, ← Nat.pow_add]
          congr 1
          omega
        rw [this]
        simp only [Nat.mul_assoc, Nat.mul_comm, Nat.mul_left_comm]
      rw [this, Nat.add_mul_div_right _ _ pos]
      omega
theorem num_of (w : Nat) : ∀ m, num (bt w) m = w % 2 ^ m
  | 0 => by simp [num, Nat.mod_one]
  | m + 1 => by
    simp only [num]
    rw [num_of w m, Nat.mod_pow_succ, Nat.mul_comm]; rfl
theorem num_congr {c c' : Nat → Nat} : ∀ {m : Nat}, (∀ i < m, c i = c' i) → num c m = num c' m
  | 0, _ => rfl
  | m + 1, h => by
    simp only [num]
    rw [num_congr fun i hi => h i (by omega), h m (by omega)]
def upd1 (c : Nat → Nat) (b v : Nat) : Nat → Nat := fun i => if i = b then v else c i
theorem num_upd {c : Nat → Nat} {b v : Nat} : ∀ {m : Nat}, b < m → num (upd1 c b v) m + c b * 2 ^ b = num c m + v * 2 ^ b
  | 0, h => by omega
  | m + 1, h => by
    simp only [num]
    by_cases e : b = m
    · subst e
      rw [num_congr (c := upd1 c b v) (c' := c) fun i hi => by unfold upd1; rw [if_neg (by omega)]]
      have : upd1 c b v b = v := by unfold upd1; rw [if_pos rfl]
      rw [this]; omega
    · have ih := num_upd (c := c) (v := v) (show b < m by omega)
      have : upd1 c b v m = c m := by unfold upd1; rw [if_neg (by omega)]
      rw [this]; omega
def b_two : FDef := ⟨1, 1, [], (.of [
  .ret (.o2 .idx (.lst (.of [(.int 1), (.int 2), (.int 4), (.int 8), (.int 16), (.int 32)])) (.var 0))])⟩
theorem two_gen {T : Tab} (hT : T "_law_two" = some b_two) (n : Nat) {k : Nat} (hk : k < 6) : callF T (n + 1) "_law_two" [.d (natD k)] = .ok (.d (natD (2 ^ k)), [.d (natD k)]) := by
  suffices h : ∃ v outs, callF T (n + 1) "_law_two" [.d (natD k)] = .ok (v, outs) ∧ v = .d (natD (2 ^ k)) ∧ outs = [.d (natD k)] by
    obtain ⟨v, outs, h, rfl, rfl⟩ := h
    exact h
  refine call_wp (fun v outs => v = .d (natD (2 ^ k)) ∧ outs = [.d (natD k)]) (fd := b_two) hT rfl ?_
  have e1 : evalE (callF T n) (.lst (.of [(.int 1), (.int 2), (.int 4), (.int 8), (.int 16), (.int 32)])) [.d (natD k)] = .ok (.c (natsD [1, 2, 4, 8, 16, 32]), [.d (natD k)]) :=
    lst_ev (ds_cons da_int (ds_cons da_int (ds_cons da_int (ds_cons da_int (ds_cons da_int (ds_cons da_int ds_nil)))))) (by decide)
  refine wp_ret (o2_eval (op_v rfl e1) (op_var rfl) rfl rfl (idx_natL hk)) ⟨?_, rfl⟩
  have : ∀ k < 6, [1, 2, 4, 8, 16, 32].getD k 0 = 2 ^ k := by decide
  rw [this k hk]
def r1 (r : R (Sw.V × List Sw.V)) : Option D := match r with | .ok (.d a, [_]) => some a | _ => none
theorem r1_some {r : R (Sw.V × List Sw.V)} {a : D} (h : r1 r = some a) : ∃ y, r = .ok (.d a, [y]) := by
  unfold r1 at h
  split at h
  · cases h; exact ⟨_, rfl⟩
  · cases h
end Sw
end T_SxD
section T_SxE
set_option autoImplicit false
set_option linter.all false
set_option maxRecDepth 100000
/-! SxE: what a check of a run (by the kernel) says; while; comprehensions that keep nothing. -/
namespace Sw
open PySem
/-- the datum that a call gives -/
def dat (r : R (V × List V)) : D := (r1 r).getD .none
def isD (r : R (V × List V)) : Bool := (r1 r).isSome
theorem dat_ok {r : R (V × List V)} (h : isD r = true) : ∃ y, r = .ok (.d (dat r), [y]) := by
  unfold isD at h
  obtain ⟨d, hd⟩ := Option.isSome_iff_exists.mp h
  obtain ⟨y, e⟩ := r1_some hd
  refine ⟨y, ?_⟩
  unfold dat
  rw [hd]
  exact e
mutual
/-- the same datum -/
def same : D → D → Bool
  | .none, .none => true
  | .bool a, .bool b => a == b
  | .int a, .int b => decide (a = b)
  | .str a, .str b => decide (a = b)
  | .list a, .list b => sames a b
  | .tuple a, .tuple b => sames a b
  | _, _ => false
def sames : List D → List D → Bool
  | [], [] => true
  | x :: xs, y :: ys => same x y && sames xs ys
  | _, _ => false
end
mutual
theorem same_ok : ∀ {a b : D}, same a b = true → a = b
  | .none, b, h => by cases b <;> first | rfl | cases h
  | .bool a, b, h => by cases b <;> first | (cases h; done) | (rw [eq_of_beq (show (_ == _) = true from h)])
  | .int a, b, h => by cases b <;> first | (cases h; done) | (rw [of_decide_eq_true (show decide _ = true from h)])
  | .str a, b, h => by cases b <;> first | (cases h; done) | (rw [of_decide_eq_true (show decide _ = true from h)])
  | .list a, b, h => by cases b <;> first | (cases h; done) | (rw [sames_ok (show sames _ _ = true from h)])
  | .tuple a, b, h => by cases b <;> first | (cases h; done) | (rw [sames_ok (show sames _ _ = true from h)])
  | .dict a, b, h => by cases b <;> cases h
theorem sames_ok : ∀ {a b : List D}, sames a b = true → a = b
  | [], b, h => by cases b <;> first | rfl | cases h
  | x :: xs, b, h => by
    cases b with
    | nil => cases h
    | cons y ys =>
      have h : (same x y && sames xs ys) = true := h
      rw [Bool.and_eq_true] at h
      rw [same_ok h.1, sames_ok h.2]
end
def sameV : V → V → Bool
  | .u, .u => true
  | .d a, .d b => same a b
  | .c a, .c b => sames a b
  | _, _ => false
theorem sameV_ok : ∀ {a b : V}, sameV a b = true → a = b
  | .u, b, h => by cases b <;> first | rfl | cases h
  | .d a, b, h => by cases b <;> first | (cases h; done) | (rw [same_ok (show same _ _ = true from h)])
  | .c a, b, h => by cases b <;> first | (cases h; done) | (rw [sames_ok (show sames _ _ = true from h)])
  | .k a, b, h => by cases b <;> cases h
def sameE : Env → Env → Bool
  | [], [] => true
  | x :: xs, y :: ys => sameV x y && sameE xs ys
  | _, _ => false
theorem sameE_ok : ∀ {a b : Env}, sameE a b = true → a = b
  | [], b, h => by cases b <;> first | rfl | cases h
  | x :: xs, b, h => by
    cases b with
    | nil => cases h
    | cons y ys =>
      have h : (sameV x y && sameE xs ys) = true := h
      rw [Bool.and_eq_true] at h
      rw [sameV_ok h.1, sameE_ok h.2]
/-- a test comes to b and leaves the frame -/
def isT (r : R (Bool × Env)) (b : Bool) (e : Env) : Bool := match r with | .ok p => p.1 == b && sameE p.2 e | _ => false
theorem isT_ok {r : R (Bool × Env)} {b : Bool} {e : Env} (h : isT r b e = true) : r = .ok (b, e) := by
  unfold isT at h
  split at h
  · rename_i p
    rw [Bool.and_eq_true] at h
    rw [← eq_of_beq h.1, ← sameE_ok h.2]
  · cases h
def isE (r : R (V × Env)) (w : V) (e : Env) : Bool := match r with | .ok p => sameV p.1 w && sameE p.2 e | _ => false
theorem isE_ok {r : R (V × Env)} {w : V} {e : Env} (h : isE r w e = true) : r = .ok (w, e) := by
  unfold isE at h
  split at h
  · rename_i p
    rw [Bool.and_eq_true] at h
    rw [← sameV_ok h.1, ← sameE_ok h.2]
  · cases h
/-- a call with one datum gives a datum -/
def isC1 (r : R (V × List V)) (d : D) : Bool := match r1 r with | some x => same x d | none => false
theorem isC1_ok {r : R (V × List V)} {d : D} (h : isC1 r d = true) : ∃ y, r = .ok (.d d, [y]) := by
  unfold isC1 at h
  split at h
  · rename_i x hx
    rw [same_ok h] at hx
    exact r1_some hx
  · cases h
/-- while: J of what goes down -/
theorem wp_while {P : Po} {φ : Orc} {t : Te} {b r : Ss} {kill : List Nat} (J : Nat → Env → Prop) (step : ∀ k e, J k e → ∃ c e1, evalT φ t e = .ok (c, e1) ∧ (c = false → Wp P (Sw.execs φ r e1)) ∧
      (c = true → Wp ⟨fun e2 => ∃ k' < k, J k' (killAll kill e2), fun e2 => Wp P (Sw.execs φ r (killAll kill e2)), fun e2 => ∃ k' < k, J k' (killAll kill e2), P.Q⟩ (Sw.execs φ b e1))) :
    ∀ (n k : Nat) (e : Env), k < n → J k e → Wp (P.nx fun e => Wp P (Sw.execs φ r e)) (whileL (evalT φ t) (Sw.execs φ b) kill n e)
  | 0, k, e, h, _ => by omega
  | n + 1, k, e, h, hj => by
    obtain ⟨c, e1, h1, h2, h3⟩ := step k e hj
    simp only [whileL, h1, SR.ofR_ok]
    cases c with
    | false => exact ⟨h2 rfl⟩
    | true =>
      have s := h3 rfl
      rw [if_pos rfl]
      cases g : Sw.execs φ b e1 with
      | nx e2 =>
        rw [g] at s
        obtain ⟨k', hk, hj'⟩ := s.h
        exact wp_while J step n k' _ (by omega) hj'
      | ct e2 =>
        rw [g] at s
        obtain ⟨k', hk, hj'⟩ := s.h
        exact wp_while J step n k' _ (by omega) hj'
      | bk e2 => rw [g] at s; exact ⟨s.h⟩
      | rt v e2 => rw [g] at s; exact ⟨s.h⟩
      | exc c => rw [g] at s; exact s.h.elim
      | bad => rw [g] at s; exact s.h.elim
theorem wp_whil {P : Po} {φ : Orc} {t : Te} {b r : Ss} {kill : List Nat} {e : Env} (J : Nat → Env → Prop) (k : Nat) (hk : k < 100000000) (h0 : J k e) (step : ∀ k e, J k e → ∃ c e1, evalT φ t e = .ok (c, e1) ∧ (c = false → Wp P (Sw.execs φ r e1)) ∧
      (c = true → Wp ⟨fun e2 => ∃ k' < k, J k' (killAll kill e2), fun e2 => Wp P (Sw.execs φ r (killAll kill e2)), fun e2 => ∃ k' < k, J k' (killAll kill e2), P.Q⟩ (Sw.execs φ b e1))) : Wp P (Sw.execs φ (.cons (.whil t b kill) r) e) := by
  have h := wp_while J step fuel k e (by unfold fuel; omega) h0
  have e0 : Sw.execs φ (.cons (.whil t b kill) r) e = (whileL (evalT φ t) (Sw.execs φ b) kill fuel e).seq (Sw.execs φ r) := by
    simp only [Sw.execs, Sw.exec]
  rw [e0]
  exact wp_seq h
/-- a comprehension whose condition is never true, and that leaves the frame -/
theorem comp_none {φ : Orc} {own : List Nat} {t : T} {s : Src} {c : Te} {a : E} {e e1 e0 : Env} {xs : List D} (hs : evalSrc φ s e = .ok (xs, e1)) (hl : xs.length ≤ 1000000) (hk : killAll own e1 = e0)
    (step : ∀ x ∈ xs, ∃ e2 e3, asgT t x e0 = some e2 ∧ evalT φ c e2 = .ok (false, e3) ∧ killAll own e3 = e0) : evalE φ (.comp own t s (.yes c) a) e = .ok (.c [], restore e1 own e0) := by
  have main : ∀ ys : List D, (∀ x ∈ ys, x ∈ xs) → compL (stepC φ t (.yes c) a) own ys e0 = .ok ([], e0) := by
    intro ys
    induction ys with
    | nil => intro _; rfl
    | cons y r ih =>
      intro hy
      obtain ⟨e2, e3, h1, h2, h3⟩ := step y (hy y List.mem_cons_self)
      have h4 : stepC φ t (.yes c) a y e0 = .ok (none, e3) := by
        unfold stepC
        rw [h1]
        simp only [Sw.R.ofO_some, Sw.R.bind_ok, evalC, h2]
        rfl
      simp only [compL, h4, Sw.R.bind_ok, h3, ih fun x hx => hy x (List.mem_cons_of_mem _ hx)]
      rfl
  exact comp_eval hs (by unfold lim; omega) hk (main xs fun x h => h) rfl
theorem shaped_lstN (ns : List Nat) : shapedB (.list (natsD ns)) = true := by
  have h1 := canLay_natsD ns
  have h2 := depth_natsD ns
  unfold shapedB
  simp only [PyData.canLay0, PyData.depth, h1, Bool.true_and]
  exact decide_eq_true (by omega)
theorem eqD_lstN (ns ms : List Nat) : eqD (.list (natsD ns)) (.list (natsD ms)) = some (decide (ns = ms)) := by
  show (if shapedB (.list (natsD ns)) && shapedB (.list (natsD ms)) then some (PyData.eqv (.list (natsD ns)) (.list (natsD ms))) else none) = _
  rw [shaped_lstN, shaped_lstN]
  show some (PyData.eqvAll (natsD ns) (natsD ms)) = _
  rw [eqv_natsD]
theorem wp_nf {P : Po} {φ : Orc} {t : Te} {p r : Ss} {e e1 : Env} (h : evalT φ t e = .ok (false, e1)) (k : Wp P (Sw.execs φ r e1)) : Wp P (Sw.execs φ (.cons (.iff t p .nil) r) e) := wp_if1 h (fun z => by cases z) fun _ => k
end Sw
end T_SxE
section T_SxF
set_option autoImplicit false
set_option linter.all false
set_option maxRecDepth 100000
/-! SxF: small data (repr, equality); comprehensions that leave the frame; all. -/
namespace Sw
open PySem
/-- a datum of depth d and weight w at most, without dicts, that repr shows -/
structure Sm (d w : Nat) (x : D) : Prop where
  sh : x.showable = true
  dp : x.depth ≤ d
  cl : x.canLay0 = true
  wt : x.weight ≤ w
  is : x.intsShort 13 = true
  rf : x.eqv x = true
theorem Sm.mono {d w d' w' : Nat} {x : D} (h : Sm d w x) (hd : d ≤ d') (hw : w ≤ w') : Sm d' w' x := ⟨h.sh, Nat.le_trans h.dp hd, h.cl, Nat.le_trans h.wt hw, h.is, h.rf⟩
theorem sm_int {i : Int} (h : i.natAbs < 1000000) : Sm 1 20 (.int i) := by
  have l : i.natAbs ≠ 0 → i.natAbs.log2 < 20 := fun h0 => (Nat.log2_lt h0).mpr (by omega)
  refine ⟨?_, ?_, rfl, ?_, ?_, ?_⟩
  · show decide (i.natAbs.log2 < 1920) = true
    rw [decide_eq_true_eq]
    by_cases h0 : i.natAbs = 0
    · rw [h0]; decide
    · have := l h0; omega
  · simp [PyData.depth]
  · simp only [PyData.weight]
    split
    · omega
    · rename_i h0
      have := l (by simpa using h0)
      omega
  · show decide ((PyData.shown (.int i)).length ≤ 13) = true
    rw [decide_eq_true_eq]
    have := int_text_length_le10 (a := i) (k := 6) (by decide) (by omega)
    simp only [PyData.shown]
    rw [ofString_length]
    omega
  · show (i == i) = true
    simp
theorem sm_nat {n : Nat} (h : n < 1000000) : Sm 1 20 (natD n) := sm_int (by omega)
theorem sm_all {d w : Nat} : ∀ {xs : List D}, (∀ x ∈ xs, Sm d w x) → PyData.showableAll xs = true ∧ PyData.depthAll xs ≤ d ∧ PyData.canLayAll0 xs = true ∧ PyData.weightAll xs ≤ (w + 1) * xs.length ∧ PyData.intsShortAll 13 xs = true ∧ PyData.eqvAll xs xs = true
  | [], _ => ⟨rfl, by simp [PyData.depthAll], rfl, by simp [PyData.weightAll], rfl, rfl⟩
  | x :: r, h => by
    obtain ⟨h1, h2, h3, h4, h5, h6⟩ := sm_all (xs := r) fun y hy => h y (List.mem_cons_of_mem _ hy)
    have hx := h x List.mem_cons_self
    refine ⟨?_, ?_, ?_, ?_, ?_, ?_⟩
    · show (PyData.showable x && PyData.showableAll r) = true
      rw [hx.sh, h1]; rfl
    · have := hx.dp
      simp only [PyData.depthAll]; omega
    · show (PyData.canLay0 x && PyData.canLayAll0 r) = true
      rw [hx.cl, h3]; rfl
    · have := hx.wt
      simp only [PyData.weightAll, List.length_cons, Nat.mul_add, Nat.mul_one]; omega
    · show (PyData.intsShort 13 x && PyData.intsShortAll 13 r) = true
      rw [hx.is, h5]; rfl
    · show (PyData.eqv x x && PyData.eqvAll r r) = true
      rw [hx.rf, h6]; rfl
theorem sm_tup {d w : Nat} {xs : List D} (h : ∀ x ∈ xs, Sm d w x) : Sm (d + 1) ((w + 1) * xs.length) (.tuple xs) := by
  obtain ⟨h1, h2, h3, h4, h5, h6⟩ := sm_all h
  exact ⟨h1, by simp only [PyData.depth]; omega, h3, h4, h5, h6⟩
theorem sm_lst {d w : Nat} {xs : List D} (h : ∀ x ∈ xs, Sm d w x) : Sm (d + 1) ((w + 1) * xs.length) (.list xs) := by
  obtain ⟨h1, h2, h3, h4, h5, h6⟩ := sm_all h
  exact ⟨h1, by simp only [PyData.depth]; omega, h3, h4, h5, h6⟩
theorem Sm.repr {d w : Nat} {x : D} (h : Sm d w x) (hd : d ≤ 40) (hw : w ≤ 1048576) : okRepr x = true := by
  have := h.dp
  have := h.wt
  unfold okRepr
  rw [h.sh, h.cl, h.is]
  simp only [Bool.true_and, Bool.and_true, Bool.and_eq_true, Bool.or_eq_true]
  exact ⟨decide_eq_true (by omega), .inl (decide_eq_true (by omega))⟩
theorem Sm.shaped {d w : Nat} {x : D} (h : Sm d w x) (hd : d ≤ 64) : shapedB x = true := by
  have := h.dp
  unfold shapedB
  rw [h.cl, Bool.true_and]
  exact decide_eq_true (by omega)
/-- a tuple beside itself -/
theorem eqD_self {d w : Nat} {xs : List D} (h : Sm d w (.tuple xs)) (hd : d ≤ 64) : eqD (.tuple xs) (.tuple xs) = some true := by
  show (if shapedB (.tuple xs) && shapedB (.tuple xs) then some (PyData.eqv (.tuple xs) (.tuple xs)) else none) = _
  rw [h.shaped hd, h.rf]; rfl
theorem eqD_selfL {d w : Nat} {xs : List D} (h : Sm d w (.list xs)) (hd : d ≤ 64) : eqD (.list xs) (.list xs) = some true := by
  show (if shapedB (.list xs) && shapedB (.list xs) then some (PyData.eqv (.list xs) (.list xs)) else none) = _
  rw [h.shaped hd, h.rf]; rfl
theorem eqD_str (s : Str) : eqD (.str s) (.str s) = some true := by show some (_ == _) = _; simp
/-! ### comprehensions that leave the frame -/
theorem comp_fm {φ : Orc} {own : List Nat} {t : T} {s : Src} {c : Te} {a : E} {e e1 e0 : Env} {α : Type} (g : α → D) {l : List α} (hs : evalSrc φ s e = .ok (l.map g, e1)) (hl : l.length ≤ 1000000) (hk : killAll own e1 = e0) (p : α → Bool) (f : α → D)
    (step : ∀ x ∈ l, ∃ e2 e3, asgT t (g x) e0 = some e2 ∧ evalT φ c e2 = .ok (p x, e3) ∧ (p x = true → ∃ e4, daW (evalE φ a) e3 = .ok (f x, e4) ∧ killAll own e4 = e0) ∧ (p x = false → killAll own e3 = e0)) :
    evalE φ (.comp own t s (.yes c) a) e = .ok (.c ((l.filter p).map f), restore e1 own e0) := by
  have main : ∀ ys : List α, (∀ x ∈ ys, x ∈ l) → compL (stepC φ t (.yes c) a) own (ys.map g) e0 = .ok ((ys.filter p).map f, e0) := by
    intro ys
    induction ys with
    | nil => intro _; rfl
    | cons y r ih =>
      intro hy
      have ih := ih fun x hx => hy x (List.mem_cons_of_mem _ hx)
      obtain ⟨e2, e3, h1, h2, h3, h4⟩ := step y (hy y List.mem_cons_self)
      cases hp : p y with
      | false =>
        have st : stepC φ t (.yes c) a (g y) e0 = .ok (none, e3) := by
          unfold stepC
          rw [h1]
          simp only [Sw.R.ofO_some, Sw.R.bind_ok, evalC, h2, hp]
          rfl
        simp only [List.map_cons, compL, st, Sw.R.bind_ok, h4 hp, ih]
        rw [List.filter_cons_of_neg (by rw [hp]; exact Bool.false_ne_true)]
        rfl
      | true =>
        obtain ⟨e4, h5, h6⟩ := h3 hp
        have st : stepC φ t (.yes c) a (g y) e0 = .ok (some (f y), e4) := by
          unfold stepC
          rw [h1]
          simp only [Sw.R.ofO_some, Sw.R.bind_ok, evalC, h2, hp, if_true, h5]
        simp only [List.map_cons, compL, st, Sw.R.bind_ok, h6, ih]
        rw [List.filter_cons_of_pos hp]
        rfl
  exact comp_eval hs (by rw [List.length_map]; unfold lim; omega) hk (main l fun x h => h) rfl
theorem comp_pure {φ : Orc} {own : List Nat} {t : T} {s : Src} {a : E} {e e1 e0 : Env} {α : Type} (g : α → D) {l : List α} (hs : evalSrc φ s e = .ok (l.map g, e1)) (hl : l.length ≤ 1000000) (hk : killAll own e1 = e0) (f : α → D)
    (step : ∀ x ∈ l, ∃ e2 e4, asgT t (g x) e0 = some e2 ∧ daW (evalE φ a) e2 = .ok (f x, e4) ∧ killAll own e4 = e0) :
    evalE φ (.comp own t s .no a) e = .ok (.c (l.map f), restore e1 own e0) := by
  have main : ∀ ys : List α, (∀ x ∈ ys, x ∈ l) → compL (stepC φ t .no a) own (ys.map g) e0 = .ok (ys.map f, e0) := by
    intro ys
    induction ys with
    | nil => intro _; rfl
    | cons y r ih =>
      intro hy
      have ih := ih fun x hx => hy x (List.mem_cons_of_mem _ hx)
      obtain ⟨e2, e4, h1, h2, h3⟩ := step y (hy y List.mem_cons_self)
      have st : stepC φ t .no a (g y) e0 = .ok (some (f y), e4) := by
        unfold stepC
        rw [h1]
        simp only [Sw.R.ofO_some, Sw.R.bind_ok, evalC, if_true, h2]
      simp only [List.map_cons, compL, st, Sw.R.bind_ok, h3, ih]
      rfl
  exact comp_eval hs (by rw [List.length_map]; unfold lim; omega) hk (main l fun x h => h) rfl
theorem bools_rep : ∀ n : Nat, boolsOf (List.replicate n (.bool true)) = some (List.replicate n true)
  | 0 => rfl
  | n + 1 => by
    show (boolsOf (List.replicate n (.bool true))).map (true :: ·) = _
    rw [bools_rep n]; rfl
theorem all_true {α : Type} (l : List α) : op1 .all (.list (l.map fun _ => .bool true)) = some (.d (.bool true)) := by
  show (boolsOf (l.map fun _ => .bool true)).map (fun bs => V.d (.bool (bs.all id))) = _
  rw [List.map_const', bools_rep]
  simp only [Option.map_some]
  congr 3
  induction l.length with
  | zero => rfl
  | succ n ih => rw [List.replicate_succ, List.all_cons, ih]; rfl
/-- pairs of naturals -/
def pr (p : Nat × Nat) : D := .tuple [natD p.1, natD p.2]
theorem sm_pr {p : Nat × Nat} (h1 : p.1 < 1000000) (h2 : p.2 < 1000000) : Sm 2 42 (pr p) := by
  refine sm_tup (d := 1) (w := 20) (xs := [natD p.1, natD p.2]) fun x hx => ?_
  rcases List.mem_cons.mp hx with z | z
  · subst z; exact sm_nat h1
  · have := List.mem_singleton.mp z
    subst this; exact sm_nat h2
/-- a call with two data gives a datum -/
def r2 (r : R (V × List V)) : Option D := match r with | .ok (.d a, [_, _]) => some a | _ => none
def isC2 (r : R (V × List V)) (d : D) : Bool := match r2 r with | some x => same x d | none => false
theorem isC2_ok {r : R (V × List V)} {d : D} (h : isC2 r d = true) : ∃ y z, r = .ok (.d d, [y, z]) := by
  unfold isC2 at h
  split at h
  · rename_i x hx
    rw [same_ok h] at hx
    unfold r2 at hx
    split at hx
    · cases hx; exact ⟨_, _, rfl⟩
    · cases hx
  · cases h
end Sw
end T_SxF
section T_SxG
set_option autoImplicit false
set_option linter.all false
set_option maxRecDepth 100000
/-! SxG: what is a net; nets of plain bits. -/
namespace Sw
open PySem
def b_is_whole : FDef := ⟨1, 1, [], (.of [
  .ret (.and (.o1 (.isi "int") (.var 0)) (.not (.e (.o1 (.isi "bool") (.var 0)))))])⟩
def b_is_net : FDef := ⟨1, 3, [], (.of [
  .iff (.or (.not (.e (.o1 (.isi "tuple") (.var 0)))) (.or (.e (.o2 .ne (.o1 .len (.var 0)) (.int 2))) (.not (.e (.o1 (.isi "tuple") (.o2 .idx (.var 0) (.int 1))))))) (.of [
    .ret (.bl false)]) (.of []),
  .asg 1 (.o2 .idx (.var 0) (.int 0)),
  .ret (.and (.call "is_whole" (.of [(.var 1)])) (.and (.o2 .ge (.var 1) (.int 1)) (.o1 .all (.comp [2] (.n 2) (.seq (.o2 .idx (.var 0) (.int 1))) .no (.call "is_stage" (.of [(.var 1), (.var 2)]))))))])⟩
theorem whole_nat {T : Tab} (hT : T "is_whole" = some b_is_whole) (n k : Nat) : ∃ y, callF T (n + 1) "is_whole" [.d (natD k)] = .ok (.d (.bool true), [y]) := by
  suffices h : ∃ v outs, callF T (n + 1) "is_whole" [.d (natD k)] = .ok (v, outs) ∧ v = .d (.bool true) ∧ ∃ y, outs = [y] by
    obtain ⟨v, outs, h, rfl, y, rfl⟩ := h
    exact ⟨y, h⟩
  refine call_wp (fun v outs => v = .d (.bool true) ∧ ∃ y, outs = [y]) (fd := b_is_whole) hT rfl ?_
  have i1 := o1_eval (φ := callF T n) (o := .isi "int") (a := .var 0) (e := [.d (natD k)]) (w := .d (.bool true)) (op_var rfl) rfl rfl
  have i2 := o1_eval (φ := callF T n) (o := .isi "bool") (a := .var 0) (e := [.d (natD k)]) (w := .d (.bool false)) (op_var rfl) rfl rfl
  have i3 : evalE (callF T n) (.not (.e (.o1 (.isi "bool") (.var 0)))) [.d (natD k)] = .ok (.d (.bool true), [.d (natD k)]) := by
    rw [evalE]
    exact bind2 (t_e i2 rfl)
  exact wp_ret (e_and i1 i3) ⟨rfl, _, rfl⟩
theorem idx_tup {xs : List D} {i : Nat} {x : D} (h : xs[i]? = some x) : op2 .idx (.tuple xs) (.int (i : Int)) = some (.d x) := by
  have hi := (List.getElem?_eq_some_iff.mp h).1
  show ((some xs).bind fun xs => (atI xs (i : Int)).map V.d) = _
  simp only [Option.bind_some, atI, ixN_nat hi, h, Option.map_some]
theorem net_ok {T : Tab} (hW : T "is_whole" = some b_is_whole) (hN : T "is_net" = some b_is_net) (n k : Nat) {ss : List D} (hk : 1 ≤ k) (hl : ss.length ≤ 1000) (hs : ∀ x ∈ ss, ∃ y z, callF T (n + 1) "is_stage" [.d (natD k), .d x] = .ok (.d (.bool true), [y, z])) :
    ∃ y, callF T (n + 2) "is_net" [.d (.tuple [natD k, .tuple ss])] = .ok (.d (.bool true), [y]) := by
  suffices h : ∃ v outs, callF T (n + 2) "is_net" [.d (.tuple [natD k, .tuple ss])] = .ok (v, outs) ∧ v = .d (.bool true) ∧ ∃ y, outs = [y] by
    obtain ⟨v, outs, h, rfl, y, rfl⟩ := h
    exact ⟨y, h⟩
  refine call_wp (fun v outs => v = .d (.bool true) ∧ ∃ y, outs = [y]) (fd := b_is_net) hN rfl ?_
  refine (show Wp _ (Sw.execs (callF T (n + 1)) b_is_net.body [.d (.tuple [natD k, .tuple ss]), .u, .u]) from ?_)
  simp only [b_is_net, Ss.of]
  have t1 := o1_eval (φ := callF T (n + 1)) (o := .isi "tuple") (a := .var 0) (e := [.d (.tuple [natD k, .tuple ss]), .u, .u]) (w := .d (.bool true)) (op_var rfl) rfl rfl
  have t2 := o1_eval (φ := callF T (n + 1)) (o := .len) (a := .var 0) (e := [.d (.tuple [natD k, .tuple ss]), .u, .u]) (w := .d (natD 2)) (op_var rfl) rfl rfl
  have t3 := e_ne (b := .int 2) (op_v rfl t2) (op_v rfl int_eval) rfl rfl (d_eq (a := 2) (b := 2))
  have t4 := o2_eval (φ := callF T (n + 1)) (o := .idx) (a := .var 0) (b := .int 1) (e := [.d (.tuple [natD k, .tuple ss]), .u, .u]) (op_var rfl) (op_v rfl int_eval) rfl rfl (idx_tup (i := 1) rfl)
  have t5 := o1_eval (o := .isi "tuple") (w := .d (.bool true)) (op_v rfl t4) rfl rfl
  refine wp_no (t_or (x := false) (y := false) (t_not (x := true) (t_e t1 rfl)) (fun _ => t_or (x := false) (y := false) (t_e t3 rfl) (fun _ => t_not (x := true) (t_e t5 rfl)) (fun h => by cases h)) (fun h => by cases h)) ?_
  refine wp_asg (o2_eval (op_var rfl) (op_v rfl int_eval) rfl rfl (idx_tup (i := 0) rfl)) ?_
  obtain ⟨y, hw⟩ := whole_nat hW n k
  have u1 := c1_ev (φ := callF T (n + 1)) (a := .var 1) (e := [.d (.tuple [natD k, .tuple ss]), .d (natD k), .u]) (op_var rfl) rfl rfl hw rfl
  have u2 := o2_eval (φ := callF T (n + 1)) (o := .ge) (a := .var 1) (b := .int 1) (e := [.d (.tuple [natD k, .tuple ss]), .d (natD k), .u]) (op_var rfl) (op_v rfl int_eval) rfl rfl (o_ge (b := 1))
  rw [decide_eq_true hk] at u2
  have u3 := o2_eval (φ := callF T (n + 1)) (o := .idx) (a := .var 0) (b := .int 1) (e := [.d (.tuple [natD k, .tuple ss]), .d (natD k), .u]) (op_var rfl) (op_v rfl int_eval) rfl rfl (idx_tup (i := 1) rfl)
  have u4 := comp_pure (φ := callF T (n + 1)) (own := [2]) (t := .n 2) (a := .call "is_stage" (.of [(.var 1), (.var 2)])) (e := [.d (.tuple [natD k, .tuple ss]), .d (natD k), .u]) (e1 := [.d (.tuple [natD k, .tuple ss]), .d (natD k), .u]) (l := ss) id (by rw [List.map_id]; exact src_sq (da_of u3 rfl) rfl) (by omega) rfl (fun _ => .bool true) fun x hx => by
    obtain ⟨y, z, hc⟩ := hs x hx
    exact ⟨[.d (.tuple [natD k, .tuple ss]), .d (natD k), .d x], [.d (.tuple [natD k, .tuple ss]), .d (natD k), .d x], rfl, da_of (c2_ev (op_var rfl) (op_var rfl) rfl rfl hc) rfl, rfl⟩
  have u5 := o1_eval (op_v rfl u4) rfl (all_true ss)
  exact wp_ret (e_and u1 (e_and u2 u5)) ⟨rfl, _, rfl⟩
/-- the stage of bit b in a row of 2 ^ m wires -/
def stg (m b : Nat) : List (Nat × Nat) := ((List.range (2 ^ m)).filter fun a => decide (bt a b = 0)).map fun a => (a, a + 2 ^ b)
def stD (m b : Nat) : D := .tuple ((stg m b).map pr)
def netD (m : Nat) (bits : List Nat) : D := .tuple [natD (2 ^ m), .tuple (bits.map (stD m))]
theorem stg_len (m b : Nat) : (stg m b).length ≤ 2 ^ m := by
  unfold stg
  rw [List.length_map]
  exact Nat.le_trans (List.length_filter_le _ _) (by simp)
theorem stg_lt {m b : Nat} (hm : m ≤ 5) (hb : b ≤ 5) {p : Nat × Nat} (h : p ∈ stg m b) : p.1 < 100 ∧ p.2 < 100 := by
  unfold stg at h
  obtain ⟨a, ha, rfl⟩ := List.mem_map.mp h
  have ha := (List.mem_filter.mp ha).1
  have ha : a < 2 ^ m := by simpa using ha
  have h1 : 2 ^ m ≤ 2 ^ 5 := Nat.pow_le_pow_right (by decide) hm
  have h2 : 2 ^ b ≤ 2 ^ 5 := Nat.pow_le_pow_right (by decide) hb
  refine ⟨?_, ?_⟩ <;> (show _ < 100; simp only; omega)
theorem sm_stD {m b : Nat} (hm : m ≤ 5) (hb : b ≤ 5) : Sm 3 1500 (stD m b) := by
  refine (sm_tup (d := 2) (w := 42) fun x hx => ?_).mono (by decide) ?_
  · obtain ⟨p, hp, rfl⟩ := List.mem_map.mp hx
    obtain ⟨h1, h2⟩ := stg_lt hm hb hp
    exact sm_pr (by omega) (by omega)
  · rw [List.length_map]
    have h1 := stg_len m b
    have h2 : 2 ^ m ≤ 2 ^ 5 := Nat.pow_le_pow_right (by decide) hm
    omega
theorem sm_netD {m : Nat} {bits : List Nat} (hm : m ≤ 5) (hb : ∀ b ∈ bits, b ≤ 5) (hl : bits.length ≤ 100) : Sm 5 400000 (netD m bits) := by
  have h2 : 2 ^ m ≤ 2 ^ 5 := Nat.pow_le_pow_right (by decide) hm
  have k1 : Sm 4 160000 (.tuple (bits.map (stD m))) := (sm_tup (d := 3) (w := 1500) fun x hx => by
    obtain ⟨b, hb1, rfl⟩ := List.mem_map.mp hx
    exact sm_stD hm (hb b hb1)).mono (by decide) (by rw [List.length_map]; omega)
  refine (sm_tup (d := 4) (w := 160000) (xs := [natD (2 ^ m), .tuple (bits.map (stD m))]) fun x hx => ?_).mono (by decide) (by simp)
  rcases List.mem_cons.mp hx with z | z
  · subst z; exact (sm_nat (by omega)).mono (by decide) (by decide)
  · have := List.mem_singleton.mp z
    subst this; exact k1
end Sw
end T_SxG
section T_SxH
set_option autoImplicit false
set_option linter.all false
set_option maxRecDepth 100000
/-! SxH: sums; sorted pairs. -/
namespace Sw
open PySem
theorem nats_ints {α : Type} (f : α → Nat) : ∀ l : List α, intsOf (l.map fun x => natD (f x)) = some (l.map fun x => (f x : Int))
  | [] => rfl
  | x :: r => by
    show (intsOf (r.map fun x => natD (f x))).map ((f x : Int) :: ·) = _
    rw [nats_ints f r]; rfl
theorem int_sum {α : Type} (f : α → Nat) : ∀ l : List α, (l.map fun x => (f x : Int)).sum = (((l.map f).sum : Nat) : Int)
  | [] => rfl
  | x :: r => by
    rw [List.map_cons, List.sum_cons, List.map_cons, List.sum_cons, int_sum f r]
    omega
theorem o_sum {α : Type} (f : α → Nat) (l : List α) : op1 .sum (.list (l.map fun x => natD (f x))) = some (.d (natD (l.map f).sum)) := by
  show (intsOf (l.map fun x => natD (f x))).map (fun ns => V.d (.int ns.sum)) = _
  rw [nats_ints]
  show some (V.d (.int (l.map fun x => (f x : Int)).sum)) = _
  rw [int_sum]; rfl
/-! ### sorted pairs of naturals -/
def ip (p : Nat × Nat) : Int × Int := ((p.1 : Int), (p.2 : Int))
theorem pr_ip (p : Nat × Nat) : pr p = pairD (ip p) := rfl
def ltN (p q : Nat × Nat) : Bool := if p.1 = q.1 then decide (p.2 < q.2) else decide (p.1 < q.1)
theorem ltP_ip (p q : Nat × Nat) : ltP (ip p) (ip q) = ltN p q := by
  unfold ltP ltN ip
  simp only
  by_cases h : p.1 = q.1
  · rw [if_pos (by omega), if_pos h]; exact decide_eq_decide.mpr (by omega)
  · rw [if_neg (by omega), if_neg h]; exact decide_eq_decide.mpr (by omega)
def insN (x : Nat × Nat) : List (Nat × Nat) → List (Nat × Nat)
  | [] => [x]
  | y :: r => if ltN y x then y :: insN x r else x :: y :: r
def sortN : List (Nat × Nat) → List (Nat × Nat)
  | [] => []
  | x :: r => insN x (sortN r)
theorem insP_ip (x : Nat × Nat) : ∀ l : List (Nat × Nat), insP (ip x) (l.map ip) = (insN x l).map ip
  | [] => rfl
  | y :: r => by
    show (if ltP (ip y) (ip x) then ip y :: insP (ip x) (r.map ip) else ip x :: ip y :: r.map ip) = _
    rw [ltP_ip, insP_ip x r]
    show _ = (if ltN y x then y :: insN x r else x :: y :: r).map ip
    split <;> rfl
theorem sortP_ip : ∀ l : List (Nat × Nat), sortP (l.map ip) = (sortN l).map ip
  | [] => rfl
  | x :: r => by
    show insP (ip x) (sortP (r.map ip)) = _
    rw [sortP_ip r, insP_ip]; rfl
theorem pairsI_pr : ∀ l : List (Nat × Nat), pairsI (l.map pr) = some (l.map ip)
  | [] => rfl
  | x :: r => by
    show (some (ip x)).bind (fun a => (pairsI (r.map pr)).map (a :: ·)) = _
    rw [pairsI_pr r]; rfl
theorem sortD_pr (l : List (Nat × Nat)) : sortD (l.map pr) = some ((sortN l).map pr) := by
  cases l with
  | nil => rfl
  | cons x r =>
    have h : intsOf ((x :: r).map pr) = none := rfl
    unfold sortD
    rw [h, pairsI_pr]
    simp only [Option.map_some]
    rw [sortP_ip, List.map_map]; rfl
theorem o_sorted {l : List (Nat × Nat)} {x : D} (h : seqOf x = some (l.map pr)) : op1 .sorted x = some (.c ((sortN l).map pr)) := by
  show (seqOf x).bind (fun xs => (sortD xs).map V.c) = _
  rw [h]
  simp only [Option.bind_some, sortD_pr, Option.map_some]
theorem insN_perm (x : Nat × Nat) : ∀ l, (insN x l).Perm (x :: l)
  | [] => .refl _
  | y :: r => by
    unfold insN
    split
    · exact ((insN_perm x r).cons y).trans (List.Perm.swap ..)
    · exact .refl _
theorem sortN_perm : ∀ l, (sortN l).Perm l
  | [] => .refl _
  | x :: r => (insN_perm x _).trans ((sortN_perm r).cons x)
theorem sortN_len (l : List (Nat × Nat)) : (sortN l).length = l.length := (sortN_perm l).length_eq
end Sw
end T_SxH
section T_SxI
set_option autoImplicit false
set_option linter.all false
set_option maxRecDepth 100000
/-! SxI: drawn stages, nets, settings (the state of two numbers); ways across. -/
namespace Sw
open PySem
/-- the wires of a stage -/
def wires (st : List (Nat × Nat)) : List Nat := st.flatMap fun p => [p.1, p.2]
/-- a stage of m wires -/
structure GSt (m : Nat) (st : List (Nat × Nat)) : Prop where
  lt : ∀ p ∈ st, p.1 < p.2 ∧ p.2 < m
  nd : (wires st).Nodup
  len : 2 * st.length ≤ m
def stP (st : List (Nat × Nat)) : D := .tuple (st.map pr)
def netP (m : Nat) (ss : List (List (Nat × Nat))) : D := .tuple [natD m, .tuple (ss.map stP)]
def setP (ws : List (List Nat)) : D := .tuple (ws.map tupN)
theorem wires_app (a b : List (Nat × Nat)) : wires (a ++ b) = wires a ++ wires b := by simp [wires]
theorem wires_len : ∀ st : List (Nat × Nat), (wires st).length = 2 * st.length
  | [] => rfl
  | p :: r => by
    have := wires_len r
    unfold wires at this ⊢
    rw [List.flatMap_cons, List.length_append, this]
    simp; omega
def b_law_stage : FDef := ⟨2, 8, [], (.of [
  .asg 2 (.ofSrc false (.rng1 (.var 1))),
  .asg 3 (.lst (.of [])),
  .asg 4 (.o2 .idx (.lst (.of [(.int 0), (.int 1), (.int 2), (.o2 .fdiv (.var 1) (.int 2)), (.o2 .fdiv (.var 1) (.int 2))])) (.call "_law_draw" (.of [(.var 0), (.int 5)]))),
  .forr (.n 5) (.rng1 (.o2 .min2 (.var 4) (.o2 .fdiv (.var 1) (.int 2)))) (.of [
    .asg 6 (.pop 2 (.call "_law_draw" (.of [(.var 0), (.o1 .len (.var 2))]))),
    .asg 7 (.pop 2 (.call "_law_draw" (.of [(.var 0), (.o1 .len (.var 2))]))),
    .ex (.app 3 (.tup (.of [(.o2 .min2 (.var 6) (.var 7)), (.o2 .max2 (.var 6) (.var 7))])))]) [5, 6, 7],
  .ret (.o1 .tupleOf (.o1 .sorted (.var 3)))])⟩
theorem stage_ok {T : Tab} (hD : T "_law_draw" = some b_law_draw) (hS : T "_law_stage" = some b_law_stage) (n : Nat) (a b : Int) (m : Nat) (hm : m ≤ 32) :
    ∃ (st : List (Nat × Nat)) (a' b' : Int), callF T (n + 2) "_law_stage" [.c [.int a, .int b], .d (natD m)] = .ok (.d (stP st), [.c [.int a', .int b'], .d (natD m)]) ∧ GSt m st := by
  suffices h : ∃ v outs, callF T (n + 2) "_law_stage" [.c [.int a, .int b], .d (natD m)] = .ok (v, outs) ∧ ∃ (st : List (Nat × Nat)) (a' b' : Int), v = .d (stP st) ∧ outs = [.c [.int a', .int b'], .d (natD m)] ∧ GSt m st by
    obtain ⟨v, outs, h, st, a', b', rfl, rfl, h2⟩ := h
    exact ⟨st, a', b', h, h2⟩
  refine call_wp (fun v outs => ∃ (st : List (Nat × Nat)) (a' b' : Int), v = .d (stP st) ∧ outs = [.c [.int a', .int b'], .d (natD m)] ∧ GSt m st) hS rfl ?_
  refine (show Wp _ (Sw.execs (callF T (n + 1)) b_law_stage.body [.c [.int a, .int b], .d (natD m), .u, .u, .u, .u, .u, .u]) from ?_)
  simp only [b_law_stage, Ss.of]
  refine wp_asg (ofL_eval (src_n (da_var rfl) (by omega))) ?_
  refine wp_asg (w := .c []) (lst_ev ds_nil (by decide)) ?_
  obtain ⟨k, a1, b1, d1, hk⟩ := draw_int hD n a b 5 (by decide) (by decide)
  have h2 := o2_eval (φ := callF T (n + 1)) (o := .fdiv) (a := .var 1) (b := .int 2) (e := [.c [.int a, .int b], .d (natD m), .c (natsD (List.range m)), .c [], .u, .u, .u, .u]) (op_var rfl) (op_v rfl int_eval) rfl rfl (o_div (b := 2) (by decide) (by decide))
  have l5 := lst_ev (ds := natsD [0, 1, 2, m / 2, m / 2]) (ds_cons da_int (ds_cons da_int (ds_cons da_int (ds_cons (da_of h2 rfl) (ds_cons (da_of h2 rfl) ds_nil))))) (show (5 : Nat) ≤ 1000 by decide)
  refine wp_asg (o2_eval (op_v rfl l5) (op_v rfl (s1_ev (i := 0) (b := .int 5) rfl (op_v rfl int_eval) rfl d1)) rfl rfl (idx_natL (q := [0, 1, 2, m / 2, m / 2]) hk)) ?_
  generalize [0, 1, 2, m / 2, m / 2].getD k 0 = mo
  have g2 := o2_eval (φ := callF T (n + 1)) (o := .fdiv) (a := .var 1) (b := .int 2) (e := [.c [.int a1, .int b1], .d (natD m), .c (natsD (List.range m)), .c [], .d (natD mo), .u, .u, .u]) (op_var rfl) (op_v rfl int_eval) rfl rfl (o_div (b := 2) (by decide) (by decide))
  have g3 := o2_eval (o := .min2) (a := .var 4) (op_var rfl) (op_v rfl g2) rfl rfl o_min
  refine wp_forN (src_n (da_of g3 rfl) (by omega)) (fun k e => ∃ (a b : Int) (left : List Nat) (ps : List (Nat × Nat)), e = [.c [.int a, .int b], .d (natD m), .c (natsD left), .c (ps.map pr), .d (natD mo), .u, .u, .u] ∧ (wires ps ++ left).Perm (List.range m) ∧ ps.length = k ∧ ∀ p ∈ ps, p.1 < p.2 ∧ p.2 < m)
    ⟨a1, b1, List.range m, [], rfl, .refl _, rfl, by simp⟩ (fun e he => ?_) fun k e hk2 he => ?_
  · obtain ⟨a, b, left, ps, rfl, q1, q2, q3⟩ := he
    have so := o1_eval (φ := callF T (n + 1)) (o := .sorted) (a := .var 3) (e := [.c [.int a, .int b], .d (natD m), .c (natsD left), .c (ps.map pr), .d (natD mo), .u, .u, .u]) (x := .list (ps.map pr)) (op_var rfl) rfl (o_sorted rfl)
    refine wp_ret (tuple_c so rfl) ⟨sortN ps, a, b, rfl, rfl, ?_, ?_, ?_⟩
    · exact fun p hp => q3 p ((sortN_perm ps).mem_iff.mp hp)
    · have nd := q1.symm.nodup List.nodup_range
      have pw : (wires (sortN ps)).Perm (wires ps) := (sortN_perm ps).flatMap_right _
      exact pw.symm.nodup (List.nodup_append.mp nd).1
    · rw [sortN_len]
      have := q1.length_eq
      rw [List.length_append, wires_len, List.length_range] at this
      omega
  obtain ⟨a5, b5, left, ps, rfl, q1, q2, q3⟩ := he
  have ll := q1.length_eq
  rw [List.length_append, wires_len, List.length_range, q2] at ll
  have hk3 : k < m / 2 := by omega
  obtain ⟨x, a6, b6, d6, hx⟩ := draw_int hD n a5 b5 left.length (by omega) (by omega)
  obtain ⟨u, hu, hp⟩ := popAt_nats (l := left) (r := (x : Int)) (by omega) (by omega) (by omega)
  have l1 := o1_eval (φ := callF T (n + 1)) (o := .len) (a := .var 2) (e := [.c [.int a5, .int b5], .d (natD m), .c (natsD left), .c (ps.map pr), .d (natD mo), .d (natD k), .u, .u]) (w := .d (natD left.length)) (op_var rfl) rfl (by show some (V.d (.int ((natsD left).length : Int))) = _; rw [natsD_len]; rfl)
  refine wp_asg (pop_ev rfl (op_v rfl (s1_ev (i := 0) rfl (op_v rfl l1) rfl d6)) rfl rfl hp) ?_
  rw [Int.toNat_natCast] at hu hp ⊢
  have len2 : (left.eraseIdx x).length = left.length - 1 := by rw [List.length_eraseIdx, if_pos (by omega)]
  obtain ⟨x2, a7, b7, d7, hx2⟩ := draw_int hD n a6 b6 (left.eraseIdx x).length (by omega) (by omega)
  obtain ⟨w, hw, hp2⟩ := popAt_nats (l := left.eraseIdx x) (r := (x2 : Int)) (by omega) (by omega) (by omega)
  have l2 := o1_eval (φ := callF T (n + 1)) (o := .len) (a := .var 2) (e := [.c [.int a6, .int b6], .d (natD m), .c (natsD (left.eraseIdx x)), .c (ps.map pr), .d (natD mo), .d (natD k), .d (natD u), .u]) (w := .d (natD (left.eraseIdx x).length)) (op_var rfl) rfl (by show some (V.d (.int ((natsD (left.eraseIdx x)).length : Int))) = _; rw [natsD_len]; rfl)
  refine wp_asg (pop_ev rfl (op_v rfl (s1_ev (i := 0) rfl (op_v rfl l2) rfl d7)) rfl rfl hp2) ?_
  rw [Int.toNat_natCast] at hw hp2 ⊢
  have mn := o2_eval (φ := callF T (n + 1)) (o := .min2) (a := .var 6) (b := .var 7) (e := [.c [.int a7, .int b7], .d (natD m), .c (natsD ((left.eraseIdx x).eraseIdx x2)), .c (ps.map pr), .d (natD mo), .d (natD k), .d (natD u), .d (natD w)]) (op_var rfl) (op_var rfl) rfl rfl o_min
  have mx := o2_eval (φ := callF T (n + 1)) (o := .max2) (a := .var 6) (b := .var 7) (e := [.c [.int a7, .int b7], .d (natD m), .c (natsD ((left.eraseIdx x).eraseIdx x2)), .c (ps.map pr), .d (natD mo), .d (natD k), .d (natD u), .d (natD w)]) (op_var rfl) (op_var rfl) rfl rfl o_max
  have tp := tup_ev (ds_cons (da_of mn rfl) (ds_cons (da_of mx rfl) ds_nil)) (show (2 : Nat) ≤ 1000 by decide)
  have e1 := erase_perm hu
  have e2 := erase_perm hw
  have e3 : (u :: w :: (left.eraseIdx x).eraseIdx x2).Perm left := (e2.cons u).trans e1
  have nd := q1.symm.nodup List.nodup_range
  have ndl := e3.symm.nodup (List.nodup_append.mp nd).2.1
  have hne : u ≠ w := fun z => by
    subst z
    exact (List.nodup_cons.mp ndl).1 List.mem_cons_self
  have hum : u < m := by
    have : u ∈ List.range m := q1.mem_iff.mp (List.mem_append_right _ (e3.mem_iff.mp List.mem_cons_self))
    simpa using this
  have hwm : w < m := by
    have : w ∈ List.range m := q1.mem_iff.mp (List.mem_append_right _ (e3.mem_iff.mp (List.mem_cons_of_mem _ List.mem_cons_self)))
    simpa using this
  refine wp_ex (app_ev rfl (da_of tp rfl) rfl (by rw [List.length_map]; omega)) (wp_nil ⟨a7, b7, (left.eraseIdx x).eraseIdx x2, ps ++ [(min u w, max u w)], ?_, ?_, ?_, ?_⟩)
  · rw [List.map_append]; rfl
  · rw [wires_app]
    have e4 : (wires [(min u w, max u w)]).Perm [u, w] := by
      show [min u w, max u w].Perm [u, w]
      rcases Nat.lt_or_ge u w with z | z
      · rw [Nat.min_eq_left (by omega), Nat.max_eq_right (by omega)]
      · rw [Nat.min_eq_right z, Nat.max_eq_left z]
        exact List.Perm.swap ..
    rw [List.append_assoc]
    exact (List.Perm.append_left _ ((e4.append_right _).trans e3)).trans q1
  · rw [List.length_append, q2]; rfl
  · intro p hp
    rcases List.mem_append.mp hp with z | z
    · exact q3 p z
    · have := List.mem_singleton.mp z
      subst this
      exact ⟨by show min u w < max u w; omega, by show max u w < m; omega⟩
end Sw
end T_SxI
section T_SxJ
set_option autoImplicit false
set_option linter.all false
set_option maxRecDepth 100000
/-! SxJ: a drawn net; a drawn setting of it; ways across. -/
namespace Sw
open PySem
def b_law_net : FDef := ⟨3, 6, [], (.of [
  .asg 3 (.o2 .idx (.lst (.of [(.int 2), (.int 3), (.int 4), (.int 5), (.int 8), (.int 1)])) (.call "_law_draw" (.of [(.var 0), (.int 6)]))),
  .asg 4 (.call "_law_draw" (.of [(.var 0), (.int 6)])),
  .iff (.e (.o2 .eq (.call "_law_draw" (.of [(.var 0), (.int 8)])) (.int 5))) (.of [
    .asg 3 (.var 1)]) (.of []),
  .iff (.e (.o2 .eq (.call "_law_draw" (.of [(.var 0), (.int 8)])) (.int 5))) (.of [
    .asg 4 (.var 2)]) (.of []),
  .ret (.tup (.of [(.var 3), (.o1 .tupleOf (.comp [5] (.n 5) (.rng1 (.var 4)) .no (.call "_law_stage" (.of [(.var 0), (.var 3)]))))]))])⟩
theorem net_drawn {T : Tab} (hD : T "_law_draw" = some b_law_draw) (hS : T "_law_stage" = some b_law_stage) (hN : T "_law_net" = some b_law_net) (n : Nat) (a b : Int) (g l : Nat) (hg0 : 0 < g) (hg : g ≤ 32) (hl : l ≤ 20) :
    ∃ (m : Nat) (ss : List (List (Nat × Nat))) (a' b' : Int) (y z : V), callF T (n + 3) "_law_net" [.c [.int a, .int b], .d (natD g), .d (natD l)] = .ok (.d (netP m ss), [.c [.int a', .int b'], y, z]) ∧ 0 < m ∧ (m ≤ 8 ∨ m = g) ∧ m ≤ 32 ∧ (ss.length ≤ 5 ∨ ss.length = l) ∧ ∀ st ∈ ss, GSt m st := by
  suffices h : ∃ v outs, callF T (n + 3) "_law_net" [.c [.int a, .int b], .d (natD g), .d (natD l)] = .ok (v, outs) ∧ ∃ (m : Nat) (ss : List (List (Nat × Nat))) (a' b' : Int) (y z : V), v = .d (netP m ss) ∧ outs = [.c [.int a', .int b'], y, z] ∧ 0 < m ∧ (m ≤ 8 ∨ m = g) ∧ m ≤ 32 ∧ (ss.length ≤ 5 ∨ ss.length = l) ∧ ∀ st ∈ ss, GSt m st by
    obtain ⟨v, outs, h, m, ss, a', b', y, z, rfl, rfl, h2⟩ := h
    exact ⟨m, ss, a', b', y, z, h, h2⟩
  refine call_wp (fun v outs => ∃ (m : Nat) (ss : List (List (Nat × Nat))) (a' b' : Int) (y z : V), v = .d (netP m ss) ∧ outs = [.c [.int a', .int b'], y, z] ∧ 0 < m ∧ (m ≤ 8 ∨ m = g) ∧ m ≤ 32 ∧ (ss.length ≤ 5 ∨ ss.length = l) ∧ ∀ st ∈ ss, GSt m st) hN rfl ?_
  refine (show Wp _ (Sw.execs (callF T (n + 2)) b_law_net.body [.c [.int a, .int b], .d (natD g), .d (natD l), .u, .u, .u]) from ?_)
  simp only [b_law_net, Ss.of]
  obtain ⟨k, a1, b1, d1, hk⟩ := draw_int hD (n + 1) a b 6 (by decide) (by decide)
  have l6 := lst_ev (φ := callF T (n + 2)) (e := [.c [.int a, .int b], .d (natD g), .d (natD l), .u, .u, .u]) (ds := natsD [2, 3, 4, 5, 8, 1]) (ds_cons da_int (ds_cons da_int (ds_cons da_int (ds_cons da_int (ds_cons da_int (ds_cons da_int ds_nil)))))) (by decide)
  refine wp_asg (o2_eval (op_v rfl l6) (op_v rfl (s1_ev (i := 0) (b := .int 6) rfl (op_v rfl int_eval) rfl d1)) rfl rfl (idx_natL (q := [2, 3, 4, 5, 8, 1]) hk)) ?_
  have hm0 : 0 < [2, 3, 4, 5, 8, 1].getD k 0 ∧ [2, 3, 4, 5, 8, 1].getD k 0 ≤ 8 := by
    have : ∀ k < 6, 0 < [2, 3, 4, 5, 8, 1].getD k 0 ∧ [2, 3, 4, 5, 8, 1].getD k 0 ≤ 8 := by decide
    exact this k hk
  generalize [2, 3, 4, 5, 8, 1].getD k 0 = m0 at hm0
  obtain ⟨t0, a2, b2, d2, ht0⟩ := draw_int hD (n + 1) a1 b1 6 (by decide) (by decide)
  refine wp_asg (s1_ev (i := 0) rfl (op_v rfl int_eval) rfl d2) ?_
  have tail : ∀ (m t : Nat) (a b : Int), 0 < m → (m ≤ 8 ∨ m = g) → m ≤ 32 → (t ≤ 5 ∨ t = l) → Wp ⟨fun e => ∃ (m : Nat) (ss : List (List (Nat × Nat))) (a' b' : Int) (y z : V), V.d PyData.none = .d (netP m ss) ∧ killAll b_law_net.wp (e.take b_law_net.np) = [.c [.int a', .int b'], y, z] ∧ 0 < m ∧ (m ≤ 8 ∨ m = g) ∧ m ≤ 32 ∧ (ss.length ≤ 5 ∨ ss.length = l) ∧ ∀ st ∈ ss, GSt m st, fun _ => False, fun _ => False,
      fun v e => ∃ (m : Nat) (ss : List (List (Nat × Nat))) (a' b' : Int) (y z : V), v = .d (netP m ss) ∧ killAll b_law_net.wp (e.take b_law_net.np) = [.c [.int a', .int b'], y, z] ∧ 0 < m ∧ (m ≤ 8 ∨ m = g) ∧ m ≤ 32 ∧ (ss.length ≤ 5 ∨ ss.length = l) ∧ ∀ st ∈ ss, GSt m st⟩
      (Sw.execs (callF T (n + 2)) (.cons (.ret (.tup (.of [(.var 3), (.o1 .tupleOf (.comp [5] (.n 5) (.rng1 (.var 4)) .no (.call "_law_stage" (.of [(.var 0), (.var 3)]))))]))) .nil) [.c [.int a, .int b], .d (natD g), .d (natD l), .d (natD m), .d (natD t), .u]) := by
    intro m t a b h0 h1 h2 h3
    obtain ⟨ys, e2, k1, k2⟩ := comp_forN (φ := callF T (n + 2)) (own := [5]) (i := 5) (a := .call "_law_stage" (.of [(.var 0), (.var 3)])) (e := [.c [.int a, .int b], .d (natD g), .d (natD l), .d (natD m), .d (natD t), .u]) (src_n (da_var (i := 4) rfl) (by omega)) (by omega)
      (fun j ys e => ∃ (a b : Int) (ss : List (List (Nat × Nat))), e = [.c [.int a, .int b], .d (natD g), .d (natD l), .d (natD m), .d (natD t), .u] ∧ ys = ss.map stP ∧ ss.length = j ∧ ∀ st ∈ ss, GSt m st) ⟨a, b, [], rfl, rfl, rfl, by simp⟩ (fun j ys e hj he => by
        obtain ⟨a, b, ss, rfl, rfl, q1, q2⟩ := he
        obtain ⟨st, a', b', hs, hg⟩ := stage_ok hD hS n a b m h2
        refine ⟨stP st, _, da_of (s1_ev (φ := callF T (n + 2)) (i := 0) (b := .var 3) rfl (op_var rfl) rfl hs) rfl, a', b', ss ++ [st], rfl, by rw [List.map_append]; rfl, by simp [q1], fun x hx => ?_⟩
        rcases List.mem_append.mp hx with z | z
        · exact q2 x z
        · have := List.mem_singleton.mp z
          subst this
          exact hg)
    obtain ⟨a', b', ss, rfl, rfl, q1, q2⟩ := k2
    exact wp_ret (tup_ev (ds_cons (da_var (d := natD m) rfl) (ds_cons (da_of (tuple_c k1 rfl) rfl) ds_nil)) (show (2 : Nat) ≤ 1000 by decide)) ⟨m, ss, a', b', _, _, rfl, rfl, h0, h1, h2, by rw [q1]; exact h3, q2⟩
  obtain ⟨x3, a3, b3, d3, hx3⟩ := draw_int hD (n + 1) a2 b2 8 (by decide) (by decide)
  have second : ∀ m : Nat, 0 < m → (m ≤ 8 ∨ m = g) → m ≤ 32 → Wp ⟨fun e => ∃ (m : Nat) (ss : List (List (Nat × Nat))) (a' b' : Int) (y z : V), V.d PyData.none = .d (netP m ss) ∧ killAll b_law_net.wp (e.take b_law_net.np) = [.c [.int a', .int b'], y, z] ∧ 0 < m ∧ (m ≤ 8 ∨ m = g) ∧ m ≤ 32 ∧ (ss.length ≤ 5 ∨ ss.length = l) ∧ ∀ st ∈ ss, GSt m st, fun _ => False, fun _ => False,
      fun v e => ∃ (m : Nat) (ss : List (List (Nat × Nat))) (a' b' : Int) (y z : V), v = .d (netP m ss) ∧ killAll b_law_net.wp (e.take b_law_net.np) = [.c [.int a', .int b'], y, z] ∧ 0 < m ∧ (m ≤ 8 ∨ m = g) ∧ m ≤ 32 ∧ (ss.length ≤ 5 ∨ ss.length = l) ∧ ∀ st ∈ ss, GSt m st⟩
      (Sw.execs (callF T (n + 2)) (.cons (.iff (.e (.o2 .eq (.call "_law_draw" (.of [(.var 0), (.int 8)])) (.int 5))) (.cons (.asg 4 (.var 2)) .nil) .nil) (.cons (.ret (.tup (.of [(.var 3), (.o1 .tupleOf (.comp [5] (.n 5) (.rng1 (.var 4)) .no (.call "_law_stage" (.of [(.var 0), (.var 3)]))))]))) .nil)) [.c [.int a3, .int b3], .d (natD g), .d (natD l), .d (natD m), .d (natD t0), .u]) := by
    intro m h0 h1 h2
    obtain ⟨x4, a4, b4, d4, hx4⟩ := draw_int hD (n + 1) a3 b3 8 (by decide) (by decide)
    have t1 := o2_eval (o := .eq) (b := .int 5) (e := [.c [.int a3, .int b3], .d (natD g), .d (natD l), .d (natD m), .d (natD t0), .u]) (op_v rfl (s1_ev (φ := callF T (n + 2)) (i := 0) (b := .int 8) rfl (op_v rfl int_eval) rfl d4)) (op_v rfl int_eval) rfl rfl (o_eq (b := 5))
    refine wp_if1 (t_e t1 rfl) (fun _ => ?_) fun _ => ?_
    · refine wp_asg (w := .d (natD l)) (by rw [evalE]; rfl) (wp_nil ?_)
      exact tail m l a4 b4 h0 h1 h2 (.inr rfl)
    · exact tail m t0 a4 b4 h0 h1 h2 (.inl (by omega))
  have t1 := o2_eval (o := .eq) (b := .int 5) (e := [.c [.int a2, .int b2], .d (natD g), .d (natD l), .d (natD m0), .d (natD t0), .u]) (op_v rfl (s1_ev (φ := callF T (n + 2)) (i := 0) (b := .int 8) rfl (op_v rfl int_eval) rfl d3)) (op_v rfl int_eval) rfl rfl (o_eq (b := 5))
  refine wp_if1 (t_e t1 rfl) (fun _ => ?_) fun _ => ?_
  · refine wp_asg (w := .d (natD g)) (by rw [evalE]; rfl) (wp_nil ?_)
    exact second g hg0 (.inr rfl) hg
  · exact second m0 hm0.1 (.inl hm0.2) (by omega)
/-! ### a setting -/
/-- a setting of the stages -/
inductive Fit : List (List (Nat × Nat)) → List (List Nat) → Prop
  | nil : Fit [] []
  | cons {st : List (Nat × Nat)} {ws : List Nat} {ss : List (List (Nat × Nat))} {wss : List (List Nat)} : ws.length = st.length → (∀ w ∈ ws, w < 2) → Fit ss wss → Fit (st :: ss) (ws :: wss)
theorem Fit.len {ss : List (List (Nat × Nat))} {wss : List (List Nat)} (h : Fit ss wss) : wss.length = ss.length := by
  induction h with
  | nil => rfl
  | cons _ _ _ ih => rw [List.length_cons, List.length_cons, ih]
theorem Fit.snoc {ss : List (List (Nat × Nat))} {wss : List (List Nat)} {st : List (Nat × Nat)} {ws : List Nat} (h : Fit ss wss) (h1 : ws.length = st.length) (h2 : ∀ w ∈ ws, w < 2) : Fit (ss ++ [st]) (wss ++ [ws]) := by
  induction h with
  | nil => exact .cons h1 h2 .nil
  | cons k1 k2 _ ih => exact .cons k1 k2 ih
def b_law_setting : FDef := ⟨2, 5, [], (.of [
  .asg 2 (.lst (.of [])),
  .forr (.n 3) (.seq (.o2 .idx (.var 1) (.int 1))) (.of [
    .ex (.app 2 (.o1 .tupleOf (.comp [4] (.n 4) (.seq (.var 3)) .no (.call "_law_draw" (.of [(.var 0), (.int 2)])))))]) [3],
  .ret (.o1 .tupleOf (.var 2))])⟩
theorem setting_ok {T : Tab} (hD : T "_law_draw" = some b_law_draw) (hS : T "_law_setting" = some b_law_setting) (n : Nat) (a b : Int) (m : Nat) (ss : List (List (Nat × Nat))) (hl : ss.length ≤ 1000) (hs : ∀ st ∈ ss, st.length ≤ 1000) :
    ∃ (wss : List (List Nat)) (a' b' : Int), callF T (n + 2) "_law_setting" [.c [.int a, .int b], .d (netP m ss)] = .ok (.d (setP wss), [.c [.int a', .int b'], .d (netP m ss)]) ∧ Fit ss wss := by
  suffices h : ∃ v outs, callF T (n + 2) "_law_setting" [.c [.int a, .int b], .d (netP m ss)] = .ok (v, outs) ∧ ∃ (wss : List (List Nat)) (a' b' : Int), v = .d (setP wss) ∧ outs = [.c [.int a', .int b'], .d (netP m ss)] ∧ Fit ss wss by
    obtain ⟨v, outs, h, wss, a', b', rfl, rfl, h2⟩ := h
    exact ⟨wss, a', b', h, h2⟩
  refine call_wp (fun v outs => ∃ (wss : List (List Nat)) (a' b' : Int), v = .d (setP wss) ∧ outs = [.c [.int a', .int b'], .d (netP m ss)] ∧ Fit ss wss) hS rfl ?_
  refine (show Wp _ (Sw.execs (callF T (n + 1)) b_law_setting.body [.c [.int a, .int b], .d (netP m ss), .u, .u, .u]) from ?_)
  simp only [b_law_setting, Ss.of]
  refine wp_asg (w := .c []) (lst_ev ds_nil (by decide)) ?_
  refine wp_forL stP (l := ss) (src_sq (da_of (o2_eval (o := .idx) (a := .var 1) (b := .int 1) (x := netP m ss) (op_var rfl) (op_v rfl int_eval) rfl rfl (idx_tup (i := 1) rfl)) rfl) rfl)
    (fun S e => ∃ (a b : Int) (wss : List (List Nat)), e = [.c [.int a, .int b], .d (netP m ss), .c (wss.map tupN), .u, .u] ∧ Fit S wss) ⟨a, b, [], rfl, .nil⟩ (fun e he => ?_) fun S st R e hl2 he => ?_
  · obtain ⟨a, b, wss, rfl, hf⟩ := he
    exact wp_ret (o1_eval (w := .d (setP wss)) (op_var rfl) rfl rfl) ⟨wss, a, b, rfl, rfl, hf⟩
  obtain ⟨a1, b1, wss, rfl, hf⟩ := he
  have hst : st ∈ ss := by rw [hl2]; simp
  have slen : wss.length < 1000000 := by
    have := hf.len
    have := congrArg List.length hl2
    simp at this
    omega
  obtain ⟨ys, e2, k1, k2⟩ := comp_forL (φ := callF T (n + 1)) (own := [4]) (i := 4) (a := .call "_law_draw" (.of [(.var 0), (.int 2)])) (e := [.c [.int a1, .int b1], .d (netP m ss), .c (wss.map tupN), .d (stP st), .u]) pr (l := st) (src_sq (da_var (i := 3) (d := stP st) rfl) rfl) (by have := hs st hst; omega)
    (fun S2 ys e => ∃ (a b : Int) (ws : List Nat), e = [.c [.int a, .int b], .d (netP m ss), .c (wss.map tupN), .d (stP st), .u] ∧ ys = natsD ws ∧ ws.length = S2.length ∧ ∀ w ∈ ws, w < 2) ⟨a1, b1, [], rfl, rfl, rfl, by simp⟩ (fun S2 x R2 ys e hl3 he => by
      obtain ⟨a, b, ws, rfl, rfl, q1, q2⟩ := he
      obtain ⟨k, a', b', hd, hk⟩ := draw_int hD n a b 2 (by decide) (by decide)
      refine ⟨natD k, _, da_of (s1_ev (φ := callF T (n + 1)) (i := 0) (b := .int 2) rfl (op_v rfl int_eval) rfl hd) rfl, a', b', ws ++ [k], rfl, (natsD_append _ _).symm ▸ rfl, by simp [q1], fun w hw => ?_⟩
      rcases List.mem_append.mp hw with z | z
      · exact q2 w z
      · have := List.mem_singleton.mp z
        omega)
  obtain ⟨a2, b2, ws, rfl, rfl, q1, q2⟩ := k2
  refine wp_ex (app_ev rfl (da_of (tuple_c k1 rfl) rfl) rfl (by rw [List.length_map]; omega)) (wp_nil ⟨a2, b2, wss ++ [ws], ?_, hf.snoc q1 q2⟩)
  rw [List.map_append]; rfl
end Sw
end T_SxJ
section T_SxK
set_option autoImplicit false
set_option linter.all false
set_option maxRecDepth 100000
/-! SxK: each wire's way across. -/
namespace Sw
open PySem
def cross : List (Nat × Nat) → List Nat → Nat → Nat
  | p :: st, x :: ws, w => if x = 1 ∧ (w = p.1 ∨ w = p.2) then p.1 + p.2 - w else cross st ws w
  | _, _, w => w
def pathT : List (List (Nat × Nat)) → List (List Nat) → Nat → List Nat
  | st :: ss, ws :: wss, w => cross st ws w :: pathT ss wss (cross st ws w)
  | _, _, _ => []
def endp : List (List (Nat × Nat)) → List (List Nat) → Nat → Nat
  | st :: ss, ws :: wss, w => endp ss wss (cross st ws w)
  | _, _, w => w
theorem in_nats {ns : List Nat} {x : Nat} : op2 .inn (natD x) (tupN ns) = some (.d (.bool (decide (x ∈ ns)))) := by
  show (if shapedB (natD x) && shapedB (tupN ns) then some ((natsD ns).any fun z => z.eqv (natD x)) else none).map _ = _
  rw [shaped_nat, shaped_tupN]
  simp only [Bool.and_self, if_true, Option.map_some]
  congr 3
  induction ns with
  | nil => rfl
  | cons y r ih =>
    show (PyData.eqv (natD y) (natD x) || (natsD r).any fun z => z.eqv (natD x)) = _
    rw [ih]
    have e : PyData.eqv (natD y) (natD x) = decide (y = x) := bq
    rw [e]
    by_cases z : y = x
    · subst z; simp
    · simp [z, show ¬ x = y from fun q => z q.symm]
def two (q : (Nat × Nat) × Nat) : D := .tuple [pr q.1, natD q.2]
def twoS (q : List (Nat × Nat) × List Nat) : D := .tuple [stP q.1, tupN q.2]
theorem zip_map {α β : Type} (f : α → D) (g : β → D) : ∀ (l : List α) (r : List β), List.zipWith (fun x y => PyData.tuple [x, y]) (l.map f) (r.map g) = (l.zip r).map fun q => .tuple [f q.1, g q.2]
  | [], _ => by simp
  | _ :: _, [] => by simp
  | x :: l, y :: r => by
    have := zip_map f g l r
    simp [this]
theorem zip_src {φ : Orc} {a b : E} {e e1 e2 : Env} {α β : Type} {f : α → D} {g : β → D} {l : List α} {r : List β} {x y : D} (h : daW (evalE φ a) e = .ok (x, e1)) (h2 : daW (evalE φ b) e1 = .ok (y, e2)) (hx : seqOf x = some (l.map f)) (hy : seqOf y = some (r.map g)) :
    evalSrc φ (.zip2 a b) e = .ok ((l.zip r).map (fun q => .tuple [f q.1, g q.2]), e2) := by
  rw [evalSrc]
  refine (bind2 h).trans ((bind2 h2).trans ?_)
  have : zipD x y = some ((l.zip r).map fun q => .tuple [f q.1, g q.2]) := by
    unfold zipD
    rw [hx, hy]
    simp only [Option.bind_some, Option.map_some, zip_map]
  rw [this]; rfl
def b_law_across : FDef := ⟨3, 5, [], (.of [
  .forr (.p [(.n 3), (.n 4)]) (.zip2 (.var 0) (.var 1)) (.of [
    .iff (.and (.e (.o2 .eq (.var 4) (.int 1))) (.e (.o2 .inn (.var 2) (.var 3)))) (.of [
      .ret (.o2 .sub (.o1 .sum (.var 3)) (.var 2))]) (.of [])]) [3, 4],
  .ret (.mv 2)])⟩
theorem sum_pr (p : Nat × Nat) : op1 .sum (pr p) = some (.d (natD (p.1 + p.2))) := by
  show some (V.d (.int ((p.1 : Int) + ((p.2 : Int) + 0)))) = _
  have : (p.1 : Int) + ((p.2 : Int) + 0) = ((p.1 + p.2 : Nat) : Int) := by omega
  rw [this]; rfl
theorem across_ok {T : Tab} (hA : T "_law_across" = some b_law_across) (n : Nat) {st : List (Nat × Nat)} {ws : List Nat} {w : Nat} (hl : ws.length = st.length) :
    ∃ x y z, callF T (n + 1) "_law_across" [.d (stP st), .d (tupN ws), .d (natD w)] = .ok (.d (natD (cross st ws w)), [x, y, z]) := by
  suffices h : ∃ v outs, callF T (n + 1) "_law_across" [.d (stP st), .d (tupN ws), .d (natD w)] = .ok (v, outs) ∧ v = .d (natD (cross st ws w)) ∧ ∃ x y z, outs = [x, y, z] by
    obtain ⟨v, outs, h, rfl, x, y, z, rfl⟩ := h
    exact ⟨x, y, z, h⟩
  refine call_wp (fun v outs => v = .d (natD (cross st ws w)) ∧ ∃ x y z, outs = [x, y, z]) hA rfl ?_
  refine (show Wp _ (Sw.execs (callF T n) b_law_across.body [.d (stP st), .d (tupN ws), .d (natD w), .u, .u]) from ?_)
  simp only [b_law_across, Ss.of]
  refine wp_for (zip_src (f := pr) (g := natD) (l := st) (r := ws) (da_var (d := stP st) rfl) (da_var (d := tupN ws) rfl) rfl rfl) (fun rest e => e = [.d (stP st), .d (tupN ws), .d (natD w), .u, .u] ∧ ∃ st' ws', rest = (st'.zip ws').map two ∧ ws'.length = st'.length ∧ cross st' ws' w = cross st ws w) ⟨rfl, st, ws, rfl, hl, rfl⟩ (fun e he => ?_) fun x rest e he => ?_
  · obtain ⟨rfl, st', ws', h1, h2, h3⟩ := he
    cases st' with
    | nil =>
      have h4 : w = cross st ws w := h3
      refine wp_ret (w := .d (natD (cross st ws w))) (e1 := [.d (stP st), .d (tupN ws), .d (natD w), .u, .u]) ?_ ⟨rfl, _, _, _, rfl⟩
      rw [← h4, evalE]; rfl
    | cons p st' =>
      cases ws' with
      | nil => cases h2
      | cons x ws' => cases h1
  obtain ⟨rfl, st', ws', h1, h2, h3⟩ := he
  cases st' with
  | nil => simp at h1
  | cons p st' =>
    cases ws' with
    | nil => cases h2
    | cons c ws' =>
      injection h1 with h4 h5
      subst h4
      refine ⟨[.d (stP st), .d (tupN ws), .d (natD w), .d (pr p), .d (natD c)], rfl, ?_⟩
      have t1 := o2_eval (φ := callF T n) (o := .eq) (a := .var 4) (b := .int 1) (e := [.d (stP st), .d (tupN ws), .d (natD w), .d (pr p), .d (natD c)]) (op_var rfl) (op_v rfl int_eval) rfl rfl (o_eq (b := 1))
      have t2 := o2_eval (φ := callF T n) (o := .inn) (a := .var 2) (b := .var 3) (e := [.d (stP st), .d (tupN ws), .d (natD w), .d (pr p), .d (natD c)]) (op_var rfl) (op_var rfl) rfl rfl (in_nats (ns := [p.1, p.2]))
      refine wp_if1 (t_and (t_e t1 rfl) (fun _ => t_e t2 rfl) (fun _ => rfl)) (fun hb => ?_) fun hb => ?_
      · have hb : c = 1 ∧ (w = p.1 ∨ w = p.2) := by simpa using hb
        have s1 := o1_eval (φ := callF T n) (o := .sum) (a := .var 3) (e := [.d (stP st), .d (tupN ws), .d (natD w), .d (pr p), .d (natD c)]) (op_var rfl) rfl (sum_pr p)
        refine wp_ret (o2_eval (o := .sub) (b := .var 2) (op_v rfl s1) (op_var rfl) rfl rfl (o_sub (by rcases hb.2 with z | z <;> omega))) ⟨?_, _, _, _, rfl⟩
        rw [← h3]
        show _ = V.d (natD (if c = 1 ∧ (w = p.1 ∨ w = p.2) then p.1 + p.2 - w else cross st' ws' w))
        rw [if_pos hb]
      · have hb : ¬ (c = 1 ∧ (w = p.1 ∨ w = p.2)) := by
          intro q
          have : (decide (c = 1) && decide (w ∈ [p.1, p.2])) = true := by simpa using q
          rw [hb] at this
          cases this
        refine wp_nil ⟨rfl, st', ws', h5, by simpa using h2, ?_⟩
        rw [← h3]
        show _ = (if c = 1 ∧ (w = p.1 ∨ w = p.2) then p.1 + p.2 - w else cross st' ws' w)
        rw [if_neg hb]
theorem idx_last {l : List Nat} {x : Nat} {y : D} (h : seqOf y = some (natsD (l ++ [x]))) : op2 .idx y (.int (-1)) = some (.d (natD x)) := by
  show (seqOf y).bind (fun xs => (atI xs (-1)).map V.d) = _
  rw [h]
  have : atI (natsD (l ++ [x])) (-1) = some (natD x) := by
    unfold atI Sw.ixN
    rw [if_neg (by omega), natsD_len, List.length_append, if_pos (by simp; omega)]
    have e : (-1 + ((l.length + [x].length : Nat) : Int)).toNat = l.length := by simp; omega
    rw [e]
    simp only [Option.bind_some]
    rw [natsD_append, List.getElem?_append_right (by rw [natsD_len]; exact Nat.le_refl _), natsD_len, Nat.sub_self]; rfl
  simp only [Option.bind_some, this, Option.map_some]
def b_law_way : FDef := ⟨3, 6, [], (.of [
  .asg 3 (.lst (.of [(.var 2)])),
  .forr (.p [(.n 4), (.n 5)]) (.zip2 (.o2 .idx (.var 0) (.int 1)) (.var 1)) (.of [
    .ex (.app 3 (.call "_law_across" (.of [(.var 4), (.var 5), (.o2 .idx (.var 3) (.o1 .neg (.int 1)))])))]) [4, 5],
  .ret (.o1 .tupleOf (.var 3))])⟩
theorem neg1 {φ : Orc} {e : Env} : evalE φ (.o1 .neg (.int 1)) e = .ok (.d (.int (-1)), e) := o1_eval (op_v rfl int_eval) rfl rfl
theorem way_ok {T : Tab} (hA : T "_law_across" = some b_law_across) (hW : T "_law_way" = some b_law_way) (n : Nat) {m : Nat} {ss : List (List (Nat × Nat))} {wss : List (List Nat)} {w : Nat} (hf : Fit ss wss) (hl : ss.length ≤ 1000) :
    ∃ x y z, callF T (n + 2) "_law_way" [.d (netP m ss), .d (setP wss), .d (natD w)] = .ok (.d (tupN (w :: pathT ss wss w)), [x, y, z]) := by
  suffices h : ∃ v outs, callF T (n + 2) "_law_way" [.d (netP m ss), .d (setP wss), .d (natD w)] = .ok (v, outs) ∧ v = .d (tupN (w :: pathT ss wss w)) ∧ ∃ x y z, outs = [x, y, z] by
    obtain ⟨v, outs, h, rfl, x, y, z, rfl⟩ := h
    exact ⟨x, y, z, h⟩
  refine call_wp (fun v outs => v = .d (tupN (w :: pathT ss wss w)) ∧ ∃ x y z, outs = [x, y, z]) hW rfl ?_
  refine (show Wp _ (Sw.execs (callF T (n + 1)) b_law_way.body [.d (netP m ss), .d (setP wss), .d (natD w), .u, .u, .u]) from ?_)
  simp only [b_law_way, Ss.of]
  refine wp_asg (w := .c (natsD [w])) (lst_ev (ds_cons (da_var rfl) ds_nil) (show (1 : Nat) ≤ 1000 by decide)) ?_
  have i1 := o2_eval (φ := callF T (n + 1)) (o := .idx) (a := .var 0) (b := .int 1) (x := netP m ss) (e := [.d (netP m ss), .d (setP wss), .d (natD w), .c (natsD [w]), .u, .u]) (op_var rfl) (op_v rfl int_eval) rfl rfl (idx_tup (i := 1) rfl)
  refine wp_for (zip_src (f := stP) (g := tupN) (l := ss) (r := wss) (da_of i1 rfl) (da_var (d := setP wss) rfl) rfl rfl) (fun rest e => ∃ (pre : List Nat) (cur : Nat) (ss' : List (List (Nat × Nat))) (wss' : List (List Nat)), e = [.d (netP m ss), .d (setP wss), .d (natD w), .c (natsD (pre ++ [cur])), .u, .u] ∧ rest = (ss'.zip wss').map twoS ∧ Fit ss' wss' ∧ (pre ++ [cur]) ++ pathT ss' wss' cur = w :: pathT ss wss w ∧ pre.length + ss'.length ≤ 1000)
    ⟨[], w, ss, wss, rfl, rfl, hf, rfl, by simpa using hl⟩ (fun e he => ?_) fun x rest e he => ?_
  · obtain ⟨pre, cur, ss', wss', rfl, h1, h2, h3, _⟩ := he
    cases h2 with
    | nil =>
      have h3 : pre ++ [cur] = w :: pathT ss wss w := by simpa [pathT] using h3
      rw [h3]
      exact wp_ret (o1_eval (w := .d (tupN (w :: pathT ss wss w))) (op_var rfl) rfl rfl) ⟨rfl, _, _, _, rfl⟩
    | cons k1 k2 k3 => cases h1
  · obtain ⟨pre, cur, ss', wss', rfl, h1, h2, h3, h4⟩ := he
    cases h2 with
    | nil => cases h1
    | @cons st ws ss' wss' k1 k2 k3 =>
      injection h1 with h5 h6
      subst h5
      refine ⟨[.d (netP m ss), .d (setP wss), .d (natD w), .c (natsD (pre ++ [cur])), .d (stP st), .d (tupN ws)], rfl, ?_⟩
      obtain ⟨x, y, z, ha⟩ := across_ok hA n (w := cur) k1
      have l1 := o2_eval (φ := callF T (n + 1)) (o := .idx) (a := .var 3) (b := .o1 .neg (.int 1)) (e := [.d (netP m ss), .d (setP wss), .d (natD w), .c (natsD (pre ++ [cur])), .d (stP st), .d (tupN ws)]) (op_var rfl) (op_v rfl neg1) rfl rfl (idx_last rfl)
      have c1 := call_ev (φ := callF T (n + 1)) (f := "_law_across") (e := [.d (netP m ss), .d (setP wss), .d (natD w), .c (natsD (pre ++ [cur])), .d (stP st), .d (tupN ws)]) (os_cons (a := .var 4) (op_var rfl) (os_cons (a := .var 5) (op_var rfl) (os_cons (op_v rfl l1) os_nil))) rfl rfl ha rfl rfl
      refine wp_ex (app_ev rfl (da_of c1 rfl) rfl (by rw [natsD_len, List.length_append]; simp only [List.length_cons] at h4; simp; omega)) (wp_nil ⟨pre ++ [cur], cross st ws cur, ss', wss', ?_, h6, k3, ?_, ?_⟩)
      · rw [natsD_append (pre ++ [cur])]; rfl
      · rw [← h3]
        simp [pathT]
      · simp only [List.length_append, List.length_cons, List.length_nil] at h4 ⊢
        omega
theorem path_last : ∀ (ss : List (List (Nat × Nat))) (wss : List (List Nat)) (w : Nat), ∃ pre, w :: pathT ss wss w = pre ++ [endp ss wss w]
  | [], _, w => ⟨[], rfl⟩
  | _ :: _, [], w => ⟨[], rfl⟩
  | st :: ss, ws :: wss, w => by
    obtain ⟨pre, h⟩ := path_last ss wss (cross st ws w)
    exact ⟨w :: pre, by show w :: (cross st ws w :: pathT ss wss (cross st ws w)) = _; rw [h]; rfl⟩
/-! ### the way across is its own way back -/
theorem mem_wires {st : List (Nat × Nat)} {p : Nat × Nat} (h : p ∈ st) : p.1 ∈ wires st ∧ p.2 ∈ wires st := by
  unfold wires
  exact ⟨List.mem_flatMap.mpr ⟨p, h, by simp⟩, List.mem_flatMap.mpr ⟨p, h, by simp⟩⟩
theorem GSt.tail {m : Nat} {p : Nat × Nat} {st : List (Nat × Nat)} (h : GSt m (p :: st)) : GSt m st := by
  refine ⟨fun q hq => h.lt q (List.mem_cons_of_mem _ hq), ?_, by have := h.len; rw [List.length_cons] at this; omega⟩
  have := h.nd
  unfold wires at this ⊢
  rw [List.flatMap_cons] at this
  exact (List.nodup_append.mp this).2.1
theorem GSt.off {m : Nat} {p : Nat × Nat} {st : List (Nat × Nat)} (h : GSt m (p :: st)) : p.1 ∉ wires st ∧ p.2 ∉ wires st := by
  have := h.nd
  unfold wires at this ⊢
  rw [List.flatMap_cons] at this
  have d := (List.nodup_append.mp this).2.2
  exact ⟨fun q => d p.1 (by simp) p.1 q rfl, fun q => d p.2 (by simp) p.2 q rfl⟩
theorem cross_off : ∀ (st : List (Nat × Nat)) (ws : List Nat) (w : Nat), w ∉ wires st → cross st ws w = w
  | [], _, _, _ => rfl
  | _ :: _, [], _, _ => rfl
  | p :: st, x :: ws, w, h => by
    have h1 : w ≠ p.1 ∧ w ≠ p.2 := ⟨fun z => h (z ▸ (mem_wires List.mem_cons_self).1), fun z => h (z ▸ (mem_wires List.mem_cons_self).2)⟩
    have h2 : w ∉ wires st := fun z => h (by unfold wires at z ⊢; rw [List.flatMap_cons]; exact List.mem_append_right _ z)
    show (if x = 1 ∧ (w = p.1 ∨ w = p.2) then _ else cross st ws w) = w
    rw [if_neg (by omega), cross_off st ws w h2]
theorem cross_in : ∀ (st : List (Nat × Nat)) (ws : List Nat) (w : Nat), (∀ p ∈ st, p.1 < p.2) → w ∈ wires st → cross st ws w ∈ wires st
  | [], _, _, _, h => h
  | _ :: _, [], _, _, h => h
  | p :: st, x :: ws, w, hp, h => by
    show (if x = 1 ∧ (w = p.1 ∨ w = p.2) then p.1 + p.2 - w else cross st ws w) ∈ _
    split
    · rename_i z
      rcases z.2 with q | q
      · rw [q, show p.1 + p.2 - p.1 = p.2 by omega]; exact (mem_wires List.mem_cons_self).2
      · rw [q, show p.1 + p.2 - p.2 = p.1 by omega]; exact (mem_wires List.mem_cons_self).1
    · by_cases h2 : w ∈ wires st
      · have := cross_in st ws w (fun q hq => hp q (List.mem_cons_of_mem _ hq)) h2
        unfold wires at this ⊢
        rw [List.flatMap_cons]
        exact List.mem_append_right _ this
      · rw [cross_off st ws w h2]; exact h
theorem cross_lt {m : Nat} {st : List (Nat × Nat)} (h : GSt m st) (ws : List Nat) {w : Nat} (hw : w < m) : cross st ws w < m := by
  by_cases z : w ∈ wires st
  · have := cross_in st ws w (fun p hp => (h.lt p hp).1) z
    obtain ⟨p, hp, q⟩ := List.mem_flatMap.mp this
    have := h.lt p hp
    simp only [List.mem_cons, List.not_mem_nil, or_false] at q
    omega
  · rw [cross_off st ws w z]; exact hw
theorem cross_cross {m : Nat} : ∀ {st : List (Nat × Nat)} (ws : List Nat) (w : Nat), GSt m st → cross st ws (cross st ws w) = w
  | [], _, _, _ => rfl
  | _ :: _, [], _, _ => rfl
  | p :: st, x :: ws, w, h => by
    have hp := h.lt p List.mem_cons_self
    have off := h.off
    by_cases z : x = 1 ∧ (w = p.1 ∨ w = p.2)
    · have e1 : cross (p :: st) (x :: ws) w = p.1 + p.2 - w := if_pos z
      rw [e1]
      have z2 : x = 1 ∧ (p.1 + p.2 - w = p.1 ∨ p.1 + p.2 - w = p.2) := ⟨z.1, by rcases z.2 with q | q <;> omega⟩
      have e2 : cross (p :: st) (x :: ws) (p.1 + p.2 - w) = p.1 + p.2 - (p.1 + p.2 - w) := if_pos z2
      rw [e2]
      rcases z.2 with q | q <;> omega
    · have e1 : cross (p :: st) (x :: ws) w = cross st ws w := if_neg z
      rw [e1]
      have z2 : ¬ (x = 1 ∧ (cross st ws w = p.1 ∨ cross st ws w = p.2)) := by
        rintro ⟨h1, h2⟩
        by_cases hw : w ∈ wires st
        · have := cross_in st ws w (fun q hq => ((h.tail).lt q hq).1) hw
          rcases h2 with q | q
          · rw [q] at this; exact off.1 this
          · rw [q] at this; exact off.2 this
        · rw [cross_off st ws w hw] at h2
          exact z ⟨h1, h2⟩
      have e2 : cross (p :: st) (x :: ws) (cross st ws w) = cross st ws (cross st ws w) := if_neg z2
      rw [e2]
      exact cross_cross ws w h.tail
theorem endp_lt {m : Nat} : ∀ {ss : List (List (Nat × Nat))} (wss : List (List Nat)) {w : Nat}, (∀ st ∈ ss, GSt m st) → w < m → endp ss wss w < m
  | [], _, _, _, h => h
  | _ :: _, [], _, _, h => h
  | st :: ss, ws :: wss, w, hs, h => endp_lt wss (fun t ht => hs t (List.mem_cons_of_mem _ ht)) (cross_lt (hs st List.mem_cons_self) ws h)
theorem endp_inj {m : Nat} : ∀ {ss : List (List (Nat × Nat))} (wss : List (List Nat)) {w v : Nat}, (∀ st ∈ ss, GSt m st) → endp ss wss w = endp ss wss v → w = v
  | [], _, _, _, _, h => h
  | _ :: _, [], _, _, _, h => h
  | st :: ss, ws :: wss, w, v, hs, h => by
    have ih := endp_inj wss (fun t ht => hs t (List.mem_cons_of_mem _ ht)) h
    rw [← cross_cross ws w (hs st List.mem_cons_self), ih, cross_cross ws v (hs st List.mem_cons_self)]
/-- where each wire comes to -/
def places (m : Nat) (ss : List (List (Nat × Nat))) (wss : List (List Nat)) : List Nat := (List.range m).map (endp ss wss)
theorem places_isP {m : Nat} {ss : List (List (Nat × Nat))} (wss : List (List Nat)) (hs : ∀ st ∈ ss, GSt m st) : IsP m (places m ss wss) := by
  refine isP_of (by simp [places]) (fun x hx => ?_) (nodup_map List.nodup_range fun x hx y hy e => endp_inj wss hs e)
  obtain ⟨w, hw, rfl⟩ := List.mem_map.mp hx
  exact endp_lt wss hs (by simpa using hw)
theorem places_gd {m : Nat} {ss : List (List (Nat × Nat))} {wss : List (List Nat)} {w : Nat} (h : w < m) : (places m ss wss).getD w 0 = endp ss wss w := by
  refine gd_of ?_
  unfold places
  rw [List.getElem?_map, List.getElem?_range h]; rfl
end Sw
end T_SxK
section T_SxL
set_option autoImplicit false
set_option linter.all false
set_option maxRecDepth 100000
/-! SxL: rows moved, the order led. -/
namespace Sw
open PySem
def sw1 (L : List D) (p : Nat × Nat) : List D := (L.set p.1 (L.getD p.2 .none)).set p.2 (L.getD p.1 .none)
def swA : List (Nat × Nat) → List Nat → List D → List D
  | p :: st, x :: ws, L => swA st ws (if x = 1 then sw1 L p else L)
  | _, _, L => L
def swAll : List (List (Nat × Nat)) → List (List Nat) → List D → List D
  | st :: ss, ws :: wss, L => swAll ss wss (swA st ws L)
  | _, _, L => L
theorem sw1_len (L : List D) (p : Nat × Nat) : (sw1 L p).length = L.length := by simp [sw1]
theorem swA_len : ∀ (st : List (Nat × Nat)) (ws : List Nat) (L : List D), (swA st ws L).length = L.length
  | [], _, _ => rfl
  | _ :: _, [], _ => rfl
  | p :: st, x :: ws, L => by
    show (swA st ws (if x = 1 then sw1 L p else L)).length = _
    rw [swA_len st ws]
    split
    · exact sw1_len L p
    · rfl
theorem swAll_len : ∀ (ss : List (List (Nat × Nat))) (wss : List (List Nat)) (L : List D), (swAll ss wss L).length = L.length
  | [], _, _ => rfl
  | _ :: _, [], _ => rfl
  | st :: ss, ws :: wss, L => by
    show (swAll ss wss (swA st ws L)).length = _
    rw [swAll_len ss wss, swA_len]
theorem sw1_gd {L : List D} {p : Nat × Nat} (h1 : p.1 < p.2) (h2 : p.2 < L.length) {i : Nat} (hi : i < L.length) : (sw1 L p).getD i .none = L.getD (if i = p.1 ∨ i = p.2 then p.1 + p.2 - i else i) .none := by
  unfold sw1
  rw [List.getD_eq_getElem?_getD]
  by_cases a : i = p.2
  · subst a
    rw [List.getElem?_set_self (by simpa using hi), if_pos (.inr rfl), show p.1 + p.2 - p.2 = p.1 by omega]; rfl
  · rw [List.getElem?_set_ne (fun z => a z.symm)]
    by_cases b : i = p.1
    · subst b
      rw [List.getElem?_set_self hi, if_pos (.inl rfl), show p.1 + p.2 - p.1 = p.2 by omega]; rfl
    · rw [List.getElem?_set_ne (fun z => b z.symm), if_neg (by omega), ← List.getD_eq_getElem?_getD]
theorem swA_gd {m : Nat} : ∀ {st : List (Nat × Nat)} (ws : List Nat) {L : List D}, GSt m st → L.length = m → ∀ {i : Nat}, i < m → (swA st ws L).getD i .none = L.getD (cross st ws i) .none
  | [], _, _, _, _, _, _ => rfl
  | _ :: _, [], _, _, _, _, _ => rfl
  | p :: st, x :: ws, L, h, hl, i, hi => by
    have hp := h.lt p List.mem_cons_self
    have off := h.off
    have len : (if x = 1 then sw1 L p else L).length = m := by split <;> simp [sw1_len, hl]
    show (swA st ws (if x = 1 then sw1 L p else L)).getD i .none = L.getD (if x = 1 ∧ (i = p.1 ∨ i = p.2) then p.1 + p.2 - i else cross st ws i) .none
    rw [swA_gd ws h.tail len hi]
    by_cases hx : x = 1
    · rw [if_pos hx]
      have hc := cross_lt h.tail ws hi
      rw [sw1_gd hp.1 (by omega) (by omega)]
      by_cases z : i = p.1 ∨ i = p.2
      · rw [if_pos (show x = 1 ∧ (i = p.1 ∨ i = p.2) from ⟨hx, z⟩)]
        have : cross st ws i = i := cross_off st ws i (z.elim (fun q => by rw [q]; exact off.1) (fun q => by rw [q]; exact off.2))
        rw [this, if_pos z]
      · rw [if_neg (show ¬ (x = 1 ∧ (i = p.1 ∨ i = p.2)) from fun q => z q.2)]
        have : ¬ (cross st ws i = p.1 ∨ cross st ws i = p.2) := by
          intro h2
          by_cases hw : i ∈ wires st
          · have := cross_in st ws i (fun q hq => ((h.tail).lt q hq).1) hw
            rcases h2 with q | q
            · rw [q] at this; exact off.1 this
            · rw [q] at this; exact off.2 this
          · rw [cross_off st ws i hw] at h2
            exact z h2
        rw [if_neg this]
    · rw [if_neg hx, if_neg (show ¬ (x = 1 ∧ (i = p.1 ∨ i = p.2)) from fun q => hx q.1)]
theorem swAll_gd {m : Nat} : ∀ {ss : List (List (Nat × Nat))} (wss : List (List Nat)) {L : List D}, (∀ st ∈ ss, GSt m st) → L.length = m → ∀ {w : Nat}, w < m → (swAll ss wss L).getD (endp ss wss w) .none = L.getD w .none
  | [], _, _, _, _, _, _ => rfl
  | _ :: _, [], _, _, _, _, _ => rfl
  | st :: ss, ws :: wss, L, hs, hl, w, hw => by
    have g := hs st List.mem_cons_self
    show (swAll ss wss (swA st ws L)).getD (endp ss wss (cross st ws w)) .none = _
    rw [swAll_gd wss (fun t ht => hs t (List.mem_cons_of_mem _ ht)) (by rw [swA_len, hl]) (cross_lt g ws hw), swA_gd ws g hl (cross_lt g ws hw), cross_cross ws w g]
/-! ### the walk -/
def b_moved : FDef := ⟨3, 9, [], (.of [
  .asg 3 (.o1 .listOf (.var 2)),
  .forr (.p [(.n 4), (.n 5)]) (.zip2 (.o2 .idx (.var 0) (.int 1)) (.var 1)) (.of [
    .forr (.p [(.p [(.n 6), (.n 7)]), (.n 8)]) (.zip2 (.var 4) (.var 5)) (.of [
      .iff (.e (.o2 .eq (.var 8) (.int 1))) (.of [
        .st2 3 (.var 6) 3 (.var 7) (.o2 .idx (.var 3) (.var 7)) (.o2 .idx (.var 3) (.var 6))]) (.of [])]) [6, 7, 8]]) [4, 5, 6, 7, 8],
  .ret (.o1 .tupleOf (.var 3))])⟩
theorem setC_at {e : Env} {i q : Nat} {L : List D} {x : D} (h : Sw.get e i = .c L) (hq : q < L.length) : setC e i (natD q) x = some (e.set i (.c (L.set q x))) := by
  unfold setC natD
  rw [h]
  simp only [ixN_nat hq, Option.map_some]
theorem wp_st2 {P : Po} {φ : Orc} {i j : Nat} {ix jx a b : E} {r : Ss} {e e1 e2 e3 e4 e5 e6 : Env} {x y k l : D} (h : daW (evalE φ a) e = .ok (x, e1)) (h2 : daW (evalE φ b) e1 = .ok (y, e2)) (hc : isC (Sw.get e2 i) = true) (h3 : daW (evalE φ ix) e2 = .ok (k, e3)) (h4 : setC e3 i k x = some e4)
    (hd : isC (Sw.get e4 j) = true) (h5 : daW (evalE φ jx) e4 = .ok (l, e5)) (h6 : setC e5 j l y = some e6) (c : Wp P (Sw.execs φ r e6)) : Wp P (Sw.execs φ (.cons (.st2 i ix j jx a b) r) e) := by
  simpa only [Sw.execs, Sw.exec, h, h2, hc, h3, h4, hd, h5, h6, SR.ofR_ok, if_true, SR.seq_nx] using c
theorem idx_at {L : List D} {i : Nat} {y : D} (h : seqOf y = some L) (hi : i < L.length) : op2 .idx y (natD i) = some (.d (L.getD i .none)) := by
  show (seqOf y).bind (fun xs => (atI xs (i : Int)).map V.d) = _
  rw [h]
  simp only [Option.bind_some, atI, ixN_nat hi, List.getD_eq_getElem?_getD, List.getElem?_eq_getElem hi, Option.map_some]
  rfl
theorem moved_ok {T : Tab} (hM : T "moved" = some b_moved) (n : Nat) {m : Nat} {ss : List (List (Nat × Nat))} {wss : List (List Nat)} {row : D} {rv : V} {L : List D} (hs : ∀ st ∈ ss, GSt m st) (hf : Fit ss wss) (hu : isU rv = false) (hv : viewV rv = some row) (hr : seqOf row = some L) (hl : L.length = m) :
    ∃ x y z, callF T (n + 1) "moved" [.d (netP m ss), .d (setP wss), rv] = .ok (.d (.tuple (swAll ss wss L)), [x, y, z]) := by
  suffices h : ∃ v outs, callF T (n + 1) "moved" [.d (netP m ss), .d (setP wss), rv] = .ok (v, outs) ∧ v = .d (.tuple (swAll ss wss L)) ∧ ∃ x y z, outs = [x, y, z] by
    obtain ⟨v, outs, h, rfl, x, y, z, rfl⟩ := h
    exact ⟨x, y, z, h⟩
  refine call_wp (fun v outs => v = .d (.tuple (swAll ss wss L)) ∧ ∃ x y z, outs = [x, y, z]) hM rfl ?_
  refine (show Wp _ (Sw.execs (callF T n) b_moved.body [.d (netP m ss), .d (setP wss), rv, .u, .u, .u, .u, .u, .u]) from ?_)
  simp only [b_moved, Ss.of]
  refine wp_asg (w := .c L) (o1_eval (op_var hu) hv (by simp only [op1, hr, Option.map_some])) ?_
  have i1 := o2_eval (φ := callF T n) (o := .idx) (a := .var 0) (b := .int 1) (x := netP m ss) (e := [.d (netP m ss), .d (setP wss), rv, .c L, .u, .u, .u, .u, .u]) (op_var rfl) (op_v rfl int_eval) rfl rfl (idx_tup (i := 1) rfl)
  refine wp_for (zip_src (f := stP) (g := tupN) (l := ss) (r := wss) (da_of i1 rfl) (da_var (d := setP wss) rfl) rfl rfl) (fun rest e => ∃ (L' : List D) (ss' : List (List (Nat × Nat))) (wss' : List (List Nat)), e = [.d (netP m ss), .d (setP wss), rv, .c L', .u, .u, .u, .u, .u] ∧ rest = (ss'.zip wss').map twoS ∧ Fit ss' wss' ∧ (∀ st ∈ ss', GSt m st) ∧ L'.length = m ∧ swAll ss' wss' L' = swAll ss wss L)
    ⟨L, ss, wss, rfl, rfl, hf, hs, hl, rfl⟩ (fun e he => ?_) fun x rest e he => ?_
  · obtain ⟨L', ss', wss', rfl, h1, h2, h3, h4, h5⟩ := he
    cases h2 with
    | nil =>
      have h5 : L' = swAll ss wss L := h5
      rw [h5]
      exact wp_ret (o1_eval (w := .d (.tuple (swAll ss wss L))) (op_var rfl) rfl rfl) ⟨rfl, _, _, _, rfl⟩
    | cons k1 k2 k3 => cases h1
  obtain ⟨L', ss', wss', rfl, h1, h2, h3, h4, h5⟩ := he
  cases h2 with
  | nil => cases h1
  | @cons st ws ss' wss' k1 k2 k3 =>
    injection h1 with h6 h7
    subst h6
    refine ⟨[.d (netP m ss), .d (setP wss), rv, .c L', .d (stP st), .d (tupN ws), .u, .u, .u], rfl, ?_⟩
    refine wp_for (zip_src (f := pr) (g := natD) (l := st) (r := ws) (da_var (d := stP st) rfl) (da_var (d := tupN ws) rfl) rfl rfl) (fun rest e => ∃ (M : List D) (st' : List (Nat × Nat)) (ws' : List Nat), e = [.d (netP m ss), .d (setP wss), rv, .c M, .d (stP st), .d (tupN ws), .u, .u, .u] ∧ rest = (st'.zip ws').map two ∧ ws'.length = st'.length ∧ (∀ p ∈ st', p.1 < p.2 ∧ p.2 < m) ∧ M.length = m ∧ swA st' ws' M = swA st ws L')
      ⟨L', st, ws, rfl, rfl, k1, (h3 st List.mem_cons_self).lt, h4, rfl⟩ (fun e he => ?_) fun x rest2 e he => ?_
    · obtain ⟨M, st', ws', rfl, q1, q2, q3, q4, q5⟩ := he
      cases st' with
      | nil =>
        have q5 : M = swA st ws L' := q5
        refine wp_nil ⟨M, ss', wss', rfl, h7, k3, fun t ht => h3 t (List.mem_cons_of_mem _ ht), q4, ?_⟩
        rw [q5]
        exact h5
      | cons p st' =>
        cases ws' with
        | nil => cases q2
        | cons x ws' => cases q1
    obtain ⟨M, st', ws', rfl, q1, q2, q3, q4, q5⟩ := he
    cases st' with
    | nil => simp at q1
    | cons p st' =>
      cases ws' with
      | nil => cases q2
      | cons c ws' =>
        injection q1 with q6 q7
        subst q6
        have hp := q3 p List.mem_cons_self
        refine ⟨[.d (netP m ss), .d (setP wss), rv, .c M, .d (stP st), .d (tupN ws), .d (natD p.1), .d (natD p.2), .d (natD c)], rfl, ?_⟩
        have t1 := o2_eval (φ := callF T n) (o := .eq) (a := .var 8) (b := .int 1) (e := [.d (netP m ss), .d (setP wss), rv, .c M, .d (stP st), .d (tupN ws), .d (natD p.1), .d (natD p.2), .d (natD c)]) (op_var rfl) (op_v rfl int_eval) rfl rfl (o_eq (b := 1))
        refine wp_if1 (t_e t1 rfl) (fun hb => ?_) fun hb => ?_
        · have hb : c = 1 := by simpa using hb
          have a1 := o2_eval (φ := callF T n) (o := .idx) (a := .var 3) (b := .var 7) (e := [.d (netP m ss), .d (setP wss), rv, .c M, .d (stP st), .d (tupN ws), .d (natD p.1), .d (natD p.2), .d (natD c)]) (op_var rfl) (op_var rfl) rfl rfl (idx_at (L := M) rfl (by omega))
          have a2 := o2_eval (φ := callF T n) (o := .idx) (a := .var 3) (b := .var 6) (e := [.d (netP m ss), .d (setP wss), rv, .c M, .d (stP st), .d (tupN ws), .d (natD p.1), .d (natD p.2), .d (natD c)]) (op_var rfl) (op_var rfl) rfl rfl (idx_at (L := M) rfl (by omega))
          refine wp_st2 (da_of a1 rfl) (da_of a2 rfl) rfl (da_var rfl) (setC_at (L := M) rfl (by omega)) rfl (da_var rfl) (setC_at (L := M.set p.1 (M.getD p.2 .none)) rfl (by rw [List.length_set]; omega)) (wp_nil (wp_nil ⟨sw1 M p, st', ws', rfl, q7, by simpa using q2, fun q hq => q3 q (List.mem_cons_of_mem _ hq), by rw [sw1_len, q4], ?_⟩))
          rw [← q5, hb]; rfl
        · have hb : c ≠ 1 := by simpa using hb
          refine wp_nil ⟨M, st', ws', rfl, q7, by simpa using q2, fun q hq => q3 q (List.mem_cons_of_mem _ hq), q4, ?_⟩
          rw [← q5]
          show _ = swA st' ws' (if c = 1 then sw1 M p else M)
          rw [if_neg hb]
/-- what the row becomes -/
theorem swAll_eq {m : Nat} {ss : List (List (Nat × Nat))} (wss : List (List Nat)) {L : List D} (hs : ∀ st ∈ ss, GSt m st) (hl : L.length = m) : swAll ss wss L = (List.range m).map fun i => L.getD ((places m ss wss).idxOf i) .none := by
  have ip := places_isP wss hs
  apply List.ext_getElem?
  intro i
  by_cases hi : i < m
  · have hw := ip.ix_lt hi
    have e1 := swAll_gd wss hs hl hw
    rw [← places_gd (wss := wss) hw, ip.gd_ix hi] at e1
    rw [List.getElem?_map, List.getElem?_range hi, Option.map_some, ← e1, List.getD_eq_getElem?_getD, List.getElem?_eq_getElem (by rw [swAll_len, hl]; exact hi)]
    rfl
  · rw [List.getElem?_eq_none (by rw [swAll_len, hl]; omega), List.getElem?_eq_none (by simp; omega)]
theorem swAll_inv {m : Nat} {ss : List (List (Nat × Nat))} (wss : List (List Nat)) (hs : ∀ st ∈ ss, GSt m st) : swAll ss wss (natsD (List.range m)) = natsD (inv m (places m ss wss)) := by
  rw [swAll_eq wss hs (by rw [natsD_len, List.length_range])]
  unfold natsD inv
  rw [List.map_map]
  refine List.map_congr_left fun i hi => ?_
  have hi : i < m := by simpa using hi
  have hw := (places_isP wss hs).ix_lt hi
  show (natsD (List.range m)).getD _ .none = natD _
  rw [List.getD_eq_getElem?_getD, natsD_get, List.getElem?_range hw]; rfl
def b_order_led : FDef := ⟨2, 5, [], (.of [
  .asg 2 (.rep false (.of [(.int 0)]) (.o2 .idx (.var 0) (.int 0))),
  .forr (.p [(.n 3), (.n 4)]) (.enum (.call "moved" (.of [(.var 0), (.var 1), (.ofSrc false (.rng1 (.o2 .idx (.var 0) (.int 0))))]))) (.of [
    .st 2 (.var 4) (.var 3)]) [3, 4],
  .ret (.o1 .tupleOf (.var 2))])⟩
theorem led_ok {T : Tab} (hM : T "moved" = some b_moved) (hO : T "order_led" = some b_order_led) (n : Nat) {m : Nat} {ss : List (List (Nat × Nat))} {wss : List (List Nat)} (hm : m ≤ 1000) (hs : ∀ st ∈ ss, GSt m st) (hf : Fit ss wss) :
    ∃ x y, callF T (n + 2) "order_led" [.d (netP m ss), .d (setP wss)] = .ok (.d (tupN (places m ss wss)), [x, y]) := by
  suffices h : ∃ v outs, callF T (n + 2) "order_led" [.d (netP m ss), .d (setP wss)] = .ok (v, outs) ∧ v = .d (tupN (places m ss wss)) ∧ ∃ x y, outs = [x, y] by
    obtain ⟨v, outs, h, rfl, x, y, rfl⟩ := h
    exact ⟨x, y, h⟩
  refine call_wp (fun v outs => v = .d (tupN (places m ss wss)) ∧ ∃ x y, outs = [x, y]) hO rfl ?_
  refine (show Wp _ (Sw.execs (callF T (n + 1)) b_order_led.body [.d (netP m ss), .d (setP wss), .u, .u, .u]) from ?_)
  simp only [b_order_led, Ss.of]
  have ip := places_isP wss hs
  have iq := inv_isP ip
  have i0 := o2_eval (φ := callF T (n + 1)) (o := .idx) (a := .var 0) (b := .int 0) (x := netP m ss) (e := [.d (netP m ss), .d (setP wss), .u, .u, .u]) (op_var rfl) (op_v rfl int_eval) rfl rfl (idx_tup (i := 0) rfl)
  refine wp_asg (rep_eval (op_v rfl i0) rfl (by omega)) ?_
  have i1 := o2_eval (φ := callF T (n + 1)) (o := .idx) (a := .var 0) (b := .int 0) (x := netP m ss) (e := [.d (netP m ss), .d (setP wss), .c (natsD (List.replicate m 0)), .u, .u]) (op_var rfl) (op_v rfl int_eval) rfl rfl (idx_tup (i := 0) rfl)
  obtain ⟨x, y, z, hmv⟩ := moved_ok hM n (rv := .c (natsD (List.range m))) (row := .list (natsD (List.range m))) hs hf rfl rfl rfl (by rw [natsD_len, List.length_range])
  rw [swAll_inv wss hs] at hmv
  have c1 := call_ev (φ := callF T (n + 1)) (f := "moved") (e := [.d (netP m ss), .d (setP wss), .c (natsD (List.replicate m 0)), .u, .u]) (os_cons (a := .var 0) (op_var rfl) (os_cons (a := .var 1) (op_var rfl) (os_cons (op_v rfl (ofL_eval (src_n (da_of i1 rfl) (by omega)))) os_nil))) rfl rfl hmv rfl rfl
  refine wp_for (src_en (da_of c1 rfl) rfl) (fun rest e => ∃ (found : List Nat) (j : Nat), e = [.d (netP m ss), .d (setP wss), .c (natsD found), .u, .u] ∧ found.length = m ∧ rest = enumFrom j (natsD ((inv m (places m ss wss)).drop j)) ∧ j ≤ m ∧ ∀ i < j, ∀ q, (inv m (places m ss wss))[i]? = some q → found[q]? = some i)
    ⟨List.replicate m 0, 0, rfl, by simp, rfl, by omega, fun i hi => by omega⟩ (fun e he => ?_) fun x rest e he => ?_
  · obtain ⟨found, j, rfl, hl, hr, hj, hf2⟩ := he
    have hjm : j = m := by
      refine Classical.byContradiction fun z => ?_
      have hjp : j < (inv m (places m ss wss)).length := by rw [inv_len]; omega
      rw [List.drop_eq_getElem_cons hjp] at hr
      cases hr
    subst hjm
    have e : found = places j ss wss := by
      rw [← inv_inv ip]
      apply List.ext_getElem?
      intro q
      by_cases hq : q < j
      · rw [inv_get hq]
        have hm := iq.mem hq
        exact hf2 _ (by have := List.idxOf_lt_length_iff.mpr hm; rw [iq.len] at this; exact this) q (idx_get hm)
      · rw [List.getElem?_eq_none (by omega), List.getElem?_eq_none (by rw [inv_len]; omega)]
    rw [e]
    exact wp_ret (o1_eval (w := .d (tupN (places j ss wss))) (op_var rfl) rfl rfl) ⟨rfl, _, _, rfl⟩
  obtain ⟨found, j, rfl, hl, hr, hj, hf2⟩ := he
  have hjm : j < m := by
    refine Classical.byContradiction fun z => ?_
    rw [List.drop_eq_nil_of_le (by rw [inv_len]; omega)] at hr
    cases hr
  have hjp : j < (inv m (places m ss wss)).length := by rw [inv_len]; omega
  rw [List.drop_eq_getElem_cons hjp] at hr
  generalize hg : (inv m (places m ss wss))[j] = g at hr
  have hgs : (inv m (places m ss wss))[j]? = some g := by rw [List.getElem?_eq_getElem hjp, hg]
  have hgm : g < m := iq.lt (List.mem_of_getElem? hgs)
  simp only [natsD, List.map_cons, enumFrom] at hr
  injection hr with h1 h2
  subst h1
  refine ⟨[.d (netP m ss), .d (setP wss), .c (natsD found), .d (natD j), .d (natD g)], rfl, ?_⟩
  refine wp_st (da_var (i := 3) (d := natD j) rfl) rfl (da_var (i := 4) (d := natD g) rfl) (setC_nat (l := found) rfl (by omega)) (wp_nil ⟨found.set g j, j + 1, rfl, by simp [hl], h2, by omega, fun i hi q hq' => ?_⟩)
  by_cases h : i = j
  · subst h
    have : q = g := by
      rw [hgs] at hq'
      exact (Option.some.inj hq').symm
    subst this
    rw [List.getElem?_set_self (by omega)]
  · have hne : g ≠ q := fun z => by
      have e1 := get_idx iq.nd hq'
      have e2 := get_idx iq.nd hgs
      rw [z] at e2
      omega
    rw [List.getElem?_set_ne hne]
    exact hf2 i (by omega) q hq'
end Sw
end T_SxL
section T_SxM
set_option autoImplicit false
set_option linter.all false
set_option maxRecDepth 100000
/-! SxM: the deck that counts its turns last; its stages and nets; data with long ints. -/
namespace Sw
open PySem
def b_deck4 : FDef := ⟨2, 4, [], (.of [
  .asg 2 (.int 0),
  .iff (.e (.o2 .lt (.var 1) (.o1 .len (.var 0)))) (.of [
    .asg 2 (.o2 .idx (.var 0) (.var 1))]) (.of []),
  .asg 3 (.int 0),
  .iff (.e (.o2 .ge (.var 2) (.o2 .pow (.int 10) (.int 18)))) (.of [
    .asg 3 (.var 2)]) (.of []),
  .ret (.lst (.of [(.var 3), (.o2 .mod (.var 2) (.int 2147483647)), (.int 0)]))])⟩
def b_draw4 : FDef := ⟨2, 5, [], (.of [
  .iff (.e (.o2 .gt (.o2 .idx (.var 0) (.int 0)) (.int 0))) (.of [
    .asg 2 (.o2 .mod (.o2 .idx (.var 0) (.int 0)) (.var 1)),
    .st 0 (.int 0) (.o2 .fdiv (.o2 .idx (.var 0) (.int 0)) (.var 1)),
    .ret (.mv 2)]) (.of []),
  .st 0 (.int 2) (.o2 .add (.o2 .idx (.var 0) (.int 2)) (.int 1)),
  .asg 3 (.o2 .idx (.var 0) (.int 2)),
  .asg 4 (.o2 .mod (.o2 .add (.o2 .add (.o2 .idx (.var 0) (.int 1)) (.o2 .mul (.int 7919) (.var 3))) (.o2 .mul (.o2 .mul (.int 104729) (.var 3)) (.var 3))) (.int 2147483629)),
  .asg 4 (.o2 .mod (.o2 .add (.o2 .add (.o2 .mul (.var 4) (.var 4)) (.o2 .mul (.int 69621) (.var 4))) (.o2 .idx (.var 0) (.int 1))) (.int 2147483587)),
  .ret (.o2 .mod (.o2 .fdiv (.o2 .mod (.o2 .mul (.var 4) (.int 16807)) (.int 2147483647)) (.int 16)) (.var 1))])⟩
def b_stage4 : FDef := ⟨3, 8, [], (.of [
  .asg 3 (.ofSrc false (.rng1 (.var 1))),
  .asg 4 (.lst (.of [])),
  .forr (.n 5) (.rng1 (.o2 .min2 (.call "_law_draw" (.of [(.var 0), (.o2 .add (.o2 .fdiv (.var 1) (.int 2)) (.int 1))])) (.var 2))) (.of [
    .asg 6 (.pop 3 (.call "_law_draw" (.of [(.var 0), (.o1 .len (.var 3))]))),
    .asg 7 (.pop 3 (.call "_law_draw" (.of [(.var 0), (.o1 .len (.var 3))]))),
    .ex (.app 4 (.tup (.of [(.o2 .min2 (.var 6) (.var 7)), (.o2 .max2 (.var 6) (.var 7))])))]) [5, 6, 7],
  .ret (.o1 .tupleOf (.o1 .sorted (.var 4)))])⟩
def b_net4 : FDef := ⟨4, 8, [], (.of [
  .asg 4 (.tup (.of [])),
  .forr (.n 5) (.rng1 (.var 2)) (.of [
    .asg 6 (.o2 .sub (.var 3) (.o1 .sum (.comp [7] (.n 7) (.seq (.var 4)) .no (.o1 .len (.var 7))))),
    .asg 4 (.o2 .add (.var 4) (.tup (.of [(.call "_law_stage" (.of [(.var 0), (.var 1), (.var 6)]))])))]) [5, 6],
  .ret (.tup (.of [(.var 1), (.var 4)]))])⟩
theorem draw4_int {T : Tab} (hT : T "_law_draw" = some b_draw4) (n : Nat) (a s c m : Int) (hm : 0 < m) (hl : m < 18446744073709551616) (hc : 0 ≤ c ∧ c < 1000000000000) :
    ∃ r a' c' : Int, callF T (n + 1) "_law_draw" [.c [.int a, .int s, .int c], .d (.int m)] = .ok (.d (.int r), [.c [.int a', .int s, .int c'], .d (.int m)]) ∧ 0 ≤ r ∧ r < m ∧ 0 ≤ c' ∧ c' ≤ c + 1 := by
  have h1 : ∀ x : Int, 0 ≤ x % m := fun x => Int.emod_nonneg x (by omega)
  have h2 : ∀ x : Int, x % m < m := fun x => Int.emod_lt_of_pos x hm
  rw [call_eq hT rfl]
  by_cases ha : 0 < a
  · simp [Ss.of, Es.of, Sw.execs, Sw.exec, evalE, evalT, evalC, evalDs, evalOs, evalSrc, evalPart, opW, daW, Sw.get, Sw.view, viewV, Sw.settle, op1, op2, cmpD, Sw.truth, seqOf, atI, Sw.ixN, int2, ret1, isU, isC, isOwn, setC, endF, killAll, Sw.val, addD, mulD, intMul, eqD, callE, apart, putBack, asgT, asgTs, b_draw4, hm, hl, ha]
    exact ⟨_, _, _, ⟨rfl, rfl, rfl⟩, h1 _, h2 _, by omega, by omega⟩
  · have k1 : (c + 1).natAbs < 18446744073709551616 := by omega
    have k2 : ∀ x : Int, (x % 2147483629).natAbs < 18446744073709551616 := fun x => by omega
    simp [Ss.of, Es.of, Sw.execs, Sw.exec, evalE, evalT, evalC, evalDs, evalOs, evalSrc, evalPart, opW, daW, Sw.get, Sw.view, viewV, Sw.settle, op1, op2, cmpD, Sw.truth, seqOf, atI, Sw.ixN, int2, ret1, isU, isC, isOwn, setC, endF, killAll, Sw.val, addD, mulD, intMul, eqD, callE, apart, putBack, asgT, asgTs, b_draw4, hm, hl, ha, k1, k2]
    exact ⟨_, _, _, ⟨rfl, rfl, rfl⟩, h1 _, h2 _, by omega, by omega⟩
/-- the deck -/
def dk (a s : Int) (c : Nat) : List D := [.int a, .int s, natD c]
theorem draw4 {T : Tab} (hT : T "_law_draw" = some b_draw4) (n : Nat) (a s : Int) (c m : Nat) (hm : 0 < m) (hl : m ≤ 10000000) (hc : c < 1000000000) :
    ∃ (k : Nat) (a' : Int) (c' : Nat), callF T (n + 1) "_law_draw" [.c (dk a s c), .d (natD m)] = .ok (.d (natD k), [.c (dk a' s c'), .d (natD m)]) ∧ k < m ∧ c' ≤ c + 1 := by
  obtain ⟨r, a', c', h, h0, h1, h2, h3⟩ := draw4_int hT n a s c m (by omega) (by omega) (by omega)
  refine ⟨r.toNat, a', c'.toNat, ?_, by omega, by omega⟩
  have e : ∀ r : Int, 0 ≤ r → natD r.toNat = .int r := fun r hr => by
    show PyData.int ((r.toNat : Nat) : Int) = .int r
    rw [Int.toNat_of_nonneg hr]
  unfold dk
  rw [e r h0, e c' h2]
  exact h
theorem deck4_ok {T : Tab} (hT : T "_law_deck" = some b_deck4) (n : Nat) (xs : List Int) (k : Nat) :
    ∃ (a s : Int) (y z : V), callF T (n + 1) "_law_deck" [.d (.list (xs.map .int)), .d (natD k)] = .ok (.c (dk a s 0), [y, z]) := by
  suffices h : ∃ v outs, callF T (n + 1) "_law_deck" [.d (.list (xs.map .int)), .d (natD k)] = .ok (v, outs) ∧ ∃ (a s : Int) (y z : V), v = .c (dk a s 0) ∧ outs = [y, z] by
    obtain ⟨v, outs, h, a, s, y, z, rfl, rfl⟩ := h
    exact ⟨a, s, y, z, h⟩
  refine call_wp (fun v outs => ∃ (a s : Int) (y z : V), v = .c (dk a s 0) ∧ outs = [y, z]) hT rfl ?_
  refine (show Wp _ (Sw.execs (callF T n) b_deck4.body [.d (.list (xs.map .int)), .d (natD k), .u, .u]) from ?_)
  simp only [b_deck4, Ss.of]
  refine wp_asg int_eval ?_
  have l1 := o1_eval (φ := callF T n) (o := .len) (a := .var 0) (e := [.d (.list (xs.map .int)), .d (natD k), .d (.int 0), .u]) (w := .d (natD xs.length)) (op_var rfl) rfl (by simp [op1, natD])
  have t1 := o2_eval (o := .lt) (a := .var 1) (op_var rfl) (op_v rfl l1) rfl rfl (o_lt (a := k))
  have tail : ∀ z : Int, Wp ⟨fun e => ∃ (a s : Int) (y z : V), V.d PyData.none = .c (dk a s 0) ∧ killAll b_deck4.wp (e.take b_deck4.np) = [y, z], fun _ => False, fun _ => False, fun v e => ∃ (a s : Int) (y z : V), v = .c (dk a s 0) ∧ killAll b_deck4.wp (e.take b_deck4.np) = [y, z]⟩
      (Sw.execs (callF T n) (.cons (.asg 3 (.int 0)) (.cons (.iff (.e (.o2 .ge (.var 2) (.o2 .pow (.int 10) (.int 18)))) (.cons (.asg 3 (.var 2)) .nil) .nil) (.cons (.ret (.lst (.of [(.var 3), (.o2 .mod (.var 2) (.int 2147483647)), (.int 0)]))) .nil))) [.d (.list (xs.map .int)), .d (natD k), .d (.int z), .u]) := by
    intro z
    refine wp_asg int_eval ?_
    have pw : evalE (callF T n) (.o2 .pow (.int 10) (.int 18)) [.d (.list (xs.map .int)), .d (natD k), .d (.int z), .d (.int 0)] = .ok (.d (.int (10 ^ 18)), [.d (.list (xs.map .int)), .d (natD k), .d (.int z), .d (.int 0)]) :=
      o2_eval (op_v rfl int_eval) (op_v rfl int_eval) rfl rfl (by
        show (if decide ((0 : Int) ≤ 18 ∧ (18 : Int) ≤ 1000000 ∧ (10 : Int).natAbs < 2 ^ 64) = true then some (V.d (.int ((10 : Int) ^ (18 : Int).toNat))) else none) = _
        rw [if_pos (by decide)]; rfl)
    have t := o2_eval (o := .ge) (a := .var 2) (w := .d (.bool (decide ((10 : Int) ^ 18 ≤ z)))) (op_var rfl) (op_v rfl pw) rfl rfl rfl
    have fin : ∀ d : Int, evalE (callF T n) (.lst (.of [(.var 3), (.o2 .mod (.var 2) (.int 2147483647)), (.int 0)])) [.d (.list (xs.map .int)), .d (natD k), .d (.int z), .d (.int d)] = .ok (.c (dk d (z % 2147483647) 0), [.d (.list (xs.map .int)), .d (natD k), .d (.int z), .d (.int d)]) := fun d => by
      have md := o2_eval (φ := callF T n) (o := .mod) (a := .var 2) (b := .int 2147483647) (e := [.d (.list (xs.map .int)), .d (natD k), .d (.int z), .d (.int d)]) (w := .d (.int (z % 2147483647))) (op_var rfl) (op_v rfl int_eval) rfl rfl (by
        show (if decide ((0 : Int) < 2147483647) = true then some (V.d (.int (z % 2147483647))) else none) = _
        rw [if_pos (by decide)])
      exact lst_ev (ds_cons (da_var (i := 3) rfl) (ds_cons (da_of md rfl) (ds_cons da_int ds_nil))) (show (3 : Nat) ≤ 1000 by decide)
    refine wp_if1 (t_e t rfl) (fun _ => ?_) fun _ => ?_
    · refine wp_asg (w := .d (.int z)) (by rw [evalE]; rfl) (wp_nil ?_)
      exact wp_ret (fin z) ⟨_, _, _, _, rfl, rfl⟩
    · exact wp_ret (fin 0) ⟨_, _, _, _, rfl, rfl⟩
  refine wp_if1 (t_e t1 rfl) (fun hb => ?_) fun _ => ?_
  · have hb : k < xs.length := by simpa using hb
    have ix := o2_eval (φ := callF T n) (o := .idx) (a := .var 0) (b := .var 1) (e := [.d (.list (xs.map .int)), .d (natD k), .d (.int 0), .u]) (op_var rfl) (op_var rfl) rfl rfl (idx_at (L := xs.map .int) rfl (by rw [List.length_map]; exact hb))
    have e : (xs.map PyData.int).getD k .none = .int (xs[k]) := by
      rw [List.getD_eq_getElem?_getD, List.getElem?_map, List.getElem?_eq_getElem hb]; rfl
    rw [e] at ix
    refine wp_asg ix (wp_nil ?_)
    exact tail _
  · exact tail 0
theorem stage4_ok {T : Tab} (hD : T "_law_draw" = some b_draw4) (hS : T "_law_stage" = some b_stage4) (n : Nat) (a s : Int) (c m most : Nat) (hm : m ≤ 32) (hc : c < 100000000) (hmo : most ≤ 1000) :
    ∃ (st : List (Nat × Nat)) (a' : Int) (c' : Nat) (y z : V), callF T (n + 2) "_law_stage" [.c (dk a s c), .d (natD m), .d (natD most)] = .ok (.d (stP st), [.c (dk a' s c'), y, z]) ∧ GSt m st ∧ st.length ≤ most ∧ c' ≤ c + 100 := by
  suffices h : ∃ v outs, callF T (n + 2) "_law_stage" [.c (dk a s c), .d (natD m), .d (natD most)] = .ok (v, outs) ∧ ∃ (st : List (Nat × Nat)) (a' : Int) (c' : Nat) (y z : V), v = .d (stP st) ∧ outs = [.c (dk a' s c'), y, z] ∧ GSt m st ∧ st.length ≤ most ∧ c' ≤ c + 100 by
    obtain ⟨v, outs, h, st, a', c', y, z, rfl, rfl, h2⟩ := h
    exact ⟨st, a', c', y, z, h, h2⟩
  refine call_wp (fun v outs => ∃ (st : List (Nat × Nat)) (a' : Int) (c' : Nat) (y z : V), v = .d (stP st) ∧ outs = [.c (dk a' s c'), y, z] ∧ GSt m st ∧ st.length ≤ most ∧ c' ≤ c + 100) hS rfl ?_
  refine (show Wp _ (Sw.execs (callF T (n + 1)) b_stage4.body [.c (dk a s c), .d (natD m), .d (natD most), .u, .u, .u, .u, .u]) from ?_)
  simp only [b_stage4, Ss.of]
  refine wp_asg (ofL_eval (src_n (da_var rfl) (by omega))) ?_
  refine wp_asg (w := .c []) (lst_ev ds_nil (by decide)) ?_
  obtain ⟨k0, a1, c1, d1, hk0, hc1⟩ := draw4 hD n a s c (m / 2 + 1) (by omega) (by omega) (by omega)
  have g1 := o2_eval (φ := callF T (n + 1)) (o := .fdiv) (a := .var 1) (b := .int 2) (e := [.c (dk a s c), .d (natD m), .d (natD most), .c (natsD (List.range m)), .c [], .u, .u, .u]) (op_var rfl) (op_v rfl int_eval) rfl rfl (o_div (b := 2) (by decide) (by decide))
  have g2 := o2_eval (o := .add) (b := .int 1) (op_v rfl g1) (op_v rfl int_eval) rfl rfl (o_add (b := 1))
  have g3 := o2_eval (o := .min2) (b := .var 2) (op_v rfl (s1_ev (i := 0) rfl (op_v rfl g2) rfl d1)) (op_var rfl) rfl rfl (o_min (b := most))
  refine wp_forN (src_n (da_of g3 rfl) (by omega)) (fun k e => ∃ (a : Int) (c : Nat) (left : List Nat) (ps : List (Nat × Nat)), e = [.c (dk a s c), .d (natD m), .d (natD most), .c (natsD left), .c (ps.map pr), .u, .u, .u] ∧ (wires ps ++ left).Perm (List.range m) ∧ ps.length = k ∧ (∀ p ∈ ps, p.1 < p.2 ∧ p.2 < m) ∧ c ≤ c1 + 2 * k)
    ⟨a1, c1, List.range m, [], rfl, .refl _, rfl, by simp, by omega⟩ (fun e he => ?_) fun k e hk2 he => ?_
  · obtain ⟨a, c, left, ps, rfl, q1, q2, q3, q4⟩ := he
    have so := o1_eval (φ := callF T (n + 1)) (o := .sorted) (a := .var 4) (e := [.c (dk a s c), .d (natD m), .d (natD most), .c (natsD left), .c (ps.map pr), .u, .u, .u]) (x := .list (ps.map pr)) (op_var rfl) rfl (o_sorted rfl)
    refine wp_ret (tuple_c so rfl) ⟨sortN ps, a, c, _, _, rfl, rfl, ⟨?_, ?_, ?_⟩, ?_, ?_⟩
    · exact fun p hp => q3 p ((sortN_perm ps).mem_iff.mp hp)
    · have nd := q1.symm.nodup List.nodup_range
      have pw : (wires (sortN ps)).Perm (wires ps) := (sortN_perm ps).flatMap_right _
      exact pw.symm.nodup (List.nodup_append.mp nd).1
    · rw [sortN_len]
      have := q1.length_eq
      rw [List.length_append, wires_len, List.length_range] at this
      omega
    · rw [sortN_len]; omega
    · omega
  obtain ⟨a5, c5, left, ps, rfl, q1, q2, q3, q4⟩ := he
  have ll := q1.length_eq
  rw [List.length_append, wires_len, List.length_range, q2] at ll
  have hk3 : k < m / 2 := by omega
  obtain ⟨x, a6, c6, d6, hx, hc6⟩ := draw4 hD n a5 s c5 left.length (by omega) (by omega) (by omega)
  obtain ⟨u, hu, hp⟩ := popAt_nats (l := left) (r := (x : Int)) (by omega) (by omega) (by omega)
  have l1 := o1_eval (φ := callF T (n + 1)) (o := .len) (a := .var 3) (e := [.c (dk a5 s c5), .d (natD m), .d (natD most), .c (natsD left), .c (ps.map pr), .d (natD k), .u, .u]) (w := .d (natD left.length)) (op_var rfl) rfl (by show some (V.d (.int ((natsD left).length : Int))) = _; rw [natsD_len]; rfl)
  refine wp_asg (pop_ev rfl (op_v rfl (s1_ev (i := 0) rfl (op_v rfl l1) rfl d6)) rfl rfl hp) ?_
  rw [Int.toNat_natCast] at hu hp ⊢
  have len2 : (left.eraseIdx x).length = left.length - 1 := by rw [List.length_eraseIdx, if_pos (by omega)]
  obtain ⟨x2, a7, c7, d7, hx2, hc7⟩ := draw4 hD n a6 s c6 (left.eraseIdx x).length (by omega) (by omega) (by omega)
  obtain ⟨w, hw, hp2⟩ := popAt_nats (l := left.eraseIdx x) (r := (x2 : Int)) (by omega) (by omega) (by omega)
  have l2 := o1_eval (φ := callF T (n + 1)) (o := .len) (a := .var 3) (e := [.c (dk a6 s c6), .d (natD m), .d (natD most), .c (natsD (left.eraseIdx x)), .c (ps.map pr), .d (natD k), .d (natD u), .u]) (w := .d (natD (left.eraseIdx x).length)) (op_var rfl) rfl (by show some (V.d (.int ((natsD (left.eraseIdx x)).length : Int))) = _; rw [natsD_len]; rfl)
  refine wp_asg (pop_ev rfl (op_v rfl (s1_ev (i := 0) rfl (op_v rfl l2) rfl d7)) rfl rfl hp2) ?_
  rw [Int.toNat_natCast] at hw hp2 ⊢
  have mn := o2_eval (φ := callF T (n + 1)) (o := .min2) (a := .var 6) (b := .var 7) (e := [.c (dk a7 s c7), .d (natD m), .d (natD most), .c (natsD ((left.eraseIdx x).eraseIdx x2)), .c (ps.map pr), .d (natD k), .d (natD u), .d (natD w)]) (op_var rfl) (op_var rfl) rfl rfl o_min
  have mx := o2_eval (φ := callF T (n + 1)) (o := .max2) (a := .var 6) (b := .var 7) (e := [.c (dk a7 s c7), .d (natD m), .d (natD most), .c (natsD ((left.eraseIdx x).eraseIdx x2)), .c (ps.map pr), .d (natD k), .d (natD u), .d (natD w)]) (op_var rfl) (op_var rfl) rfl rfl o_max
  have tp := tup_ev (ds_cons (da_of mn rfl) (ds_cons (da_of mx rfl) ds_nil)) (show (2 : Nat) ≤ 1000 by decide)
  have e1 := erase_perm hu
  have e2 := erase_perm hw
  have e3 : (u :: w :: (left.eraseIdx x).eraseIdx x2).Perm left := (e2.cons u).trans e1
  have nd := q1.symm.nodup List.nodup_range
  have ndl := e3.symm.nodup (List.nodup_append.mp nd).2.1
  have hne : u ≠ w := fun z => by
    subst z
    exact (List.nodup_cons.mp ndl).1 List.mem_cons_self
  have hum : u < m := by
    have : u ∈ List.range m := q1.mem_iff.mp (List.mem_append_right _ (e3.mem_iff.mp List.mem_cons_self))
    simpa using this
  have hwm : w < m := by
    have : w ∈ List.range m := q1.mem_iff.mp (List.mem_append_right _ (e3.mem_iff.mp (List.mem_cons_of_mem _ List.mem_cons_self)))
    simpa using this
  refine wp_ex (app_ev rfl (da_of tp rfl) rfl (by rw [List.length_map]; omega)) (wp_nil ⟨a7, c7, (left.eraseIdx x).eraseIdx x2, ps ++ [(min u w, max u w)], ?_, ?_, ?_, ?_, ?_⟩)
  · rw [List.map_append]; rfl
  · rw [wires_app]
    have e4 : (wires [(min u w, max u w)]).Perm [u, w] := by
      show [min u w, max u w].Perm [u, w]
      rcases Nat.lt_or_ge u w with z | z
      · rw [Nat.min_eq_left (by omega), Nat.max_eq_right (by omega)]
      · rw [Nat.min_eq_right z, Nat.max_eq_left z]
        exact List.Perm.swap ..
    rw [List.append_assoc]
    exact (List.Perm.append_left _ ((e4.append_right _).trans e3)).trans q1
  · rw [List.length_append, q2]; rfl
  · intro p hp
    rcases List.mem_append.mp hp with z | z
    · exact q3 p z
    · have := List.mem_singleton.mp z
      subst this
      exact ⟨by show min u w < max u w; omega, by show max u w < m; omega⟩
  · omega
theorem net4_ok {T : Tab} (hD : T "_law_draw" = some b_draw4) (hS : T "_law_stage" = some b_stage4) (hN : T "_law_net" = some b_net4) (n : Nat) (a s : Int) (c m t most : Nat) (hm : m ≤ 32) (hc : c < 10000000) (ht : t ≤ 100) (hmo : most ≤ 1000) :
    ∃ (ss : List (List (Nat × Nat))) (a' : Int) (c' : Nat) (x y z : V), callF T (n + 3) "_law_net" [.c (dk a s c), .d (natD m), .d (natD t), .d (natD most)] = .ok (.d (netP m ss), [.c (dk a' s c'), x, y, z]) ∧ (∀ st ∈ ss, GSt m st) ∧ ss.length = t ∧ (ss.map List.length).sum ≤ most ∧ c' ≤ c + 10000 := by
  suffices h : ∃ v outs, callF T (n + 3) "_law_net" [.c (dk a s c), .d (natD m), .d (natD t), .d (natD most)] = .ok (v, outs) ∧ ∃ (ss : List (List (Nat × Nat))) (a' : Int) (c' : Nat) (x y z : V), v = .d (netP m ss) ∧ outs = [.c (dk a' s c'), x, y, z] ∧ (∀ st ∈ ss, GSt m st) ∧ ss.length = t ∧ (ss.map List.length).sum ≤ most ∧ c' ≤ c + 10000 by
    obtain ⟨v, outs, h, ss, a', c', x, y, z, rfl, rfl, h2⟩ := h
    exact ⟨ss, a', c', x, y, z, h, h2⟩
  refine call_wp (fun v outs => ∃ (ss : List (List (Nat × Nat))) (a' : Int) (c' : Nat) (x y z : V), v = .d (netP m ss) ∧ outs = [.c (dk a' s c'), x, y, z] ∧ (∀ st ∈ ss, GSt m st) ∧ ss.length = t ∧ (ss.map List.length).sum ≤ most ∧ c' ≤ c + 10000) hN rfl ?_
  refine (show Wp _ (Sw.execs (callF T (n + 2)) b_net4.body [.c (dk a s c), .d (natD m), .d (natD t), .d (natD most), .u, .u, .u, .u]) from ?_)
  simp only [b_net4, Ss.of]
  refine wp_asg (w := .d (.tuple [])) (tup_ev ds_nil (by decide)) ?_
  refine wp_forN (src_n (da_var (i := 2) (d := natD t) rfl) (by omega)) (fun k e => ∃ (a : Int) (c2 : Nat) (ss : List (List (Nat × Nat))), e = [.c (dk a s c2), .d (natD m), .d (natD t), .d (natD most), .d (.tuple (ss.map stP)), .u, .u, .u] ∧ (∀ st ∈ ss, GSt m st) ∧ ss.length = k ∧ (ss.map List.length).sum ≤ most ∧ c2 ≤ c + 100 * k)
    ⟨a, c, [], rfl, by simp, rfl, by simp, by omega⟩ (fun e he => ?_) fun k e hk he => ?_
  · obtain ⟨a, c2, ss, rfl, q1, q2, q3, q4⟩ := he
    exact wp_ret (tup_ev (ds_cons (da_var (i := 1) (d := natD m) rfl) (ds_cons (da_var (i := 4) (d := .tuple (ss.map stP)) rfl) ds_nil)) (show (2 : Nat) ≤ 1000 by decide)) ⟨ss, a, c2, _, _, _, rfl, rfl, q1, q2, q3, by omega⟩
  obtain ⟨a1, c1, ss, rfl, q1, q2, q3, q4⟩ := he
  have cm := comp_pure (φ := callF T (n + 2)) (own := [7]) (t := .n 7) (a := .o1 .len (.var 7)) (e0 := [.c (dk a1 s c1), .d (natD m), .d (natD t), .d (natD most), .d (.tuple (ss.map stP)), .d (natD k), .u, .u]) (l := ss) stP (src_sq (da_var (i := 4) (d := .tuple (ss.map stP)) (e := [.c (dk a1 s c1), .d (natD m), .d (natD t), .d (natD most), .d (.tuple (ss.map stP)), .d (natD k), .u, .u]) rfl) rfl) (by omega) rfl (fun st => natD st.length) fun st hst =>
    ⟨[.c (dk a1 s c1), .d (natD m), .d (natD t), .d (natD most), .d (.tuple (ss.map stP)), .d (natD k), .u, .d (stP st)], _, rfl, da_of (o1_eval (w := .d (natD st.length)) (op_var rfl) rfl (by show some (V.d (.int ((st.map pr).length : Int))) = _; rw [List.length_map]; rfl)) rfl, rfl⟩
  have sm := o1_eval (op_v rfl cm) rfl (o_sum List.length ss)
  refine wp_asg (o2_eval (o := .sub) (a := .var 3) (op_var rfl) (op_v rfl sm) rfl rfl (o_sub q3)) ?_
  obtain ⟨st, a2, c2, y, z, hs, hg, hl, hc2⟩ := stage4_ok hD hS n a1 s c1 m (most - (ss.map List.length).sum) hm (by omega) (by omega)
  have cs := call_ev (φ := callF T (n + 2)) (f := "_law_stage") (e := [.c (dk a1 s c1), .d (natD m), .d (natD t), .d (natD most), .d (.tuple (ss.map stP)), .d (natD k), .d (natD (most - (ss.map List.length).sum)), .u]) (os_cons (a := .var 0) (op_var rfl) (os_cons (a := .var 1) (op_var rfl) (os_cons (a := .var 6) (op_var rfl) os_nil))) rfl rfl hs rfl rfl
  have tp := tup_ev (ds_cons (da_of cs rfl) ds_nil) (show (1 : Nat) ≤ 1000 by decide)
  refine wp_asg (o2_eval (o := .add) (a := .var 4) (x := .tuple (ss.map stP)) (w := .d (.tuple ((ss ++ [st]).map stP))) (op_var rfl) (op_v rfl tp) rfl rfl (by
    show (if (ss.map stP).length + 1 ≤ lim then some (V.d (.tuple (ss.map stP ++ [stP st]))) else none) = _
    rw [if_pos (by rw [List.length_map]; unfold lim; omega), List.map_append]; rfl)) (wp_nil ⟨a2, c2, ss ++ [st], rfl, ?_, by simp [q2], ?_, by omega⟩)
  · intro x hx
    rcases List.mem_append.mp hx with z | z
    · exact q1 x z
    · have := List.mem_singleton.mp z
      subst this
      exact hg
  · rw [List.map_append, List.sum_append]
    simp
    omega
end Sw
end T_SxM
section T_SxN
set_option autoImplicit false
set_option linter.all false
set_option maxRecDepth 100000
/-! SxN: lemmas for proofs that walk by the goal (ev.py writes the walk's tactic text). -/
namespace Sw
open PySem
/-- an equation that is to be computed -/
structure Rf {α : Type} (a b : α) : Prop where
  h : a = b
/-- an equation whose left side is to be brought into its short form -/
structure Rd {α : Type} (a b : α) : Prop where
  h : a = b
theorem get_z {x : V} {e : Env} : Sw.get (x :: e) 0 = x := rfl
theorem get_s {x : V} {e : Env} {n : Nat} : Sw.get (x :: e) (n + 1) = Sw.get e n := rfl
theorem q_eq' {x y : D} {b : Bool} (h : eqD x y = some b) : op2 .eq x y = some (.d (.bool b)) := by simp only [op2, h, Option.map_some]
theorem q_ne' {x y : D} {b : Bool} (h : eqD x y = some b) : op2 .ne x y = some (.d (.bool (!b))) := by simp only [op2, h, Option.map_some]
/-- what operands mean -/
def vals : List Opd → Env → List V
  | [], _ => []
  | .x i :: r, e => Sw.get e i :: vals r e
  | .v w :: r, e => w :: vals r e
theorem vals_n {e : Env} : vals [] e = [] := rfl
theorem vals_x {e : Env} {i : Nat} {r : List Opd} : vals (.x i :: r) e = Sw.get e i :: vals r e := rfl
theorem vals_v {e : Env} {w : V} {r : List Opd} : vals (.v w :: r) e = w :: vals r e := rfl
theorem vals_eq : ∀ (os : List Opd) (e : Env), os.map (Sw.val · e) = vals os e
  | [], _ => rfl
  | .x i :: r, e => congrArg (Sw.get e i :: ·) (vals_eq r e)
  | .v w :: r, e => congrArg (w :: ·) (vals_eq r e)
def bk (v : V) (i : Nat) (o : V) (e : Env) : Env := if isOwn v then e.set i o else e
theorem bk_c {xs : List D} {i : Nat} {o : V} {e : Env} : bk (.c xs) i o e = e.set i o := rfl
theorem bk_d {x : D} {i : Nat} {o : V} {e : Env} : bk (.d x) i o e = e := rfl
theorem pb_x {e0 e : Env} {i : Nat} {r : List Opd} {o : V} {os : List V} : putBack e0 (.x i :: r) (o :: os) e = putBack e0 r os (bk (Sw.get e0 i) i o e) := rfl
theorem pb_v {e0 e : Env} {w : V} {r : List Opd} {o : V} {os : List V} : putBack e0 (.v w :: r) (o :: os) e = putBack e0 r os e := rfl
theorem pb_n {e0 e : Env} : putBack e0 [] [] e = e := rfl
theorem view_x {i : Nat} {e : Env} : Sw.view (.x i) e = viewV (Sw.get e i) := rfl
theorem view_v {w : V} {e : Env} : Sw.view (.v w) e = viewV w := rfl
theorem viewV_d {x : D} : viewV (.d x) = some x := rfl
theorem viewV_c {x : List D} : viewV (.c x) = some (.list x) := rfl
theorem settle_d {x : D} : Sw.settle (.d x) = some x := rfl
theorem settle_c {x : List D} : Sw.settle (.c x) = some (.list x) := rfl
theorem set_z {x y : V} {e : Env} : (x :: e).set 0 y = y :: e := rfl
theorem set_s {x y : V} {e : Env} {n : Nat} : (x :: e).set (n + 1) y = x :: e.set n y := rfl
theorem ka_n {e : Env} : killAll [] e = e := rfl
theorem ka_s {e : Env} {i : Nat} {r : List Nat} : killAll (i :: r) e = (killAll r e).set i .u := rfl
theorem re_n {o e : Env} : restore o [] e = e := rfl
theorem re_s {o e : Env} {i : Nat} {r : List Nat} : restore o (i :: r) e = (restore o r e).set i (Sw.get o i) := rfl
theorem v_nat {φ : Orc} {e : Env} {n : Nat} : evalE φ (.int (@OfNat.ofNat Int n _)) e = .ok (.d (natD (@OfNat.ofNat Nat n _)), e) := by rw [evalE]; rfl
theorem v_neg {φ : Orc} {e : Env} {n : Nat} : evalE φ (.o1 .neg (.int (@OfNat.ofNat Int n _))) e = .ok (.d (.int (-(@OfNat.ofNat Int n _))), e) := o1_eval (op_v rfl int_eval) rfl rfl
theorem v_bl {φ : Orc} {e : Env} {b : Bool} : evalE φ (.bl b) e = .ok (.d (.bool b), e) := by rw [evalE]
theorem v_non {φ : Orc} {e : Env} : evalE φ .non e = .ok (.d .none, e) := by rw [evalE]
theorem v_str {φ : Orc} {e : Env} {s : String} : evalE φ (.str s) e = .ok (.d (.str (Str.ofString s)), e) := by rw [evalE]
theorem v_var {φ : Orc} {i : Nat} {e : Env} {x : D} (h : Rd (Sw.get e i) (.d x)) : evalE φ (.var i) e = .ok (.d x, e) := by rw [evalE, h.h]
theorem v_mv {φ : Orc} {i : Nat} {e : Env} {x : D} (h : Rd (Sw.get e i) (.d x)) : evalE φ (.mv i) e = .ok (.d x, e) := by rw [evalE, h.h]
theorem v_mvc {φ : Orc} {i : Nat} {e e1 : Env} {xs : List D} (h : Rd (Sw.get e i) (.c xs)) (h2 : Rd (e.set i .u) e1) : evalE φ (.mv i) e = .ok (.c xs, e1) := by rw [evalE, h.h, ← h2.h]
theorem v_fr {φ : Orc} {i : Nat} {e e1 : Env} {xs : List D} (h : Rd (Sw.get e i) (.c xs)) (h2 : Rd (e.set i (.d (.list xs))) e1) : evalE φ (.var i) e = .ok (.d (.list xs), e1) := by rw [evalE, h.h, ← h2.h]
theorem v_opx {r : Env → R (V × Env)} {i : Nat} {e : Env} (h : Rf (isU (Sw.get e i)) false) : opW r (.var i) e = .ok (.x i, e) := op_var h.h
theorem v_opv {a : E} {φ : Orc} {e e1 : Env} {w : V} (ha : Rf (notVar a) true) (h : evalE φ a e = .ok (w, e1)) : opW (evalE φ a) a e = .ok (.v w, e1) := op_v ha.h h
theorem v_da {φ : Orc} {a : E} {e e1 : Env} {w : V} {d : D} (h : evalE φ a e = .ok (w, e1)) (hs : Rd (Sw.settle w) (some d)) : daW (evalE φ a) e = .ok (d, e1) := da_of h hs.h
theorem v_o1 {φ : Orc} {o : O1} {a : E} {e e1 : Env} {p : Opd} {x : D} {w : V} (h : opW (evalE φ a) a e = .ok (p, e1)) (hv : Rd (Sw.view p e1) (some x)) (ho : op1 o x = some w) : evalE φ (.o1 o a) e = .ok (w, e1) := o1_eval h hv.h ho
theorem v_o2 {φ : Orc} {o : O2} {a b : E} {e e1 e2 : Env} {p q : Opd} {x y : D} {w : V} (h : opW (evalE φ a) a e = .ok (p, e1)) (h2 : opW (evalE φ b) b e1 = .ok (q, e2)) (hv : Rd (Sw.view p e2) (some x)) (hv2 : Rd (Sw.view q e2) (some y)) (ho : op2 o x y = some w) : evalE φ (.o2 o a b) e = .ok (w, e2) := o2_eval h h2 hv.h hv2.h ho
theorem v_lst {φ : Orc} {es : Es} {e e1 : Env} {ds : List D} (h : evalDs φ es e = .ok (ds, e1)) (hl : Rf (Nat.ble ds.length 1000) true) : evalE φ (.lst es) e = .ok (.c ds, e1) := lst_ev h (Nat.le_of_ble_eq_true hl.h)
theorem v_tup {φ : Orc} {es : Es} {e e1 : Env} {ds : List D} (h : evalDs φ es e = .ok (ds, e1)) (hl : Rf (Nat.ble ds.length 1000) true) : evalE φ (.tup es) e = .ok (.d (.tuple ds), e1) := tup_ev h (Nat.le_of_ble_eq_true hl.h)
theorem v_call {φ : Orc} {f : String} {as : Es} {e e1 e2 : Env} {os : List Opd} {args outs : List V} {w : V} (h : evalOs φ as e = .ok (os, e1)) (hok : Rf (apart e1 os && !(os.any fun o => isU (Sw.val o e1))) true) (hm : Rd (vals os e1) args) (hc : φ f args = .ok (w, outs)) (hl : Rf outs.length os.length) (hp : Rd (putBack e1 os outs e1) e2) : evalE φ (.call f as) e = .ok (w, e2) :=
  call_ev h hok.h ((vals_eq os e1).trans hm.h) hc hl.h hp.h
theorem v_app {φ : Orc} {i : Nat} {a : E} {e e1 e2 : Env} {xs : List D} {x : D} (hc : Rf (isC (Sw.get e i)) true) (h : daW (evalE φ a) e = .ok (x, e1)) (hx : Rd (Sw.get e1 i) (.c xs)) (hl : xs.length < 1000000) (h2 : Rd (e1.set i (.c (xs ++ [x]))) e2) : evalE φ (.app i a) e = .ok (.d .none, e2) := by
  rw [← h2.h]; exact app_ev hc.h h hx.h hl
theorem v_not {φ : Orc} {a : Te} {e e1 : Env} {b : Bool} (h : evalT φ a e = .ok (b, e1)) : evalE φ (.not a) e = .ok (.d (.bool (!b)), e1) := by
  rw [evalE]; exact bind2 h
theorem v_te {φ : Orc} {a : E} {e e1 : Env} {b : Bool} (ha : Rf (notVar a) true) (h : evalE φ a e = .ok (.d (.bool b), e1)) : evalT φ (.e a) e = .ok (b, e1) := t_e h ha.h
theorem v_tvar {φ : Orc} {i : Nat} {e : Env} {b : Bool} (h : Rd (Sw.get e i) (.d (.bool b))) : evalT φ (.e (.var i)) e = .ok (b, e) := by
  rw [evalT]
  refine (bind2 (op_var (by rw [h.h]; rfl))).trans ?_
  refine (bind2 (a := .bool b) (by show R.ofO (viewV (Sw.get e i)) = _; rw [h.h]; rfl)).trans rfl
theorem v_tvn {φ : Orc} {i : Nat} {e : Env} {k : Nat} (h : Rd (Sw.get e i) (.d (natD k))) : evalT φ (.e (.var i)) e = .ok (!decide (k = 0), e) := by
  rw [evalT]
  refine (bind2 (op_var (by rw [h.h]; rfl))).trans ?_
  refine (bind2 (a := natD k) (by show R.ofO (viewV (Sw.get e i)) = _; rw [h.h]; rfl)).trans ?_
  show (R.ofO (some ((k : Int) != 0))).bind _ = _
  have : ((k : Int) != 0) = !decide (k = 0) := by
    show (!((k : Int) == ((0 : Nat) : Int))) = _
    rw [bq]
  rw [this]; rfl
/-- both sides of `or`/`and` leave the frame -/
theorem v_tor {φ : Orc} {a b : Te} {e : Env} {x y : Bool} (h : evalT φ a e = .ok (x, e)) (h2 : evalT φ b e = .ok (y, e)) : evalT φ (.or a b) e = .ok (x || y, e) := t_or h (fun _ => h2) (fun _ => rfl)
theorem v_tand {φ : Orc} {a b : Te} {e : Env} {x y : Bool} (h : evalT φ a e = .ok (x, e)) (h2 : evalT φ b e = .ok (y, e)) : evalT φ (.and a b) e = .ok (x && y, e) := t_and h (fun _ => h2) (fun _ => rfl)
theorem v_tnot {φ : Orc} {a : Te} {e e1 : Env} {x : Bool} (h : evalT φ a e = .ok (x, e1)) : evalT φ (.not a) e = .ok (!x, e1) := t_not h
theorem v_slice {φ : Orc} {a : E} {lo hi : Eo} {e e1 e2 e3 : Env} {o : Opd} {l h : Option Int} {x : D} {w : V} (ha : opW (evalE φ a) a e = .ok (o, e1)) (hl : evalPart φ lo e1 = .ok (l, e2)) (hh : evalPart φ hi e2 = .ok (h, e3)) (hv : Rd (Sw.view o e3) (some x)) (hw : sliceD x l h = some w) : evalE φ (.slice a lo hi) e = .ok (w, e3) := slice_ev ha hl hh hv.h hw
theorem v_yes {φ : Orc} {a : E} {e e1 : Env} {i : Int} (h : daW (evalE φ a) e = .ok (.int i, e1)) : evalPart φ (.yes a) e = .ok (some i, e1) := part_yes h
theorem v_yesn {φ : Orc} {a : E} {e e1 : Env} {i : Nat} (h : daW (evalE φ a) e = .ok (natD i, e1)) : evalPart φ (.yes a) e = .ok (some (i : Int), e1) := part_yes h
theorem v_r1 {φ : Orc} {a : E} {e e1 : Env} {m : Nat} (h : daW (evalE φ a) e = .ok (natD m, e1)) (hm : m ≤ 100000) : evalSrc φ (.rng1 a) e = .ok (natsD (List.range m), e1) := src_n h hm
theorem v_ofl {φ : Orc} {s : Src} {e e1 : Env} {xs : List D} (h : evalSrc φ s e = .ok (xs, e1)) : evalE φ (.ofSrc false s) e = .ok (.c xs, e1) := ofL_eval h
theorem v_seqT {φ : Orc} {a : E} {e e1 : Env} {xs : List D} (h : daW (evalE φ a) e = .ok (.tuple xs, e1)) : evalSrc φ (.seq a) e = .ok (xs, e1) := src_sq h rfl
theorem v_seqL {φ : Orc} {a : E} {e e1 : Env} {xs : List D} (h : daW (evalE φ a) e = .ok (.list xs, e1)) : evalSrc φ (.seq a) e = .ok (xs, e1) := src_sq h rfl
theorem v_r1m {φ : Orc} {a : E} {e e1 : Env} {m : Nat} (h : daW (evalE φ a) e = .ok (natD m, e1)) (hm : m ≤ 100000) : evalSrc φ (.rng1 a) e = .ok ((List.range m).map natD, e1) := src_n h hm
theorem v_enT {φ : Orc} {a : E} {e e1 : Env} {xs : List D} (h : daW (evalE φ a) e = .ok (.tuple xs, e1)) : evalSrc φ (.enum a) e = .ok (enumFrom 0 xs, e1) := src_en h rfl
theorem v_enL {φ : Orc} {a : E} {e e1 : Env} {xs : List D} (h : daW (evalE φ a) e = .ok (.list xs, e1)) : evalSrc φ (.enum a) e = .ok (enumFrom 0 xs, e1) := src_en h rfl
theorem v_sumN {α : Type} {f : α → Nat} {l : List α} : op1 .sum (.list (l.map fun x => natD (f x))) = some (.d (natD (l.map f).sum)) := o_sum f l
theorem v_yesneg {φ : Orc} {e : Env} {n : Nat} : evalPart φ (.yes (.o1 .neg (.int (@OfNat.ofNat Int n _)))) e = .ok (some (-(@OfNat.ofNat Int n _)), e) := part_yes (da_of v_neg rfl)
theorem q_nes {s : Str} : op2 .ne (.str s) (.str s) = some (.d (.bool false)) := q_ne' (eqD_str s)
theorem q_eqs {s : Str} : op2 .eq (.str s) (.str s) = some (.d (.bool true)) := q_eq' (eqD_str s)
theorem q_neT {d w : Nat} {xs : List D} (h : Sm d w (.tuple xs)) (hd : d ≤ 64) : op2 .ne (.tuple xs) (.tuple xs) = some (.d (.bool false)) := q_ne' (eqD_self h hd)
theorem q_eqT {d w : Nat} {xs : List D} (h : Sm d w (.tuple xs)) (hd : d ≤ 64) : op2 .eq (.tuple xs) (.tuple xs) = some (.d (.bool true)) := q_eq' (eqD_self h hd)
theorem v_seq {φ : Orc} {a : E} {e e1 : Env} {d : D} {xs : List D} (h : daW (evalE φ a) e = .ok (d, e1)) (hs : Rd (seqOf d) (some xs)) : evalSrc φ (.seq a) e = .ok (xs, e1) := src_sq h hs.h
theorem seqOf_t {xs : List D} : seqOf (.tuple xs) = some xs := rfl
theorem seqOf_l {xs : List D} : seqOf (.list xs) = some xs := rfl
theorem v_chain {φ : Orc} {o o2 : O2} {a b c : E} {e : Env} {p q r : Opd} {x y z : D} {b1 b2 : Bool} (ha : opW (evalE φ a) a e = .ok (p, e)) (hb : opW (evalE φ b) b e = .ok (q, e)) (hv : Rd (Sw.view p e) (some x)) (hv2 : Rd (Sw.view q e) (some y)) (h1 : op2 o x y = some (.d (.bool b1)))
    (hc : opW (evalE φ c) c e = .ok (r, e)) (hvr : Rd (Sw.view r e) (some z)) (h2 : op2 o2 y z = some (.d (.bool b2))) : evalE φ (.chain o o2 a b c) e = .ok (.d (.bool (b1 && b2)), e) := by
  rw [evalE]
  refine (bind2 ha).trans ((bind2 hb).trans ((bind2 (a := x) (by rw [hv.h]; rfl)).trans ((bind2 (a := y) (by rw [hv2.h]; rfl)).trans ?_)))
  simp only [h1]
  cases b1 with
  | false => rfl
  | true =>
    show (opW (evalE φ c) c e).bind _ = _
    refine (bind2 hc).trans ((bind2 (a := y) (by rw [hv2.h]; rfl)).trans ((bind2 (a := z) (by rw [hvr.h]; rfl)).trans ?_))
    show ret1 (op2 o2 y z) e = _
    rw [h2]; rfl
theorem v_oft {φ : Orc} {s : Src} {e e1 : Env} {xs : List D} (h : evalSrc φ s e = .ok (xs, e1)) : evalE φ (.ofSrc true s) e = .ok (.d (.tuple xs), e1) := ofT_eval h
theorem q_tupN {l : List Nat} : op1 .tupleOf (.list (natsD l)) = some (.d (tupN l)) := rfl
theorem v_oftr {φ : Orc} {a : E} {e e1 : Env} {m : Nat} (h : daW (evalE φ a) e = .ok (natD m, e1)) (hm : m ≤ 100000) : evalE φ (.ofSrc true (.rng1 a)) e = .ok (.d (tupN (List.range m)), e1) := ofT_eval (src_n h hm)
theorem q_tupU {l : List Nat} : op1 .tupleOf (tupN l) = some (.d (tupN l)) := rfl
theorem q_lstN {l : List Nat} : op1 .listOf (.list (natsD l)) = some (.c (natsD l)) := rfl
theorem q_lstU {l : List Nat} : op1 .listOf (tupN l) = some (.c (natsD l)) := rfl
theorem v_asgT {t : T} {x : D} {e e1 : Env} (h : Rd (asgT t x e) (some e1)) : asgT t x e = some e1 := h.h
/-! statements whose next frame is brought into its short form -/
theorem u_asg {P : Po} {φ : Orc} {i : Nat} {a : E} {r : Ss} {e e1 e2 : Env} {w : V} (h : evalE φ a e = .ok (w, e1)) (h2 : Rd (e1.set i w) e2) (k : Wp P (Sw.execs φ r e2)) : Wp P (Sw.execs φ (.cons (.asg i a) r) e) := wp_asg h (by rw [h2.h]; exact k)
theorem u_st {P : Po} {φ : Orc} {i : Nat} {ix a : E} {r : Ss} {e e1 e2 e3 : Env} {x k : D} (h : daW (evalE φ a) e = .ok (x, e1)) (hc : Rf (isC (Sw.get e1 i)) true) (h2 : daW (evalE φ ix) e1 = .ok (k, e2)) (h3 : setC e2 i k x = some e3) (c : Wp P (Sw.execs φ r e3)) : Wp P (Sw.execs φ (.cons (.st i ix a) r) e) := wp_st h hc.h h2 h3 c
theorem u_asgT {P : Po} {φ : Orc} {t : Sw.T} {a : E} {r : Ss} {e e1 e2 : Env} {x : D} (h : daW (evalE φ a) e = .ok (x, e1)) (ht : Rd (asgT t x e1) (some e2)) (k : Wp P (Sw.execs φ r e2)) : Wp P (Sw.execs φ (.cons (.asgT t a) r) e) := wp_asgT h ht.h k
/-! operators -/
theorem q_lenL {xs : List D} : op1 .len (.list xs) = some (.d (natD xs.length)) := rfl
theorem q_lenT {xs : List D} : op1 .len (.tuple xs) = some (.d (natD xs.length)) := rfl
theorem q_lenN {l : List Nat} : op1 .len (.list (natsD l)) = some (.d (natD l.length)) := by show some (V.d (natD (natsD l).length)) = _; rw [natsD_len]
theorem q_lenU {l : List Nat} : op1 .len (tupN l) = some (.d (natD l.length)) := by show some (V.d (natD (natsD l).length)) = _; rw [natsD_len]
theorem q_lenM {α : Type} {f : α → D} {l : List α} : op1 .len (.list (l.map f)) = some (.d (natD l.length)) := by show some (V.d (natD (l.map f).length)) = _; rw [List.length_map]
theorem q_lenMT {α : Type} {f : α → D} {l : List α} : op1 .len (.tuple (l.map f)) = some (.d (natD l.length)) := by show some (V.d (natD (l.map f).length)) = _; rw [List.length_map]
theorem q_lenS {st : List (Nat × Nat)} : op1 .len (stP st) = some (.d (natD st.length)) := q_lenMT
theorem q_tupL {xs : List D} : op1 .tupleOf (.list xs) = some (.d (.tuple xs)) := rfl
theorem q_tupT {xs : List D} : op1 .tupleOf (.tuple xs) = some (.d (.tuple xs)) := rfl
theorem q_lstL {xs : List D} : op1 .listOf (.list xs) = some (.c xs) := rfl
theorem q_lstT {xs : List D} : op1 .listOf (.tuple xs) = some (.c xs) := rfl
theorem q_repr {x : D} (h : okRepr x = true) : op1 .repr x = some (.d (.str x.shown)) := by
  show (if okRepr x then some (V.d (.str x.shown)) else none) = _
  rw [h]; rfl
theorem q_eq {x y : D} {b : Bool} (h : eqD x y = some b) : op2 .eq x y = some (.d (.bool b)) := by simp only [op2, h, Option.map_some]
theorem q_ne {x y : D} {b : Bool} (h : eqD x y = some b) : op2 .ne x y = some (.d (.bool (!b))) := by simp only [op2, h, Option.map_some]
theorem q_int {b : Bool} : op1 .intOf (.bool b) = some (.d (natD (if b then 1 else 0))) := by cases b <;> rfl
theorem q_idx2 {a b i : Nat} (h : i < 2) : op2 .idx (.list [natD a, natD b]) (natD i) = some (.d (natD ([a, b].getD i 0))) := idx_natL (q := [a, b]) h
theorem q_idx3 {a b c i : Nat} (h : i < 3) : op2 .idx (.list [natD a, natD b, natD c]) (natD i) = some (.d (natD ([a, b, c].getD i 0))) := idx_natL (q := [a, b, c]) h
theorem q_idx4 {a b c d i : Nat} (h : i < 4) : op2 .idx (.list [natD a, natD b, natD c, natD d]) (natD i) = some (.d (natD ([a, b, c, d].getD i 0))) := idx_natL (q := [a, b, c, d]) h
theorem q_idx5 {a b c d f i : Nat} (h : i < 5) : op2 .idx (.list [natD a, natD b, natD c, natD d, natD f]) (natD i) = some (.d (natD ([a, b, c, d, f].getD i 0))) := idx_natL (q := [a, b, c, d, f]) h
theorem q_idx6 {a b c d f g i : Nat} (h : i < 6) : op2 .idx (.list [natD a, natD b, natD c, natD d, natD f, natD g]) (natD i) = some (.d (natD ([a, b, c, d, f, g].getD i 0))) := idx_natL (q := [a, b, c, d, f, g]) h
theorem q_idx7 {a b c d f g k i : Nat} (h : i < 7) : op2 .idx (.list [natD a, natD b, natD c, natD d, natD f, natD g, natD k]) (natD i) = some (.d (natD ([a, b, c, d, f, g, k].getD i 0))) := idx_natL (q := [a, b, c, d, f, g, k]) h
theorem q_net0 {m : Nat} {ss : List (List (Nat × Nat))} : op2 .idx (netP m ss) (natD 0) = some (.d (natD m)) := idx_tup (i := 0) rfl
theorem q_net1 {m : Nat} {ss : List (List (Nat × Nat))} : op2 .idx (netP m ss) (natD 1) = some (.d (.tuple (ss.map stP))) := idx_tup (i := 1) rfl
theorem q_isT {xs : List D} : op1 (.isi "tuple") (.tuple xs) = some (.d (.bool true)) := rfl
/-- a loop over a list with any target -/
theorem wp_forT {P : Po} {φ : Orc} {t : Sw.T} {s : Src} {b r : Ss} {kill : List Nat} {e e1 : Sw.Env} {α : Type} (g : α → D) {l : List α} (h : evalSrc φ s e = .ok (l.map g, e1)) (J : List α → Sw.Env → Prop) (h0 : J [] e1) (hn : ∀ e, J l e → Wp P (Sw.execs φ r e))
    (step : ∀ S x R e, l = S ++ x :: R → J S e → ∃ e2, asgT t (g x) e = some e2 ∧ Wp ⟨fun e1 => J (S ++ [x]) (killAll kill e1), fun e1 => Wp P (Sw.execs φ r (killAll kill e1)), fun e1 => J (S ++ [x]) (killAll kill e1), P.Q⟩ (Sw.execs φ b e2)) : Wp P (Sw.execs φ (.cons (.forr t s b kill) r) e) := by
  refine wp_for h (fun rest e => ∃ S R, l = S ++ R ∧ rest = R.map g ∧ J S e) ⟨[], l, rfl, rfl, h0⟩ (fun e he => ?_) fun x q e he => ?_
  · obtain ⟨S, R, h1, h2, h3⟩ := he
    cases R with
    | nil => rw [List.append_nil] at h1; subst h1; exact hn e h3
    | cons x R => cases h2
  · obtain ⟨S, R, h1, h2, h3⟩ := he
    cases R with
    | nil => cases h2
    | cons y R =>
      injection h2 with h4 h5
      subst h4
      obtain ⟨e2, k0, k⟩ := step S y R e h1 h3
      refine ⟨e2, k0, wp_mono k ?_ ?_ ?_ ?_⟩
      · exact fun e1 z => ⟨S ++ [y], R, by rw [h1]; simp, h5, z⟩
      · exact fun e1 z => z
      · exact fun e1 z => ⟨S ++ [y], R, by rw [h1]; simp, h5, z⟩
      · exact fun v e1 z => z
/-- triples of naturals -/
def tr (p : Nat × Nat × Nat) : D := .tuple [natD p.1, natD p.2.1, natD p.2.2]
theorem sm_tr {p : Nat × Nat × Nat} (h1 : p.1 < 1000000) (h2 : p.2.1 < 1000000) (h3 : p.2.2 < 1000000) : Sm 2 63 (tr p) := by
  refine sm_tup (d := 1) (w := 20) (xs := [natD p.1, natD p.2.1, natD p.2.2]) fun x hx => ?_
  simp only [List.mem_cons, List.not_mem_nil, or_false] at hx
  rcases hx with rfl | rfl | rfl
  · exact sm_nat h1
  · exact sm_nat h2
  · exact sm_nat h3
/-- a part of a list of lists -/
def row (wss : List (List Nat)) (i : Nat) : List Nat := wss.getD i []
theorem q_set {wss : List (List Nat)} {i : Nat} (h : i < wss.length) : op2 .idx (setP wss) (natD i) = some (.d (tupN (row wss i))) := by
  rw [idx_at (L := wss.map tupN) rfl (by rw [List.length_map]; exact h)]
  unfold row
  rw [List.getD_eq_getElem?_getD, List.getElem?_map, List.getElem?_eq_getElem h, List.getD_eq_getElem?_getD, List.getElem?_eq_getElem h]; rfl
theorem ok_bool {b : Bool} : okRepr (.bool b) = true := by cases b <;> decide
theorem boolsN_map {α : Type} (f : α → Bool) : ∀ l : List α, boolsOf (l.map fun x => .bool (f x)) = some (l.map f)
  | [] => rfl
  | x :: r => by
    show (boolsOf (r.map fun x => .bool (f x))).map (f x :: ·) = _
    rw [boolsN_map f r]; rfl
theorem o_all {α : Type} (f : α → Bool) (l : List α) : op1 .all (.list (l.map fun x => .bool (f x))) = some (.d (.bool (l.all f))) := by
  show (boolsOf (l.map fun x => .bool (f x))).map (fun bs => V.d (.bool (bs.all id))) = _
  rw [boolsN_map]
  simp only [Option.map_some, List.all_map]
  rfl
theorem none_kept {α β : Type} (f : α → Bool) (g : α → β) (p : α → Bool) (hp : ∀ x, p x = !f x) : ∀ l : List α, ((l.filter p).map g = []) ↔ l.all f = true
  | [] => by simp
  | x :: r => by
    have ih := none_kept f g p hp r
    cases h : f x with
    | true => rw [List.filter_cons_of_neg (by rw [hp, h]; exact Bool.false_ne_true), ih, List.all_cons, h, Bool.true_and]
    | false => rw [List.filter_cons_of_pos (by rw [hp, h]; rfl), List.all_cons, h, Bool.false_and]; simp
theorem q_r3 {a b c : Nat} (hc : 0 < c ∧ c ≤ 1000) (ha : a ≤ 100000) (hb : b ≤ 100000) : range3 (natD a) (natD b) (natD c) = some (natsD ((List.range ((b - a + c - 1) / c)).map fun i => a + i * c)) := by
  have sz : Builtin.Range.rangeSize (a : Int) (b : Int) (c : Int) = (((b - a + c - 1) / c : Nat) : Int) := by
    unfold Builtin.Range.rangeSize
    rw [if_pos (by omega)]
    by_cases h : a < b
    · rw [if_pos (by omega)]
      have e1 : (b : Int) - a - 1 = ((b - a - 1 : Nat) : Int) := by omega
      rw [e1, ← Int.natCast_ediv]
      have e2 : b - a + c - 1 = (b - a - 1) + c := by omega
      rw [e2, Nat.add_div_right _ hc.1]; rfl
    · rw [if_neg (by omega)]
      have e2 : (b - a + c - 1) / c = 0 := Nat.div_eq_of_lt (by omega)
      rw [e2]; rfl
  have q0 : (b - a + c - 1) / c ≤ 200000 := Nat.le_trans (Nat.div_le_self _ _) (by omega)
  show (if decide ((c : Int) ≠ 0 ∧ (c : Int).natAbs < 1073741824) && Builtin.Range.small (a : Int) (b : Int) (c : Int) && decide (0 ≤ Builtin.Range.rangeSize (a : Int) (b : Int) (c : Int) ∧ (Builtin.Range.rangeSize (a : Int) (b : Int) (c : Int)).toNat ≤ lim) then some (rangeD (a : Int) (Builtin.Range.rangeSize (a : Int) (b : Int) (c : Int)).toNat (c : Int)) else none) = _
  have ft : ∀ k : Int, -1000000000 ≤ k → k ≤ 1000000000 → Builtin.Range.rangeFitsLong k = true := fun k h1 h2 => by
    unfold Builtin.Range.rangeFitsLong
    simp
    omega
  have sm : Builtin.Range.small (a : Int) (b : Int) (c : Int) = true := by
    unfold Builtin.Range.small
    rw [sz, ft _ (by omega) (by omega), ft _ (by omega) (by omega), ft _ (by omega) (by omega)]
    generalize (b - a + c - 1) / c = q at q0
    rw [ft _ (by omega) (by omega), if_pos (by omega), ft _ (by omega) (by omega)]
    simp
  rw [sz, sm, Int.toNat_natCast]
  generalize (b - a + c - 1) / c = q at q0
  rw [decide_eq_true (⟨by omega, by omega⟩ : (c : Int) ≠ 0 ∧ (c : Int).natAbs < 1073741824), decide_eq_true (⟨by omega, by unfold lim; omega⟩ : (0 : Int) ≤ ((q : Nat) : Int) ∧ q ≤ lim)]
  refine (if_pos rfl).trans (congrArg some ?_)
  unfold rangeD natsD
  rw [List.map_map]
  refine List.map_congr_left fun i _ => ?_
  show PyData.int ((a : Int) + (i : Int) * (c : Int)) = PyData.int (((a + i * c : Nat)) : Int)
  rw [Int.natCast_add, Int.natCast_mul]
theorem gd_left {α : Type} {A B : List α} {i : Nat} {d : α} (h : i < A.length) : (A ++ B).getD i d = A.getD i d := by
  rw [List.getD_eq_getElem?_getD, List.getElem?_append_left h, List.getD_eq_getElem?_getD]
theorem gd_app {α : Type} {A : List α} {x d : α} {B : List α} : (A ++ x :: B).getD A.length d = x := by
  rw [List.getD_eq_getElem?_getD, List.getElem?_append_right (Nat.le_refl _), Nat.sub_self]; rfl
theorem row_mem {wss : List (List Nat)} {i : Nat} (h : i < wss.length) : row wss i ∈ wss := by
  unfold row
  rw [List.getD_eq_getElem?_getD, List.getElem?_eq_getElem h]
  exact List.getElem_mem _
theorem gdn_mem {l : List Nat} {i : Nat} (h : i < l.length) : l.getD i 0 ∈ l := by
  rw [List.getD_eq_getElem?_getD, List.getElem?_eq_getElem h]
  exact List.getElem_mem _
theorem gd_mem {α : Type} {l : List α} {i : Nat} {d : α} (h : i < l.length) : l.getD i d ∈ l := by
  rw [List.getD_eq_getElem?_getD, List.getElem?_eq_getElem h]
  exact List.getElem_mem _
theorem gd_map {α β : Type} {l : List α} {f : α → β} {i : Nat} {d : α} {d' : β} (h : i < l.length) : (l.map f).getD i d' = f (l.getD i d) := by
  rw [List.getD_eq_getElem?_getD, List.getElem?_map, List.getElem?_eq_getElem h, List.getD_eq_getElem?_getD, List.getElem?_eq_getElem h]; rfl
theorem split_len {α : Type} {l S R : List α} {x : α} (h : l = S ++ x :: R) : S.length < l.length := by
  rw [h]; simp
theorem en_src {φ : Orc} {a : E} {e e1 : Env} {α : Type} (g : α → D) {l : List α} {d : D} (h : daW (evalE φ a) e = .ok (d, e1)) (hs : seqOf d = some (l.map g)) : evalSrc φ (.enum a) e = .ok (enumFrom 0 (l.map g), e1) := src_en h hs
/-- a loop over enumerate -/
theorem wp_forE {P : Po} {φ : Orc} {t : Sw.T} {s : Src} {b r : Ss} {kill : List Nat} {e e1 : Sw.Env} {α : Type} (g : α → D) {l : List α} (h : evalSrc φ s e = .ok (enumFrom 0 (l.map g), e1)) (J : List α → Sw.Env → Prop) (h0 : J [] e1) (hn : ∀ e, J l e → Wp P (Sw.execs φ r e))
    (step : ∀ S x R e, l = S ++ x :: R → J S e → ∃ e2, asgT t (.tuple [natD S.length, g x]) e = some e2 ∧ Wp ⟨fun e1 => J (S ++ [x]) (killAll kill e1), fun e1 => Wp P (Sw.execs φ r (killAll kill e1)), fun e1 => J (S ++ [x]) (killAll kill e1), P.Q⟩ (Sw.execs φ b e2)) : Wp P (Sw.execs φ (.cons (.forr t s b kill) r) e) := by
  refine wp_for h (fun rest e => ∃ S R, l = S ++ R ∧ rest = enumFrom S.length (R.map g) ∧ J S e) ⟨[], l, rfl, rfl, h0⟩ (fun e he => ?_) fun x q e he => ?_
  · obtain ⟨S, R, h1, h2, h3⟩ := he
    cases R with
    | nil => rw [List.append_nil] at h1; subst h1; exact hn e h3
    | cons x R => cases h2
  · obtain ⟨S, R, h1, h2, h3⟩ := he
    cases R with
    | nil => cases h2
    | cons y R =>
      injection h2 with h4 h5
      subst h4
      obtain ⟨e2, k0, k⟩ := step S y R e h1 h3
      have h5 : q = enumFrom (S ++ [y]).length (R.map g) := by rw [h5, List.length_append]; rfl
      refine ⟨e2, k0, wp_mono k ?_ ?_ ?_ ?_⟩
      · exact fun e1 z => ⟨S ++ [y], R, by rw [h1]; simp, h5, z⟩
      · exact fun e1 z => z
      · exact fun e1 z => ⟨S ++ [y], R, by rw [h1]; simp, h5, z⟩
      · exact fun v e1 z => z
theorem eqvAll_len : ∀ {xs ys : List D}, PyData.eqvAll xs ys = true → xs.length = ys.length
  | [], [], _ => rfl
  | [], _ :: _, h => by cases h
  | _ :: _, [], h => by cases h
  | x :: xs, y :: ys, h => by
    have h : (PyData.eqv x y && PyData.eqvAll xs ys) = true := h
    rw [Bool.and_eq_true] at h
    rw [List.length_cons, List.length_cons, eqvAll_len h.2]
/-- a net of few wires, as data -/
theorem sm_net {m : Nat} {ss : List (List (Nat × Nat))} (hm : m < 1000000) (hl : ss.length ≤ 100) (hs : ∀ st ∈ ss, st.length ≤ 100 ∧ ∀ p ∈ st, p.1 < 1000000 ∧ p.2 < 1000000) : Sm 5 1000000 (netP m ss) := by
  have k1 : Sm 4 450000 (.tuple (ss.map stP)) := (sm_tup (d := 3) (w := 4400) fun x hx => by
    obtain ⟨st, hst, rfl⟩ := List.mem_map.mp hx
    obtain ⟨h1, h2⟩ := hs st hst
    refine (sm_tup (d := 2) (w := 42) fun y hy => ?_).mono (by decide) (by rw [List.length_map]; omega)
    obtain ⟨p, hp, rfl⟩ := List.mem_map.mp hy
    exact sm_pr (h2 p hp).1 (h2 p hp).2).mono (by decide) (by rw [List.length_map]; omega)
  refine (sm_tup (d := 4) (w := 450000) (xs := [natD m, .tuple (ss.map stP)]) fun x hx => ?_).mono (by decide) (by simp)
  simp only [List.mem_cons, List.not_mem_nil, or_false] at hx
  rcases hx with rfl | rfl
  · exact (sm_nat hm).mono (by decide) (by decide)
  · exact k1
theorem eqD_nets {m k : Nat} {ss ws : List (List (Nat × Nat))} (h1 : Sm 5 1000000 (netP m ss)) (h2 : Sm 5 1000000 (netP k ws)) : ∃ b, eqD (netP m ss) (netP k ws) = some b ∧ (b = true → ss.length = ws.length) := by
  refine ⟨PyData.eqv (netP m ss) (netP k ws), ?_, fun h => ?_⟩
  · show (if shapedB (netP m ss) && shapedB (netP k ws) then some (PyData.eqv (netP m ss) (netP k ws)) else none) = _
    rw [h1.shaped (by decide), h2.shaped (by decide)]; rfl
  · have h : (PyData.eqv (natD m) (natD k) && (PyData.eqvAll (ss.map stP) (ws.map stP) && true)) = true := h
    rw [Bool.and_true, Bool.and_eq_true] at h
    have := eqvAll_len h.2
    simpa using this
end Sw
end T_SxN
section T_SxO
set_option autoImplicit false
set_option linter.all false
set_option maxRecDepth 100000
set_option maxHeartbeats 2000000
/-! SxO: the program's own ways; nets behind, beside and about one another. -/
namespace Sw
open PySem
def b_across : FDef := ⟨3, 6, [], (.of [
  .forr (.p [(.p [(.n 3), (.n 4)]), (.n 5)]) (.zip2 (.var 0) (.var 1)) (.of [
    .iff (.and (.e (.o2 .eq (.var 5) (.int 1))) (.e (.o2 .inn (.var 2) (.tup (.of [(.var 3), (.var 4)]))))) (.of [
      .ret (.o2 .sub (.o2 .add (.var 3) (.var 4)) (.var 2))]) (.of [])]) [3, 4, 5],
  .ret (.mv 2)])⟩
def b_way_of : FDef := ⟨3, 6, [], (.of [
  .asg 3 (.lst (.of [(.var 2)])),
  .forr (.p [(.n 4), (.n 5)]) (.zip2 (.o2 .idx (.var 0) (.int 1)) (.var 1)) (.of [
    .ex (.app 3 (.call "across" (.of [(.var 4), (.var 5), (.o2 .idx (.var 3) (.o1 .neg (.int 1)))])))]) [4, 5],
  .ret (.o1 .tupleOf (.var 3))])⟩
theorem v_zip {φ : Orc} {a b : E} {e e1 e2 : Env} {α β : Type} {f : α → D} {g : β → D} {l : List α} {r : List β} {x y : D} (h : daW (evalE φ a) e = .ok (x, e1)) (h2 : daW (evalE φ b) e1 = .ok (y, e2)) (hx : Rd (seqOf x) (some (l.map f))) (hy : Rd (seqOf y) (some (r.map g))) : evalSrc φ (.zip2 a b) e = .ok ((l.zip r).map fun q => .tuple [f q.1, g q.2], e2) := zip_src h h2 hx.h hy.h
theorem acr_ok (n : Nat) {T : Tab} (hA : T "across" = some b_across) {st : List (Nat × Nat)} {ws : List Nat} {w : Nat} (hl : ws.length = st.length) : ∃ (x y z : V), callF T (n + 1) "across" [.d (stP st), .d (tupN ws), .d (natD w)] = .ok (.d (natD (cross st ws w)), [x, y, z]) ∧ True := by
  suffices h : ∃ v outs, callF T (n + 1) "across" [.d (stP st), .d (tupN ws), .d (natD w)] = .ok (v, outs) ∧ ∃ (x y z : V), v = .d (natD (cross st ws w)) ∧ outs = [x, y, z] ∧ True by
    obtain ⟨v, outs, h, x, y, z, rfl, rfl, hp⟩ := h
    exact ⟨x, y, z, h, hp⟩
  refine call_wp (fun v outs => ∃ (x y z : V), v = .d (natD (cross st ws w)) ∧ outs = [x, y, z] ∧ True) (fd := b_across) hA rfl ?_
  refine (show Wp _ (Sw.execs (callF T n) b_across.body [.d (stP st), .d (tupN ws), .d (natD w), .u, .u, .u]) from ?_)
  simp only [b_across, Ss.of, Es.of]
  refine wp_for (zip_src (f := pr) (g := natD) (l := st) (r := ws) (da_var (d := stP st) rfl) (da_var (d := tupN ws) rfl) rfl rfl) (fun rest e => e = [.d (stP st), .d (tupN ws), .d (natD w), .u, .u, .u] ∧ ∃ st' ws', rest = (st'.zip ws').map two ∧ ws'.length = st'.length ∧ cross st' ws' w = cross st ws w) ⟨rfl, st, ws, rfl, hl, rfl⟩ (fun e he => ?_) fun x rest e he => ?_
  · obtain ⟨rfl, st', ws', h1, h2, h3⟩ := he
    cases st' with
    | nil =>
      have h4 : w = cross st ws w := h3
      refine wp_ret (w := .d (natD (cross st ws w))) (e1 := [.d (stP st), .d (tupN ws), .d (natD w), .u, .u, .u]) ?_ ⟨_, _, _, rfl, rfl, trivial⟩
      rw [← h4, evalE]; rfl
    | cons p st' =>
      cases ws' with
      | nil => cases h2
      | cons x ws' => cases h1
  obtain ⟨rfl, st', ws', h1, h2, h3⟩ := he
  cases st' with
  | nil => simp at h1
  | cons p st' =>
    cases ws' with
    | nil => cases h2
    | cons c ws' =>
      injection h1 with h4 h5
      subst h4
      refine ⟨[.d (stP st), .d (tupN ws), .d (natD w), .d (natD p.1), .d (natD p.2), .d (natD c)], rfl, ?_⟩
      have q1 : op2 .inn (natD w) (.tuple [natD p.1, natD p.2]) = some (.d (.bool (decide (w ∈ [p.1, p.2])))) := in_nats (ns := [p.1, p.2])
      refine wp_if1 (by (repeat' first | exact Rf.mk rfl | (apply Rd.mk; (try dsimp only [vals_n, vals_x, vals_v, bk_c, bk_d, pb_x, pb_v, pb_n, view_x, view_v, viewV_d, viewV_c, settle_d, settle_c, get_z, get_s, set_z, set_s, ka_n, ka_s, re_n, re_s, seqOf_t, seqOf_l, asgT, asgTs, Option.bind_some, ↓reduceIte, List.length_cons, List.length_nil]); (try exact rfl); done) | with_reducible exact q1 | with_reducible exact v_yesneg | with_reducible exact q_nes | with_reducible exact q_eqs | with_reducible exact v_nat | with_reducible exact v_neg | with_reducible exact v_bl | with_reducible exact v_non | with_reducible exact v_str | with_reducible exact ds_nil | with_reducible exact os_nil | with_reducible exact part_no | with_reducible exact q_net0 | with_reducible exact q_net1 | with_reducible exact o_add | with_reducible exact o_min | with_reducible exact o_max | with_reducible exact o_eq | with_reducible exact o_ne | with_reducible exact o_lt | with_reducible exact o_le | with_reducible exact o_gt | with_reducible exact o_ge | with_reducible exact q_lenN | with_reducible exact q_lenU | with_reducible exact q_lenS | with_reducible exact q_lenM | with_reducible exact q_lenMT | with_reducible exact q_lenL | with_reducible exact q_lenT | with_reducible exact q_tupN | with_reducible exact q_tupU | with_reducible exact q_lstN | with_reducible exact q_lstU | with_reducible exact q_tupL | with_reducible exact q_tupT | with_reducible exact q_lstL | with_reducible exact q_lstT | with_reducible exact q_int | with_reducible exact q_isT | ((with_reducible apply v_var); apply Rd.mk; (try dsimp only [vals_n, vals_x, vals_v, bk_c, bk_d, pb_x, pb_v, pb_n, view_x, view_v, viewV_d, viewV_c, settle_d, settle_c, get_z, get_s, set_z, set_s, ka_n, ka_s, re_n, re_s, seqOf_t, seqOf_l, asgT, asgTs, Option.bind_some, ↓reduceIte, List.length_cons, List.length_nil]); (try with_reducible exact rfl); done) | ((with_reducible apply v_mv); apply Rd.mk; (try dsimp only [vals_n, vals_x, vals_v, bk_c, bk_d, pb_x, pb_v, pb_n, view_x, view_v, viewV_d, viewV_c, settle_d, settle_c, get_z, get_s, set_z, set_s, ka_n, ka_s, re_n, re_s, seqOf_t, seqOf_l, asgT, asgTs, Option.bind_some, ↓reduceIte, List.length_cons, List.length_nil]); (try with_reducible exact rfl); done) | ((with_reducible apply v_opx); exact Rf.mk rfl) | with_reducible apply v_fr | with_reducible apply v_mvc | with_reducible apply v_o2 | with_reducible apply v_o1 | with_reducible apply v_call | with_reducible apply v_da | with_reducible apply v_opv | with_reducible apply v_lst | with_reducible apply v_tup | with_reducible apply ds_cons | with_reducible apply os_cons | with_reducible apply v_app | with_reducible apply v_not | with_reducible apply v_tor | with_reducible apply v_tand | with_reducible apply v_tnot | with_reducible apply v_te | with_reducible apply v_slice | with_reducible apply v_yesn | with_reducible apply v_chain | with_reducible apply v_seq | with_reducible apply v_r1 | with_reducible apply v_r1m | with_reducible apply v_enT | with_reducible apply v_enL | with_reducible apply v_ofl | with_reducible apply v_oftr | with_reducible apply v_oft | with_reducible apply o_mul | with_reducible apply o_sub | with_reducible apply o_mod | with_reducible apply o_div | with_reducible apply o_shr | with_reducible apply idx_nat | with_reducible apply q_idx2 | with_reducible apply q_idx3 | with_reducible apply q_idx4 | with_reducible apply q_idx5 | with_reducible apply q_idx6 | with_reducible apply q_idx7 | with_reducible apply q_repr | with_reducible apply idx_natL | with_reducible assumption | omega)) (fun hb => ?_) fun hb => ?_
      · have hb : c = 1 ∧ (w = p.1 ∨ w = p.2) := by simpa using hb
        have hs : w ≤ p.1 + p.2 := by rcases hb.2 with z | z <;> omega
        refine wp_ret (by (repeat' first | exact Rf.mk rfl | (apply Rd.mk; (try dsimp only [vals_n, vals_x, vals_v, bk_c, bk_d, pb_x, pb_v, pb_n, view_x, view_v, viewV_d, viewV_c, settle_d, settle_c, get_z, get_s, set_z, set_s, ka_n, ka_s, re_n, re_s, seqOf_t, seqOf_l, asgT, asgTs, Option.bind_some, ↓reduceIte, List.length_cons, List.length_nil]); (try exact rfl); done) | with_reducible exact v_yesneg | with_reducible exact q_nes | with_reducible exact q_eqs | with_reducible exact v_nat | with_reducible exact v_neg | with_reducible exact v_bl | with_reducible exact v_non | with_reducible exact v_str | with_reducible exact ds_nil | with_reducible exact os_nil | with_reducible exact part_no | with_reducible exact q_net0 | with_reducible exact q_net1 | with_reducible exact o_add | with_reducible exact o_min | with_reducible exact o_max | with_reducible exact o_eq | with_reducible exact o_ne | with_reducible exact o_lt | with_reducible exact o_le | with_reducible exact o_gt | with_reducible exact o_ge | with_reducible exact q_lenN | with_reducible exact q_lenU | with_reducible exact q_lenS | with_reducible exact q_lenM | with_reducible exact q_lenMT | with_reducible exact q_lenL | with_reducible exact q_lenT | with_reducible exact q_tupN | with_reducible exact q_tupU | with_reducible exact q_lstN | with_reducible exact q_lstU | with_reducible exact q_tupL | with_reducible exact q_tupT | with_reducible exact q_lstL | with_reducible exact q_lstT | with_reducible exact q_int | with_reducible exact q_isT | ((with_reducible apply v_var); apply Rd.mk; (try dsimp only [vals_n, vals_x, vals_v, bk_c, bk_d, pb_x, pb_v, pb_n, view_x, view_v, viewV_d, viewV_c, settle_d, settle_c, get_z, get_s, set_z, set_s, ka_n, ka_s, re_n, re_s, seqOf_t, seqOf_l, asgT, asgTs, Option.bind_some, ↓reduceIte, List.length_cons, List.length_nil]); (try with_reducible exact rfl); done) | ((with_reducible apply v_mv); apply Rd.mk; (try dsimp only [vals_n, vals_x, vals_v, bk_c, bk_d, pb_x, pb_v, pb_n, view_x, view_v, viewV_d, viewV_c, settle_d, settle_c, get_z, get_s, set_z, set_s, ka_n, ka_s, re_n, re_s, seqOf_t, seqOf_l, asgT, asgTs, Option.bind_some, ↓reduceIte, List.length_cons, List.length_nil]); (try with_reducible exact rfl); done) | ((with_reducible apply v_opx); exact Rf.mk rfl) | with_reducible apply v_fr | with_reducible apply v_mvc | with_reducible apply v_o2 | with_reducible apply v_o1 | with_reducible apply v_call | with_reducible apply v_da | with_reducible apply v_opv | with_reducible apply v_lst | with_reducible apply v_tup | with_reducible apply ds_cons | with_reducible apply os_cons | with_reducible apply v_app | with_reducible apply v_not | with_reducible apply v_tor | with_reducible apply v_tand | with_reducible apply v_tnot | with_reducible apply v_te | with_reducible apply v_slice | with_reducible apply v_yesn | with_reducible apply v_chain | with_reducible apply v_seq | with_reducible apply v_r1 | with_reducible apply v_r1m | with_reducible apply v_enT | with_reducible apply v_enL | with_reducible apply v_ofl | with_reducible apply v_oftr | with_reducible apply v_oft | with_reducible apply o_mul | with_reducible apply o_sub | with_reducible apply o_mod | with_reducible apply o_div | with_reducible apply o_shr | with_reducible apply idx_nat | with_reducible apply q_idx2 | with_reducible apply q_idx3 | with_reducible apply q_idx4 | with_reducible apply q_idx5 | with_reducible apply q_idx6 | with_reducible apply q_idx7 | with_reducible apply q_repr | with_reducible apply idx_natL | with_reducible assumption | omega)) ?_
        refine ⟨_, _, _, ?_, rfl, trivial⟩
        rw [← h3]
        show _ = V.d (natD (if c = 1 ∧ (w = p.1 ∨ w = p.2) then p.1 + p.2 - w else cross st' ws' w))
        rw [if_pos hb]
      · have hb : ¬ (c = 1 ∧ (w = p.1 ∨ w = p.2)) := by
          intro q
          have : (decide (c = 1) && decide (w ∈ [p.1, p.2])) = true := by simpa using q
          rw [hb] at this
          cases this
        refine wp_nil ⟨rfl, st', ws', h5, by simpa using h2, ?_⟩
        rw [← h3]
        show _ = (if c = 1 ∧ (w = p.1 ∨ w = p.2) then p.1 + p.2 - w else cross st' ws' w)
        rw [if_neg hb]
theorem wayof_ok (n : Nat) {T : Tab} (hA : T "across" = some b_across) (hW : T "way_of" = some b_way_of) {m : Nat} {ss : List (List (Nat × Nat))} {wss : List (List Nat)} {w : Nat} (hf : Fit ss wss) (hl : ss.length ≤ 1000) : ∃ (x y z : V), callF T (n + 2) "way_of" [.d (netP m ss), .d (setP wss), .d (natD w)] = .ok (.d (tupN (w :: pathT ss wss w)), [x, y, z]) ∧ True := by
  suffices h : ∃ v outs, callF T (n + 2) "way_of" [.d (netP m ss), .d (setP wss), .d (natD w)] = .ok (v, outs) ∧ ∃ (x y z : V), v = .d (tupN (w :: pathT ss wss w)) ∧ outs = [x, y, z] ∧ True by
    obtain ⟨v, outs, h, x, y, z, rfl, rfl, hp⟩ := h
    exact ⟨x, y, z, h, hp⟩
  refine call_wp (fun v outs => ∃ (x y z : V), v = .d (tupN (w :: pathT ss wss w)) ∧ outs = [x, y, z] ∧ True) (fd := b_way_of) hW rfl ?_
  refine (show Wp _ (Sw.execs (callF T (n + 1)) b_way_of.body [.d (netP m ss), .d (setP wss), .d (natD w), .u, .u, .u]) from ?_)
  simp only [b_way_of, Ss.of, Es.of]
  refine wp_asg (w := .c (natsD [w])) (lst_ev (ds_cons (da_var rfl) ds_nil) (show (1 : Nat) ≤ 1000 by decide)) ?_
  have i1 := o2_eval (φ := callF T (n + 1)) (o := .idx) (a := .var 0) (b := .int 1) (x := netP m ss) (e := [.d (netP m ss), .d (setP wss), .d (natD w), .c (natsD [w]), .u, .u]) (op_var rfl) (op_v rfl int_eval) rfl rfl (idx_tup (i := 1) rfl)
  refine wp_for (zip_src (f := stP) (g := tupN) (l := ss) (r := wss) (da_of i1 rfl) (da_var (d := setP wss) rfl) rfl rfl) (fun rest e => ∃ (pre : List Nat) (cur : Nat) (ss' : List (List (Nat × Nat))) (wss' : List (List Nat)), e = [.d (netP m ss), .d (setP wss), .d (natD w), .c (natsD (pre ++ [cur])), .u, .u] ∧ rest = (ss'.zip wss').map twoS ∧ Fit ss' wss' ∧ (pre ++ [cur]) ++ pathT ss' wss' cur = w :: pathT ss wss w ∧ pre.length + ss'.length ≤ 1000)
    ⟨[], w, ss, wss, rfl, rfl, hf, rfl, by simpa using hl⟩ (fun e he => ?_) fun x rest e he => ?_
  · obtain ⟨pre, cur, ss', wss', rfl, h1, h2, h3, _⟩ := he
    cases h2 with
    | nil =>
      have h3 : pre ++ [cur] = w :: pathT ss wss w := by simpa [pathT] using h3
      rw [h3]
      exact wp_ret (o1_eval (w := .d (tupN (w :: pathT ss wss w))) (op_var rfl) rfl rfl) ⟨_, _, _, rfl, rfl, trivial⟩
    | cons k1 k2 k3 => cases h1
  · obtain ⟨pre, cur, ss', wss', rfl, h1, h2, h3, h4⟩ := he
    cases h2 with
    | nil => cases h1
    | @cons st ws ss' wss' k1 k2 k3 =>
      injection h1 with h5 h6
      subst h5
      refine ⟨[.d (netP m ss), .d (setP wss), .d (natD w), .c (natsD (pre ++ [cur])), .d (stP st), .d (tupN ws)], rfl, ?_⟩
      obtain ⟨x, y, z, ha, _⟩ := acr_ok n hA (w := cur) k1
      have i2 : op2 .idx (.list (natsD (pre ++ [cur]))) (.int (-1)) = some (.d (natD cur)) := idx_last rfl
      have lm : (natsD (pre ++ [cur])).length < 1000000 := by
        rw [natsD_len, List.length_append]; simp only [List.length_cons] at h4; simp; omega
      refine wp_ex (by (repeat' first | exact Rf.mk rfl | (apply Rd.mk; (try dsimp only [vals_n, vals_x, vals_v, bk_c, bk_d, pb_x, pb_v, pb_n, view_x, view_v, viewV_d, viewV_c, settle_d, settle_c, get_z, get_s, set_z, set_s, ka_n, ka_s, re_n, re_s, seqOf_t, seqOf_l, asgT, asgTs, Option.bind_some, ↓reduceIte, List.length_cons, List.length_nil]); (try exact rfl); done) | with_reducible exact ha | with_reducible exact i2 | with_reducible exact v_yesneg | with_reducible exact q_nes | with_reducible exact q_eqs | with_reducible exact v_nat | with_reducible exact v_neg | with_reducible exact v_bl | with_reducible exact v_non | with_reducible exact v_str | with_reducible exact ds_nil | with_reducible exact os_nil | with_reducible exact part_no | with_reducible exact q_net0 | with_reducible exact q_net1 | with_reducible exact o_add | with_reducible exact o_min | with_reducible exact o_max | with_reducible exact o_eq | with_reducible exact o_ne | with_reducible exact o_lt | with_reducible exact o_le | with_reducible exact o_gt | with_reducible exact o_ge | with_reducible exact q_lenN | with_reducible exact q_lenU | with_reducible exact q_lenS | with_reducible exact q_lenM | with_reducible exact q_lenMT | with_reducible exact q_lenL | with_reducible exact q_lenT | with_reducible exact q_tupN | with_reducible exact q_tupU | with_reducible exact q_lstN | with_reducible exact q_lstU | with_reducible exact q_tupL | with_reducible exact q_tupT | with_reducible exact q_lstL | with_reducible exact q_lstT | with_reducible exact q_int | with_reducible exact q_isT | ((with_reducible apply v_var); apply Rd.mk; (try dsimp only [vals_n, vals_x, vals_v, bk_c, bk_d, pb_x, pb_v, pb_n, view_x, view_v, viewV_d, viewV_c, settle_d, settle_c, get_z, get_s, set_z, set_s, ka_n, ka_s, re_n, re_s, seqOf_t, seqOf_l, asgT, asgTs, Option.bind_some, ↓reduceIte, List.length_cons, List.length_nil]); (try with_reducible exact rfl); done) | ((with_reducible apply v_mv); apply Rd.mk; (try dsimp only [vals_n, vals_x, vals_v, bk_c, bk_d, pb_x, pb_v, pb_n, view_x, view_v, viewV_d, viewV_c, settle_d, settle_c, get_z, get_s, set_z, set_s, ka_n, ka_s, re_n, re_s, seqOf_t, seqOf_l, asgT, asgTs, Option.bind_some, ↓reduceIte, List.length_cons, List.length_nil]); (try with_reducible exact rfl); done) | ((with_reducible apply v_opx); exact Rf.mk rfl) | with_reducible apply v_fr | with_reducible apply v_mvc | with_reducible apply v_o2 | with_reducible apply v_o1 | with_reducible apply v_call | with_reducible apply v_da | with_reducible apply v_opv | with_reducible apply v_lst | with_reducible apply v_tup | with_reducible apply ds_cons | with_reducible apply os_cons | with_reducible apply v_app | with_reducible apply v_not | with_reducible apply v_tor | with_reducible apply v_tand | with_reducible apply v_tnot | with_reducible apply v_te | with_reducible apply v_slice | with_reducible apply v_yesn | with_reducible apply v_chain | with_reducible apply v_seq | with_reducible apply v_r1 | with_reducible apply v_r1m | with_reducible apply v_enT | with_reducible apply v_enL | with_reducible apply v_ofl | with_reducible apply v_oftr | with_reducible apply v_oft | with_reducible apply o_mul | with_reducible apply o_sub | with_reducible apply o_mod | with_reducible apply o_div | with_reducible apply o_shr | with_reducible apply idx_nat | with_reducible apply q_idx2 | with_reducible apply q_idx3 | with_reducible apply q_idx4 | with_reducible apply q_idx5 | with_reducible apply q_idx6 | with_reducible apply q_idx7 | with_reducible apply q_repr | with_reducible apply idx_natL | with_reducible assumption | omega)) (wp_nil ⟨pre ++ [cur], cross st ws cur, ss', wss', ?_, h6, k3, ?_, ?_⟩)
      · rw [natsD_append (pre ++ [cur])]; rfl
      · rw [← h3]
        simp [pathT]
      · simp only [List.length_append, List.length_cons, List.length_nil] at h4 ⊢
        omega
theorem fit_app {ss ts : List (List (Nat × Nat))} {wss vss : List (List Nat)} (h : Fit ss wss) (k : Fit ts vss) : Fit (ss ++ ts) (wss ++ vss) := by
  induction h with
  | nil => exact k
  | cons h1 h2 _ ih => exact .cons h1 h2 ih
theorem path_app {ss ts : List (List (Nat × Nat))} {wss vss : List (List Nat)} (h : Fit ss wss) (w : Nat) : pathT (ss ++ ts) (wss ++ vss) w = pathT ss wss w ++ pathT ts vss (endp ss wss w) ∧ endp (ss ++ ts) (wss ++ vss) w = endp ts vss (endp ss wss w) := by
  induction h generalizing w with
  | nil => exact ⟨rfl, rfl⟩
  | @cons st ws ss wss _ _ _ ih =>
    obtain ⟨h1, h2⟩ := ih (cross st ws w)
    exact ⟨congrArg (cross st ws w :: ·) h1, h2⟩
theorem path_len : ∀ (ss : List (List (Nat × Nat))) (wss : List (List Nat)) (w : Nat), (pathT ss wss w).length ≤ ss.length
  | [], _, _ => Nat.le_refl _
  | _ :: _, [], _ => Nat.zero_le _
  | st :: ss, ws :: wss, w => by
    have := path_len ss wss (cross st ws w)
    show (pathT ss wss (cross st ws w)).length + 1 ≤ ss.length + 1
    omega
theorem path_lt {m : Nat} : ∀ (ss : List (List (Nat × Nat))) (wss : List (List Nat)) (w : Nat), (∀ st ∈ ss, GSt m st) → w < m → ∀ x ∈ pathT ss wss w, x < m
  | [], _, _, _, _, _, hx => by cases hx
  | _ :: _, [], _, _, _, _, hx => by cases hx
  | st :: ss, ws :: wss, w, hs, hw, x, hx => by
    have hc := cross_lt (hs st List.mem_cons_self) ws hw
    rcases List.mem_cons.mp hx with z | z
    · rw [z]; exact hc
    · exact path_lt ss wss _ (fun t ht => hs t (List.mem_cons_of_mem _ ht)) hc x z
theorem sm_nats {l : List Nat} (h : ∀ x ∈ l, x < 1000000) : Sm 2 (21 * l.length) (tupN l) := (sm_tup (d := 1) (w := 20) fun x hx => by
  obtain ⟨k, hk, rfl⟩ := List.mem_map.mp hx
  exact sm_nat (h k hk)).mono (by decide) (by rw [natsD_len]; exact Nat.le_refl _)
theorem sm_set {wss : List (List Nat)} (hl : wss.length ≤ 100) (h : ∀ ws ∈ wss, ws.length ≤ 100 ∧ ∀ w ∈ ws, w < 1000000) : Sm 3 220000 (setP wss) := (sm_tup (d := 2) (w := 2100) fun x hx => by
  obtain ⟨ws, hws, rfl⟩ := List.mem_map.mp hx
  exact (sm_nats (h ws hws).2).mono (by decide) (by have := (h ws hws).1; omega)).mono (by decide) (by rw [List.length_map]; omega)
theorem sm_gst {m : Nat} {ss : List (List (Nat × Nat))} (hm : m ≤ 100) (hl : ss.length ≤ 100) (hs : ∀ st ∈ ss, GSt m st) : Sm 5 1000000 (netP m ss) := sm_net (by omega) hl fun st hst => ⟨by have := (hs st hst).len; omega, fun p hp => by have := (hs st hst).lt p hp; omega⟩
theorem q_addT {xs ys : List D} (h : xs.length + ys.length ≤ 1000000) : op2 .add (.tuple xs) (.tuple ys) = some (.d (.tuple (xs ++ ys))) := by
  show (if xs.length + ys.length ≤ lim then some (V.d (.tuple (xs ++ ys))) else none) = _
  rw [if_pos (by unfold lim; omega)]
theorem q_addL {xs ys : List D} (h : xs.length + ys.length ≤ 1000000) : op2 .add (.list xs) (.list ys) = some (.c (xs ++ ys)) := by
  show (if xs.length + ys.length ≤ lim then some (V.c (xs ++ ys)) else none) = _
  rw [if_pos (by unfold lim; omega)]
theorem q_addM {α : Type} {f : α → D} {xs ys : List α} (h : xs.length + ys.length ≤ 1000000) : op2 .add (.tuple (xs.map f)) (.tuple (ys.map f)) = some (.d (.tuple ((xs ++ ys).map f))) := by
  rw [q_addT (by rw [List.length_map, List.length_map]; exact h), List.map_append]
end Sw
end T_SxO
section T_SxP
set_option autoImplicit false
set_option linter.all false
set_option maxRecDepth 100000
set_option maxHeartbeats 2000000
/-! SxP: nets beside one another. -/
namespace Sw
open PySem
def b_on_wires : FDef := ⟨2, 4, [], (.of [
  .ret (.o1 .tupleOf (.comp [2, 3] (.p [(.n 2), (.n 3)]) (.seq (.var 0)) .no (.tup (.of [(.o2 .idx (.var 1) (.var 2)), (.o2 .idx (.var 1) (.var 3))]))))])⟩
def b_beside : FDef := ⟨2, 7, [], (.of [
  .asg 2 (.o2 .add (.o2 .idx (.var 0) (.int 0)) (.o2 .idx (.var 1) (.int 0))),
  .asg 3 (.ofSrc false (.rng2 (.o2 .idx (.var 0) (.int 0)) (.var 2))),
  .asg 4 (.lst (.of [])),
  .forr (.n 5) (.rng1 (.o2 .max2 (.o1 .len (.o2 .idx (.var 0) (.int 1))) (.o1 .len (.o2 .idx (.var 1) (.int 1))))) (.of [
    .asg 6 (.tup (.of [])),
    .iff (.e (.o2 .lt (.var 5) (.o1 .len (.o2 .idx (.var 0) (.int 1))))) (.of [
      .asg 6 (.o2 .idx (.o2 .idx (.var 0) (.int 1)) (.var 5))]) (.of []),
    .iff (.e (.o2 .lt (.var 5) (.o1 .len (.o2 .idx (.var 1) (.int 1))))) (.of [
      .asg 6 (.o2 .add (.var 6) (.call "on_wires" (.of [(.o2 .idx (.o2 .idx (.var 1) (.int 1)) (.var 5)), (.var 3)])))]) (.of []),
    .ex (.app 4 (.var 6))]) [5, 6],
  .ret (.tup (.of [(.var 2), (.o1 .tupleOf (.var 4))]))])⟩
def b_law_ways : FDef := ⟨2, 4, [], (.of [
  .asg 2 (.lst (.of [])),
  .forr (.n 3) (.rng1 (.o2 .max2 (.o1 .len (.var 0)) (.o1 .len (.var 1)))) (.of [
    .ex (.app 2 (.o2 .add (.o2 .idx (.or (.slice (.var 0) (.yes (.var 3)) (.yes (.o2 .add (.var 3) (.int 1)))) (.tup (.of [(.tup (.of []))]))) (.int 0)) (.o2 .idx (.or (.slice (.var 1) (.yes (.var 3)) (.yes (.o2 .add (.var 3) (.int 1)))) (.tup (.of [(.tup (.of []))]))) (.int 0))))]) [3],
  .ret (.o1 .tupleOf (.var 2))])⟩
abbrev St := List (Nat × Nat)
/-! ### beside -/
def sh (d : Nat) (st : St) : St := st.map fun p => (p.1 + d, p.2 + d)
def bes (d : Nat) : List St → List St → List St
  | [], ts => ts.map (sh d)
  | st :: ss, [] => (st ++ sh d []) :: bes d ss []
  | st :: ss, t :: ts => (st ++ sh d t) :: bes d ss ts
def bew : List (List Nat) → List (List Nat) → List (List Nat)
  | [], ts => ts
  | st :: ss, [] => (st ++ []) :: bew ss []
  | st :: ss, t :: ts => (st ++ t) :: bew ss ts
theorem bes_len (d : Nat) : ∀ ss ts : List St, (bes d ss ts).length = max ss.length ts.length
  | [], [] => rfl
  | [], t :: ts => by simp [bes]
  | st :: ss, [] => by have := bes_len d ss []; simp [bes] at this ⊢; omega
  | st :: ss, t :: ts => by have := bes_len d ss ts; simp [bes] at this ⊢; omega
theorem bew_len : ∀ ss ts : List (List Nat), (bew ss ts).length = max ss.length ts.length
  | [], [] => rfl
  | [], t :: ts => by simp [bew]
  | st :: ss, [] => by have := bew_len ss []; simp [bew] at this ⊢; omega
  | st :: ss, t :: ts => by have := bew_len ss ts; simp [bew] at this ⊢; omega
theorem bes_gd (d : Nat) : ∀ (ss ts : List St) (k : Nat), (bes d ss ts).getD k [] = ss.getD k [] ++ sh d (ts.getD k [])
  | [], [], k => by simp [bes, sh]
  | [], t :: ts, 0 => by simp [bes]
  | [], t :: ts, k + 1 => by have := bes_gd d [] ts k; simpa [bes] using this
  | st :: ss, [], 0 => by simp [bes]
  | st :: ss, [], k + 1 => by have := bes_gd d ss [] k; simpa [bes] using this
  | st :: ss, t :: ts, 0 => by simp [bes]
  | st :: ss, t :: ts, k + 1 => by have := bes_gd d ss ts k; simpa [bes] using this
theorem bew_gd : ∀ (ss ts : List (List Nat)) (k : Nat), (bew ss ts).getD k [] = ss.getD k [] ++ ts.getD k []
  | [], [], k => by simp [bew]
  | [], t :: ts, 0 => by simp [bew]
  | [], t :: ts, k + 1 => by have := bew_gd [] ts k; simpa [bew] using this
  | st :: ss, [], 0 => by simp [bew]
  | st :: ss, [], k + 1 => by have := bew_gd ss [] k; simpa [bew] using this
  | st :: ss, t :: ts, 0 => by simp [bew]
  | st :: ss, t :: ts, k + 1 => by have := bew_gd ss ts k; simpa [bew] using this
theorem take_snoc {α : Type} {l : List α} {k : Nat} {d : α} (h : k < l.length) : l.take (k + 1) = l.take k ++ [l.getD k d] := by
  rw [List.take_add_one, List.getElem?_eq_getElem h, List.getD_eq_getElem?_getD, List.getElem?_eq_getElem h]; rfl
theorem wires_sh (d : Nat) : ∀ st : St, wires (sh d st) = (wires st).map (· + d)
  | [] => rfl
  | p :: st => by
    have := wires_sh d st
    unfold wires sh at this ⊢
    rw [List.map_cons, List.flatMap_cons, List.flatMap_cons, this, List.map_append]; rfl
theorem cross_left : ∀ (A : St) (wa : List Nat) {B : St} {wb : List Nat} {w : Nat}, wa.length = A.length → w ∉ wires B → cross (A ++ B) (wa ++ wb) w = cross A wa w
  | [], [], B, wb, w, _, h => cross_off B wb w h
  | [], _ :: _, _, _, _, h, _ => by cases h
  | _ :: _, [], _, _, _, h, _ => by cases h
  | p :: A, x :: wa, B, wb, w, h, hw => by
    have ih := cross_left A wa (B := B) (wb := wb) (w := w) (by simpa using h) hw
    show (if x = 1 ∧ (w = p.1 ∨ w = p.2) then p.1 + p.2 - w else cross (A ++ B) (wa ++ wb) w) = (if x = 1 ∧ (w = p.1 ∨ w = p.2) then p.1 + p.2 - w else cross A wa w)
    rw [ih]
theorem cross_right : ∀ (A : St) (wa : List Nat) {B : St} {wb : List Nat} {w : Nat}, wa.length = A.length → w ∉ wires A → cross (A ++ B) (wa ++ wb) w = cross B wb w
  | [], [], B, wb, w, _, _ => rfl
  | [], _ :: _, _, _, _, h, _ => by cases h
  | _ :: _, [], _, _, _, h, _ => by cases h
  | p :: A, x :: wa, B, wb, w, h, hw => by
    have e : wires (p :: A) = [p.1, p.2] ++ wires A := rfl
    rw [e] at hw
    have ih := cross_right A wa (B := B) (wb := wb) (w := w) (by simpa using h) (fun z => hw (List.mem_append_right _ z))
    show (if x = 1 ∧ (w = p.1 ∨ w = p.2) then p.1 + p.2 - w else cross (A ++ B) (wa ++ wb) w) = _
    rw [if_neg (fun z => hw (List.mem_append_left _ (by rcases z.2 with q | q <;> simp [q]))), ih]
theorem cross_sh (d : Nat) : ∀ (st : St) (ws : List Nat) (v : Nat), cross (sh d st) ws (v + d) = cross st ws v + d
  | [], _, _ => rfl
  | _ :: _, [], _ => rfl
  | p :: st, x :: ws, v => by
    have ih := cross_sh d st ws v
    show (if x = 1 ∧ (v + d = p.1 + d ∨ v + d = p.2 + d) then p.1 + d + (p.2 + d) - (v + d) else cross (sh d st) ws (v + d)) = (if x = 1 ∧ (v = p.1 ∨ v = p.2) then p.1 + p.2 - v else cross st ws v) + d
    by_cases h : x = 1 ∧ (v = p.1 ∨ v = p.2)
    · rw [if_pos ⟨h.1, by omega⟩, if_pos h]
      rcases h.2 with q | q <;> omega
    · rw [if_neg (fun z => h ⟨z.1, by omega⟩), if_neg h, ih]
theorem off_sh {d w : Nat} {st : St} (h : w < d) : w ∉ wires (sh d st) := by
  rw [wires_sh]
  intro z
  obtain ⟨x, _, hx⟩ := List.mem_map.mp z
  omega
theorem on_lt {m w : Nat} {st : St} (g : GSt m st) (h : m ≤ w) : w ∉ wires st := by
  intro z
  obtain ⟨p, hp, hw⟩ := List.mem_flatMap.mp z
  have := g.lt p hp
  simp at hw
  omega
theorem endp_nil (ss : List St) (w : Nat) : endp ss [] w = w := by cases ss <;> rfl
theorem bes_low {m : Nat} : ∀ {ss ts : List St} {wss vss : List (List Nat)} {w : Nat}, Fit ss wss → Fit ts vss → (∀ st ∈ ss, GSt m st) → w < m → endp (bes m ss ts) (bew wss vss) w = endp ss wss w
  | [], [], _, _, w, .nil, .nil, _, _ => rfl
  | [], t :: ts, _, _, w, .nil, .cons h1 h2 h3, hs, hw => by
    show endp (bes m [] ts) (bew [] _) (cross (sh m t) _ w) = w
    rw [cross_off _ _ _ (off_sh hw)]
    exact bes_low .nil h3 hs hw
  | st :: ss, [], _, _, w, .cons (ws := ws) h1 h2 h3, .nil, hs, hw => by
    have g := hs st List.mem_cons_self
    show endp (bes m ss []) (bew _ []) (cross (st ++ sh m []) (ws ++ []) w) = endp ss _ (cross st ws w)
    rw [cross_left st ws h1 (off_sh hw)]
    exact bes_low h3 .nil (fun t ht => hs t (List.mem_cons_of_mem _ ht)) (cross_lt g ws hw)
  | st :: ss, t :: ts, _, _, w, .cons (ws := ws) h1 h2 h3, .cons (ws := vs) k1 k2 k3, hs, hw => by
    have g := hs st List.mem_cons_self
    show endp (bes m ss ts) (bew _ _) (cross (st ++ sh m t) (ws ++ vs) w) = endp ss _ (cross st ws w)
    rw [cross_left st ws h1 (off_sh hw)]
    exact bes_low h3 k3 (fun t ht => hs t (List.mem_cons_of_mem _ ht)) (cross_lt g ws hw)
theorem bes_high {m k : Nat} : ∀ {ss ts : List St} {wss vss : List (List Nat)} {v : Nat}, Fit ss wss → Fit ts vss → (∀ st ∈ ss, GSt m st) → (∀ st ∈ ts, GSt k st) → v < k → endp (bes m ss ts) (bew wss vss) (v + m) = endp ts vss v + m
  | [], [], _, _, v, .nil, .nil, _, _, _ => rfl
  | [], t :: ts, _, _, v, .nil, .cons (ws := vs) h1 h2 h3, hs, ht, hv => by
    show endp (bes m [] ts) (bew [] _) (cross (sh m t) vs (v + m)) = endp ts _ (cross t vs v) + m
    rw [cross_sh]
    exact bes_high .nil h3 hs (fun t ht' => ht t (List.mem_cons_of_mem _ ht')) (cross_lt (ht t List.mem_cons_self) vs hv)
  | st :: ss, [], _, _, v, .cons (ws := ws) h1 h2 h3, .nil, hs, ht, hv => by
    have g := hs st List.mem_cons_self
    show endp (bes m ss []) (bew _ []) (cross (st ++ sh m []) (ws ++ []) (v + m)) = v + m
    rw [cross_right st ws h1 (on_lt g (by omega))]
    exact bes_high h3 .nil (fun t ht => hs t (List.mem_cons_of_mem _ ht)) ht hv
  | st :: ss, t :: ts, _, _, v, .cons (ws := ws) h1 h2 h3, .cons (ws := vs) k1 k2 k3, hs, ht, hv => by
    have g := hs st List.mem_cons_self
    show endp (bes m ss ts) (bew _ _) (cross (st ++ sh m t) (ws ++ vs) (v + m)) = endp ts _ (cross t vs v) + m
    rw [cross_right st ws h1 (on_lt g (by omega)), cross_sh]
    exact bes_high h3 k3 (fun t ht => hs t (List.mem_cons_of_mem _ ht)) (fun t ht' => ht t (List.mem_cons_of_mem _ ht')) (cross_lt (ht t List.mem_cons_self) vs hv)
theorem bes_fit (m : Nat) : ∀ {ss ts : List St} {wss vss : List (List Nat)}, Fit ss wss → Fit ts vss → Fit (bes m ss ts) (bew wss vss)
  | [], [], _, _, .nil, .nil => .nil
  | [], t :: ts, _, _, .nil, .cons h1 h2 h3 => .cons (by rw [h1]; simp [sh]) h2 (bes_fit m .nil h3)
  | st :: ss, [], _, _, .cons h1 h2 h3, .nil => .cons (by simp [h1, sh]) (by simpa using h2) (bes_fit m h3 .nil)
  | st :: ss, t :: ts, _, _, .cons h1 h2 h3, .cons k1 k2 k3 => .cons (by simp [h1, k1, sh]) (fun w hw => (List.mem_append.mp hw).elim (h2 w) (k2 w)) (bes_fit m h3 k3)
theorem bes_mem {m : Nat} : ∀ {ss ts : List St} {x : St}, x ∈ bes m ss ts → ∃ st t, x = st ++ sh m t ∧ (st = [] ∨ st ∈ ss) ∧ (t = [] ∨ t ∈ ts)
  | [], [], x, h => by cases h
  | [], t :: ts, x, h => by
    rcases List.mem_cons.mp h with z | z
    · exact ⟨[], t, z, .inl rfl, .inr List.mem_cons_self⟩
    · obtain ⟨a, b, h1, h2, h3⟩ := bes_mem (m := m) (ss := []) (ts := ts) (x := x) z
      exact ⟨a, b, h1, h2, h3.imp_right (List.mem_cons_of_mem _)⟩
  | st :: ss, [], x, h => by
    rcases List.mem_cons.mp h with z | z
    · exact ⟨st, [], z, .inr List.mem_cons_self, .inl rfl⟩
    · obtain ⟨a, b, h1, h2, h3⟩ := bes_mem z
      exact ⟨a, b, h1, h2.imp_right (List.mem_cons_of_mem _), h3⟩
  | st :: ss, t :: ts, x, h => by
    rcases List.mem_cons.mp h with z | z
    · exact ⟨st, t, z, .inr List.mem_cons_self, .inr List.mem_cons_self⟩
    · obtain ⟨a, b, h1, h2, h3⟩ := bes_mem z
      exact ⟨a, b, h1, h2.imp_right (List.mem_cons_of_mem _), h3.imp_right (List.mem_cons_of_mem _)⟩
theorem sm_bes {m k : Nat} {ss ts : List St} (hm : m ≤ 32) (hk : k ≤ 32) (hl : ss.length ≤ 20) (hl2 : ts.length ≤ 20) (hs : ∀ st ∈ ss, GSt m st) (ht : ∀ st ∈ ts, GSt k st) : Sm 5 1000000 (netP (m + k) (bes m ss ts)) := sm_net (by omega) (by rw [bes_len]; omega) fun x hx => by
  obtain ⟨st, t, rfl, h1, h2⟩ := bes_mem hx
  have a1 : st.length ≤ 16 ∧ ∀ p ∈ st, p.1 < 100 ∧ p.2 < 100 := by
    rcases h1 with rfl | z
    · simp
    · exact ⟨by have := (hs st z).len; omega, fun p hp => by have := (hs st z).lt p hp; omega⟩
  have a2 : t.length ≤ 16 ∧ ∀ p ∈ t, p.1 < 100 ∧ p.2 < 100 := by
    rcases h2 with rfl | z
    · simp
    · exact ⟨by have := (ht t z).len; omega, fun p hp => by have := (ht t z).lt p hp; omega⟩
  refine ⟨by simp [sh]; omega, fun p hp => ?_⟩
  rcases List.mem_append.mp hp with z | z
  · have := a1.2 p z; omega
  · obtain ⟨q, hq, rfl⟩ := List.mem_map.mp z
    have := a2.2 q hq
    exact ⟨by show q.1 + m < _; omega, by show q.2 + m < _; omega⟩
theorem on_ok (n : Nat) {T : Tab} (hOn : T "on_wires" = some b_on_wires) {m k : Nat} {st : St} (h : ∀ p ∈ st, p.1 < p.2 ∧ p.2 < k) (hl : st.length ≤ 1000) : ∃ (x : V), callF T (n + 1) "on_wires" [.d (stP st), .c (natsD ((List.range k).map (m + ·)))] = .ok (.d (stP (sh m st)), [x, .c (natsD ((List.range k).map (m + ·)))]) ∧ True := by
  suffices h : ∃ v outs, callF T (n + 1) "on_wires" [.d (stP st), .c (natsD ((List.range k).map (m + ·)))] = .ok (v, outs) ∧ ∃ (x : V), v = .d (stP (sh m st)) ∧ outs = [x, .c (natsD ((List.range k).map (m + ·)))] ∧ True by
    obtain ⟨v, outs, h, x, rfl, rfl, hp⟩ := h
    exact ⟨x, h, hp⟩
  refine call_wp (fun v outs => ∃ (x : V), v = .d (stP (sh m st)) ∧ outs = [x, .c (natsD ((List.range k).map (m + ·)))] ∧ True) (fd := b_on_wires) hOn rfl ?_
  refine (show Wp _ (Sw.execs (callF T n) b_on_wires.body [.d (stP st), .c (natsD ((List.range k).map (m + ·))), .u, .u]) from ?_)
  simp only [b_on_wires, Ss.of, Es.of]
  have c := comp_pure (φ := callF T n) (own := [2, 3]) (t := .p [.n 2, .n 3]) (a := .tup (.cons (.o2 .idx (.var 1) (.var 2)) (.cons (.o2 .idx (.var 1) (.var 3)) .nil))) (e0 := [.d (stP st), .c (natsD ((List.range k).map (m + ·))), .u, .u]) (l := st) pr (e := [.d (stP st), .c (natsD ((List.range k).map (m + ·))), .u, .u]) (s := .seq (.var 0)) (e1 := [.d (stP st), .c (natsD ((List.range k).map (m + ·))), .u, .u]) (src_sq (da_var rfl) rfl) (by omega) rfl (fun p => pr (p.1 + m, p.2 + m)) fun p hp => by
    have hp := h p hp
    have g : ∀ i < k, ((List.range k).map (m + ·)).getD i 0 = i + m := fun i hi => by
      rw [gd_map (d := 0) (by rw [List.length_range]; exact hi), rng_gd hi, Nat.add_comm]
    have i1 := idx_natL (q := (List.range k).map (m + ·)) (i := p.1) (by rw [List.length_map, List.length_range]; omega)
    have i2 := idx_natL (q := (List.range k).map (m + ·)) (i := p.2) (by rw [List.length_map, List.length_range]; omega)
    rw [g _ (by omega)] at i1 i2
    refine ⟨[.d (stP st), .c (natsD ((List.range k).map (m + ·))), .d (natD p.1), .d (natD p.2)], [.d (stP st), .c (natsD ((List.range k).map (m + ·))), .d (natD p.1), .d (natD p.2)], rfl, da_of (w := .d (.tuple [natD (p.1 + m), natD (p.2 + m)])) (by (repeat' first | exact Rf.mk rfl | (apply Rd.mk; (try dsimp only [vals_n, vals_x, vals_v, bk_c, bk_d, pb_x, pb_v, pb_n, view_x, view_v, viewV_d, viewV_c, settle_d, settle_c, get_z, get_s, set_z, set_s, ka_n, ka_s, re_n, re_s, seqOf_t, seqOf_l, asgT, asgTs, Option.bind_some, ↓reduceIte, List.length_cons, List.length_nil]); (try exact rfl); done) | with_reducible exact i1 | with_reducible exact i2 | with_reducible exact v_yesneg | with_reducible exact q_nes | with_reducible exact q_eqs | with_reducible exact v_nat | with_reducible exact v_neg | with_reducible exact v_bl | with_reducible exact v_non | with_reducible exact v_str | with_reducible exact ds_nil | with_reducible exact os_nil | with_reducible exact part_no | with_reducible exact q_net0 | with_reducible exact q_net1 | with_reducible exact o_add | with_reducible exact o_min | with_reducible exact o_max | with_reducible exact o_eq | with_reducible exact o_ne | with_reducible exact o_lt | with_reducible exact o_le | with_reducible exact o_gt | with_reducible exact o_ge | with_reducible exact q_lenN | with_reducible exact q_lenU | with_reducible exact q_lenS | with_reducible exact q_lenM | with_reducible exact q_lenMT | with_reducible exact q_lenL | with_reducible exact q_lenT | with_reducible exact q_tupN | with_reducible exact q_tupU | with_reducible exact q_lstN | with_reducible exact q_lstU | with_reducible exact q_tupL | with_reducible exact q_tupT | with_reducible exact q_lstL | with_reducible exact q_lstT | with_reducible exact q_int | with_reducible exact q_isT | ((with_reducible apply v_var); apply Rd.mk; (try dsimp only [vals_n, vals_x, vals_v, bk_c, bk_d, pb_x, pb_v, pb_n, view_x, view_v, viewV_d, viewV_c, settle_d, settle_c, get_z, get_s, set_z, set_s, ka_n, ka_s, re_n, re_s, seqOf_t, seqOf_l, asgT, asgTs, Option.bind_some, ↓reduceIte, List.length_cons, List.length_nil]); (try with_reducible exact rfl); done) | ((with_reducible apply v_mv); apply Rd.mk; (try dsimp only [vals_n, vals_x, vals_v, bk_c, bk_d, pb_x, pb_v, pb_n, view_x, view_v, viewV_d, viewV_c, settle_d, settle_c, get_z, get_s, set_z, set_s, ka_n, ka_s, re_n, re_s, seqOf_t, seqOf_l, asgT, asgTs, Option.bind_some, ↓reduceIte, List.length_cons, List.length_nil]); (try with_reducible exact rfl); done) | ((with_reducible apply v_opx); exact Rf.mk rfl) | with_reducible apply v_fr | with_reducible apply v_mvc | with_reducible apply v_o2 | with_reducible apply v_o1 | with_reducible apply v_call | with_reducible apply v_da | with_reducible apply v_opv | with_reducible apply v_lst | with_reducible apply v_tup | with_reducible apply ds_cons | with_reducible apply os_cons | with_reducible apply v_app | with_reducible apply v_not | with_reducible apply v_tor | with_reducible apply v_tand | with_reducible apply v_tnot | with_reducible apply v_te | with_reducible apply v_slice | with_reducible apply v_yesn | with_reducible apply v_chain | with_reducible apply v_seq | with_reducible apply v_r1 | with_reducible apply v_r1m | with_reducible apply v_enT | with_reducible apply v_enL | with_reducible apply v_ofl | with_reducible apply v_oftr | with_reducible apply v_oft | with_reducible apply o_mul | with_reducible apply o_sub | with_reducible apply o_mod | with_reducible apply o_div | with_reducible apply o_shr | with_reducible apply idx_nat | with_reducible apply q_idx2 | with_reducible apply q_idx3 | with_reducible apply q_idx4 | with_reducible apply q_idx5 | with_reducible apply q_idx6 | with_reducible apply q_idx7 | with_reducible apply q_repr | with_reducible apply idx_natL | with_reducible assumption | omega)) rfl, rfl⟩
  have e1 : st.map (fun p => pr (p.1 + m, p.2 + m)) = (sh m st).map pr := by unfold sh; rw [List.map_map]; rfl
  rw [e1] at c
  exact wp_ret (tuple_c c rfl) ⟨_, rfl, rfl, trivial⟩
theorem gd_none {α : Type} {l : List α} {k : Nat} {d : α} (h : ¬ k < l.length) : l.getD k d = d := by
  rw [List.getD_eq_getElem?_getD, List.getElem?_eq_none (by omega)]; rfl
theorem idx_st {ss : List St} {i : Nat} (h : i < ss.length) : op2 .idx (.tuple (ss.map stP)) (natD i) = some (.d (stP (ss.getD i []))) := by
  rw [idx_at (L := ss.map stP) rfl (by rw [List.length_map]; exact h), gd_map (d := []) h]
theorem rng2 {a b : Nat} (h : a ≤ b) (hb : b ≤ 100000) : range2 (natD a) (natD b) = some (natsD ((List.range (b - a)).map (a + ·))) := by
  have e : ((b : Int) - (a : Int)).toNat = b - a := by omega
  have r : rgOk (a : Int) (b : Int) = true := by unfold rgOk; exact decide_eq_true (by omega)
  have l : decide (b - a ≤ lim) = true := decide_eq_true (by unfold lim; omega)
  have q : rangeD (a : Int) (b - a) 1 = natsD ((List.range (b - a)).map (a + ·)) := by
    unfold rangeD natsD
    rw [List.map_map]
    refine List.map_congr_left fun i _ => ?_
    show PyData.int ((a : Int) + (i : Int) * 1) = PyData.int (((a + i : Nat)) : Int)
    rw [Int.mul_one, Int.natCast_add]
  simp only [range2, natD, e, r, l, Bool.and_self, if_true, q]
theorem bes_ok (n : Nat) {T : Tab} (hOn : T "on_wires" = some b_on_wires) (hBe : T "beside" = some b_beside) {m k : Nat} {ss ts : List St} (hm : m ≤ 32) (hk : k ≤ 32) (hl : ss.length ≤ 20) (hl2 : ts.length ≤ 20) (hs : ∀ st ∈ ss, GSt m st) (ht : ∀ st ∈ ts, GSt k st) : ∃ (x y : V), callF T (n + 2) "beside" [.d (netP m ss), .d (netP k ts)] = .ok (.d (netP (m + k) (bes m ss ts)), [x, y]) ∧ True := by
  suffices h : ∃ v outs, callF T (n + 2) "beside" [.d (netP m ss), .d (netP k ts)] = .ok (v, outs) ∧ ∃ (x y : V), v = .d (netP (m + k) (bes m ss ts)) ∧ outs = [x, y] ∧ True by
    obtain ⟨v, outs, h, x, y, rfl, rfl, hp⟩ := h
    exact ⟨x, y, h, hp⟩
  refine call_wp (fun v outs => ∃ (x y : V), v = .d (netP (m + k) (bes m ss ts)) ∧ outs = [x, y] ∧ True) (fd := b_beside) hBe rfl ?_
  refine (show Wp _ (Sw.execs (callF T (n + 1)) b_beside.body [.d (netP m ss), .d (netP k ts), .u, .u, .u, .u, .u]) from ?_)
  simp only [b_beside, Ss.of, Es.of]
  refine u_asg (by (repeat' first | exact Rf.mk rfl | (apply Rd.mk; (try dsimp only [vals_n, vals_x, vals_v, bk_c, bk_d, pb_x, pb_v, pb_n, view_x, view_v, viewV_d, viewV_c, settle_d, settle_c, get_z, get_s, set_z, set_s, ka_n, ka_s, re_n, re_s, seqOf_t, seqOf_l, asgT, asgTs, Option.bind_some, ↓reduceIte, List.length_cons, List.length_nil]); (try exact rfl); done) | with_reducible exact v_yesneg | with_reducible exact q_nes | with_reducible exact q_eqs | with_reducible exact v_nat | with_reducible exact v_neg | with_reducible exact v_bl | with_reducible exact v_non | with_reducible exact v_str | with_reducible exact ds_nil | with_reducible exact os_nil | with_reducible exact part_no | with_reducible exact q_net0 | with_reducible exact q_net1 | with_reducible exact o_add | with_reducible exact o_min | with_reducible exact o_max | with_reducible exact o_eq | with_reducible exact o_ne | with_reducible exact o_lt | with_reducible exact o_le | with_reducible exact o_gt | with_reducible exact o_ge | with_reducible exact q_lenN | with_reducible exact q_lenU | with_reducible exact q_lenS | with_reducible exact q_lenM | with_reducible exact q_lenMT | with_reducible exact q_lenL | with_reducible exact q_lenT | with_reducible exact q_tupN | with_reducible exact q_tupU | with_reducible exact q_lstN | with_reducible exact q_lstU | with_reducible exact q_tupL | with_reducible exact q_tupT | with_reducible exact q_lstL | with_reducible exact q_lstT | with_reducible exact q_int | with_reducible exact q_isT | ((with_reducible apply v_var); apply Rd.mk; (try dsimp only [vals_n, vals_x, vals_v, bk_c, bk_d, pb_x, pb_v, pb_n, view_x, view_v, viewV_d, viewV_c, settle_d, settle_c, get_z, get_s, set_z, set_s, ka_n, ka_s, re_n, re_s, seqOf_t, seqOf_l, asgT, asgTs, Option.bind_some, ↓reduceIte, List.length_cons, List.length_nil]); (try with_reducible exact rfl); done) | ((with_reducible apply v_mv); apply Rd.mk; (try dsimp only [vals_n, vals_x, vals_v, bk_c, bk_d, pb_x, pb_v, pb_n, view_x, view_v, viewV_d, viewV_c, settle_d, settle_c, get_z, get_s, set_z, set_s, ka_n, ka_s, re_n, re_s, seqOf_t, seqOf_l, asgT, asgTs, Option.bind_some, ↓reduceIte, List.length_cons, List.length_nil]); (try with_reducible exact rfl); done) | ((with_reducible apply v_opx); exact Rf.mk rfl) | with_reducible apply v_fr | with_reducible apply v_mvc | with_reducible apply v_o2 | with_reducible apply v_o1 | with_reducible apply v_call | with_reducible apply v_da | with_reducible apply v_opv | with_reducible apply v_lst | with_reducible apply v_tup | with_reducible apply ds_cons | with_reducible apply os_cons | with_reducible apply v_app | with_reducible apply v_not | with_reducible apply v_tor | with_reducible apply v_tand | with_reducible apply v_tnot | with_reducible apply v_te | with_reducible apply v_slice | with_reducible apply v_yesn | with_reducible apply v_chain | with_reducible apply v_seq | with_reducible apply v_r1 | with_reducible apply v_r1m | with_reducible apply v_enT | with_reducible apply v_enL | with_reducible apply v_ofl | with_reducible apply v_oftr | with_reducible apply v_oft | with_reducible apply o_mul | with_reducible apply o_sub | with_reducible apply o_mod | with_reducible apply o_div | with_reducible apply o_shr | with_reducible apply idx_nat | with_reducible apply q_idx2 | with_reducible apply q_idx3 | with_reducible apply q_idx4 | with_reducible apply q_idx5 | with_reducible apply q_idx6 | with_reducible apply q_idx7 | with_reducible apply q_repr | with_reducible apply idx_natL | with_reducible assumption | omega)) (by (repeat' first | exact Rf.mk rfl | (apply Rd.mk; (try dsimp only [vals_n, vals_x, vals_v, bk_c, bk_d, pb_x, pb_v, pb_n, view_x, view_v, viewV_d, viewV_c, settle_d, settle_c, get_z, get_s, set_z, set_s, ka_n, ka_s, re_n, re_s, seqOf_t, seqOf_l, asgT, asgTs, Option.bind_some, ↓reduceIte, List.length_cons, List.length_nil]); (try exact rfl); done) | with_reducible exact v_yesneg | with_reducible exact q_nes | with_reducible exact q_eqs | with_reducible exact v_nat | with_reducible exact v_neg | with_reducible exact v_bl | with_reducible exact v_non | with_reducible exact v_str | with_reducible exact ds_nil | with_reducible exact os_nil | with_reducible exact part_no | with_reducible exact q_net0 | with_reducible exact q_net1 | with_reducible exact o_add | with_reducible exact o_min | with_reducible exact o_max | with_reducible exact o_eq | with_reducible exact o_ne | with_reducible exact o_lt | with_reducible exact o_le | with_reducible exact o_gt | with_reducible exact o_ge | with_reducible exact q_lenN | with_reducible exact q_lenU | with_reducible exact q_lenS | with_reducible exact q_lenM | with_reducible exact q_lenMT | with_reducible exact q_lenL | with_reducible exact q_lenT | with_reducible exact q_tupN | with_reducible exact q_tupU | with_reducible exact q_lstN | with_reducible exact q_lstU | with_reducible exact q_tupL | with_reducible exact q_tupT | with_reducible exact q_lstL | with_reducible exact q_lstT | with_reducible exact q_int | with_reducible exact q_isT | ((with_reducible apply v_var); apply Rd.mk; (try dsimp only [vals_n, vals_x, vals_v, bk_c, bk_d, pb_x, pb_v, pb_n, view_x, view_v, viewV_d, viewV_c, settle_d, settle_c, get_z, get_s, set_z, set_s, ka_n, ka_s, re_n, re_s, seqOf_t, seqOf_l, asgT, asgTs, Option.bind_some, ↓reduceIte, List.length_cons, List.length_nil]); (try with_reducible exact rfl); done) | ((with_reducible apply v_mv); apply Rd.mk; (try dsimp only [vals_n, vals_x, vals_v, bk_c, bk_d, pb_x, pb_v, pb_n, view_x, view_v, viewV_d, viewV_c, settle_d, settle_c, get_z, get_s, set_z, set_s, ka_n, ka_s, re_n, re_s, seqOf_t, seqOf_l, asgT, asgTs, Option.bind_some, ↓reduceIte, List.length_cons, List.length_nil]); (try with_reducible exact rfl); done) | ((with_reducible apply v_opx); exact Rf.mk rfl) | with_reducible apply v_fr | with_reducible apply v_mvc | with_reducible apply v_o2 | with_reducible apply v_o1 | with_reducible apply v_call | with_reducible apply v_da | with_reducible apply v_opv | with_reducible apply v_lst | with_reducible apply v_tup | with_reducible apply ds_cons | with_reducible apply os_cons | with_reducible apply v_app | with_reducible apply v_not | with_reducible apply v_tor | with_reducible apply v_tand | with_reducible apply v_tnot | with_reducible apply v_te | with_reducible apply v_slice | with_reducible apply v_yesn | with_reducible apply v_chain | with_reducible apply v_seq | with_reducible apply v_r1 | with_reducible apply v_r1m | with_reducible apply v_enT | with_reducible apply v_enL | with_reducible apply v_ofl | with_reducible apply v_oftr | with_reducible apply v_oft | with_reducible apply o_mul | with_reducible apply o_sub | with_reducible apply o_mod | with_reducible apply o_div | with_reducible apply o_shr | with_reducible apply idx_nat | with_reducible apply q_idx2 | with_reducible apply q_idx3 | with_reducible apply q_idx4 | with_reducible apply q_idx5 | with_reducible apply q_idx6 | with_reducible apply q_idx7 | with_reducible apply q_repr | with_reducible apply idx_natL | with_reducible assumption | omega)) ?_
  have sr : evalSrc (callF T (n + 1)) (.rng2 (.o2 .idx (.var 0) (.int 0)) (.var 2)) [.d (netP m ss), .d (netP k ts), .d (natD (m + k)), .u, .u, .u, .u] = .ok (natsD ((List.range k).map (m + ·)), [.d (netP m ss), .d (netP k ts), .d (natD (m + k)), .u, .u, .u, .u]) := by
    have i1 : daW (evalE (callF T (n + 1)) (.o2 .idx (.var 0) (.int 0))) [.d (netP m ss), .d (netP k ts), .d (natD (m + k)), .u, .u, .u, .u] = .ok (natD m, [.d (netP m ss), .d (netP k ts), .d (natD (m + k)), .u, .u, .u, .u]) := by (repeat' first | exact Rf.mk rfl | (apply Rd.mk; (try dsimp only [vals_n, vals_x, vals_v, bk_c, bk_d, pb_x, pb_v, pb_n, view_x, view_v, viewV_d, viewV_c, settle_d, settle_c, get_z, get_s, set_z, set_s, ka_n, ka_s, re_n, re_s, seqOf_t, seqOf_l, asgT, asgTs, Option.bind_some, ↓reduceIte, List.length_cons, List.length_nil]); (try exact rfl); done) | with_reducible exact v_yesneg | with_reducible exact q_nes | with_reducible exact q_eqs | with_reducible exact v_nat | with_reducible exact v_neg | with_reducible exact v_bl | with_reducible exact v_non | with_reducible exact v_str | with_reducible exact ds_nil | with_reducible exact os_nil | with_reducible exact part_no | with_reducible exact q_net0 | with_reducible exact q_net1 | with_reducible exact o_add | with_reducible exact o_min | with_reducible exact o_max | with_reducible exact o_eq | with_reducible exact o_ne | with_reducible exact o_lt | with_reducible exact o_le | with_reducible exact o_gt | with_reducible exact o_ge | with_reducible exact q_lenN | with_reducible exact q_lenU | with_reducible exact q_lenS | with_reducible exact q_lenM | with_reducible exact q_lenMT | with_reducible exact q_lenL | with_reducible exact q_lenT | with_reducible exact q_tupN | with_reducible exact q_tupU | with_reducible exact q_lstN | with_reducible exact q_lstU | with_reducible exact q_tupL | with_reducible exact q_tupT | with_reducible exact q_lstL | with_reducible exact q_lstT | with_reducible exact q_int | with_reducible exact q_isT | ((with_reducible apply v_var); apply Rd.mk; (try dsimp only [vals_n, vals_x, vals_v, bk_c, bk_d, pb_x, pb_v, pb_n, view_x, view_v, viewV_d, viewV_c, settle_d, settle_c, get_z, get_s, set_z, set_s, ka_n, ka_s, re_n, re_s, seqOf_t, seqOf_l, asgT, asgTs, Option.bind_some, ↓reduceIte, List.length_cons, List.length_nil]); (try with_reducible exact rfl); done) | ((with_reducible apply v_mv); apply Rd.mk; (try dsimp only [vals_n, vals_x, vals_v, bk_c, bk_d, pb_x, pb_v, pb_n, view_x, view_v, viewV_d, viewV_c, settle_d, settle_c, get_z, get_s, set_z, set_s, ka_n, ka_s, re_n, re_s, seqOf_t, seqOf_l, asgT, asgTs, Option.bind_some, ↓reduceIte, List.length_cons, List.length_nil]); (try with_reducible exact rfl); done) | ((with_reducible apply v_opx); exact Rf.mk rfl) | with_reducible apply v_fr | with_reducible apply v_mvc | with_reducible apply v_o2 | with_reducible apply v_o1 | with_reducible apply v_call | with_reducible apply v_da | with_reducible apply v_opv | with_reducible apply v_lst | with_reducible apply v_tup | with_reducible apply ds_cons | with_reducible apply os_cons | with_reducible apply v_app | with_reducible apply v_not | with_reducible apply v_tor | with_reducible apply v_tand | with_reducible apply v_tnot | with_reducible apply v_te | with_reducible apply v_slice | with_reducible apply v_yesn | with_reducible apply v_chain | with_reducible apply v_seq | with_reducible apply v_r1 | with_reducible apply v_r1m | with_reducible apply v_enT | with_reducible apply v_enL | with_reducible apply v_ofl | with_reducible apply v_oftr | with_reducible apply v_oft | with_reducible apply o_mul | with_reducible apply o_sub | with_reducible apply o_mod | with_reducible apply o_div | with_reducible apply o_shr | with_reducible apply idx_nat | with_reducible apply q_idx2 | with_reducible apply q_idx3 | with_reducible apply q_idx4 | with_reducible apply q_idx5 | with_reducible apply q_idx6 | with_reducible apply q_idx7 | with_reducible apply q_repr | with_reducible apply idx_natL | with_reducible assumption | omega)
    have i2 : daW (evalE (callF T (n + 1)) (.var 2)) [.d (netP m ss), .d (netP k ts), .d (natD (m + k)), .u, .u, .u, .u] = .ok (natD (m + k), [.d (netP m ss), .d (netP k ts), .d (natD (m + k)), .u, .u, .u, .u]) := da_var rfl
    rw [evalSrc]
    refine (bind2 i1).trans ((bind2 i2).trans ?_)
    rw [rng2 (by omega) (by omega), Nat.add_sub_cancel_left]; rfl
  refine u_asg (e2 := [.d (netP m ss), .d (netP k ts), .d (natD (m + k)), .c (natsD ((List.range k).map (m + ·))), .u, .u, .u]) (ofL_eval sr) (by (repeat' first | exact Rf.mk rfl | (apply Rd.mk; (try dsimp only [vals_n, vals_x, vals_v, bk_c, bk_d, pb_x, pb_v, pb_n, view_x, view_v, viewV_d, viewV_c, settle_d, settle_c, get_z, get_s, set_z, set_s, ka_n, ka_s, re_n, re_s, seqOf_t, seqOf_l, asgT, asgTs, Option.bind_some, ↓reduceIte, List.length_cons, List.length_nil]); (try exact rfl); done) | with_reducible exact v_yesneg | with_reducible exact q_nes | with_reducible exact q_eqs | with_reducible exact v_nat | with_reducible exact v_neg | with_reducible exact v_bl | with_reducible exact v_non | with_reducible exact v_str | with_reducible exact ds_nil | with_reducible exact os_nil | with_reducible exact part_no | with_reducible exact q_net0 | with_reducible exact q_net1 | with_reducible exact o_add | with_reducible exact o_min | with_reducible exact o_max | with_reducible exact o_eq | with_reducible exact o_ne | with_reducible exact o_lt | with_reducible exact o_le | with_reducible exact o_gt | with_reducible exact o_ge | with_reducible exact q_lenN | with_reducible exact q_lenU | with_reducible exact q_lenS | with_reducible exact q_lenM | with_reducible exact q_lenMT | with_reducible exact q_lenL | with_reducible exact q_lenT | with_reducible exact q_tupN | with_reducible exact q_tupU | with_reducible exact q_lstN | with_reducible exact q_lstU | with_reducible exact q_tupL | with_reducible exact q_tupT | with_reducible exact q_lstL | with_reducible exact q_lstT | with_reducible exact q_int | with_reducible exact q_isT | ((with_reducible apply v_var); apply Rd.mk; (try dsimp only [vals_n, vals_x, vals_v, bk_c, bk_d, pb_x, pb_v, pb_n, view_x, view_v, viewV_d, viewV_c, settle_d, settle_c, get_z, get_s, set_z, set_s, ka_n, ka_s, re_n, re_s, seqOf_t, seqOf_l, asgT, asgTs, Option.bind_some, ↓reduceIte, List.length_cons, List.length_nil]); (try with_reducible exact rfl); done) | ((with_reducible apply v_mv); apply Rd.mk; (try dsimp only [vals_n, vals_x, vals_v, bk_c, bk_d, pb_x, pb_v, pb_n, view_x, view_v, viewV_d, viewV_c, settle_d, settle_c, get_z, get_s, set_z, set_s, ka_n, ka_s, re_n, re_s, seqOf_t, seqOf_l, asgT, asgTs, Option.bind_some, ↓reduceIte, List.length_cons, List.length_nil]); (try with_reducible exact rfl); done) | ((with_reducible apply v_opx); exact Rf.mk rfl) | with_reducible apply v_fr | with_reducible apply v_mvc | with_reducible apply v_o2 | with_reducible apply v_o1 | with_reducible apply v_call | with_reducible apply v_da | with_reducible apply v_opv | with_reducible apply v_lst | with_reducible apply v_tup | with_reducible apply ds_cons | with_reducible apply os_cons | with_reducible apply v_app | with_reducible apply v_not | with_reducible apply v_tor | with_reducible apply v_tand | with_reducible apply v_tnot | with_reducible apply v_te | with_reducible apply v_slice | with_reducible apply v_yesn | with_reducible apply v_chain | with_reducible apply v_seq | with_reducible apply v_r1 | with_reducible apply v_r1m | with_reducible apply v_enT | with_reducible apply v_enL | with_reducible apply v_ofl | with_reducible apply v_oftr | with_reducible apply v_oft | with_reducible apply o_mul | with_reducible apply o_sub | with_reducible apply o_mod | with_reducible apply o_div | with_reducible apply o_shr | with_reducible apply idx_nat | with_reducible apply q_idx2 | with_reducible apply q_idx3 | with_reducible apply q_idx4 | with_reducible apply q_idx5 | with_reducible apply q_idx6 | with_reducible apply q_idx7 | with_reducible apply q_repr | with_reducible apply idx_natL | with_reducible assumption | omega)) ?_
  refine u_asg (by (repeat' first | exact Rf.mk rfl | (apply Rd.mk; (try dsimp only [vals_n, vals_x, vals_v, bk_c, bk_d, pb_x, pb_v, pb_n, view_x, view_v, viewV_d, viewV_c, settle_d, settle_c, get_z, get_s, set_z, set_s, ka_n, ka_s, re_n, re_s, seqOf_t, seqOf_l, asgT, asgTs, Option.bind_some, ↓reduceIte, List.length_cons, List.length_nil]); (try exact rfl); done) | with_reducible exact v_yesneg | with_reducible exact q_nes | with_reducible exact q_eqs | with_reducible exact v_nat | with_reducible exact v_neg | with_reducible exact v_bl | with_reducible exact v_non | with_reducible exact v_str | with_reducible exact ds_nil | with_reducible exact os_nil | with_reducible exact part_no | with_reducible exact q_net0 | with_reducible exact q_net1 | with_reducible exact o_add | with_reducible exact o_min | with_reducible exact o_max | with_reducible exact o_eq | with_reducible exact o_ne | with_reducible exact o_lt | with_reducible exact o_le | with_reducible exact o_gt | with_reducible exact o_ge | with_reducible exact q_lenN | with_reducible exact q_lenU | with_reducible exact q_lenS | with_reducible exact q_lenM | with_reducible exact q_lenMT | with_reducible exact q_lenL | with_reducible exact q_lenT | with_reducible exact q_tupN | with_reducible exact q_tupU | with_reducible exact q_lstN | with_reducible exact q_lstU | with_reducible exact q_tupL | with_reducible exact q_tupT | with_reducible exact q_lstL | with_reducible exact q_lstT | with_reducible exact q_int | with_reducible exact q_isT | ((with_reducible apply v_var); apply Rd.mk; (try dsimp only [vals_n, vals_x, vals_v, bk_c, bk_d, pb_x, pb_v, pb_n, view_x, view_v, viewV_d, viewV_c, settle_d, settle_c, get_z, get_s, set_z, set_s, ka_n, ka_s, re_n, re_s, seqOf_t, seqOf_l, asgT, asgTs, Option.bind_some, ↓reduceIte, List.length_cons, List.length_nil]); (try with_reducible exact rfl); done) | ((with_reducible apply v_mv); apply Rd.mk; (try dsimp only [vals_n, vals_x, vals_v, bk_c, bk_d, pb_x, pb_v, pb_n, view_x, view_v, viewV_d, viewV_c, settle_d, settle_c, get_z, get_s, set_z, set_s, ka_n, ka_s, re_n, re_s, seqOf_t, seqOf_l, asgT, asgTs, Option.bind_some, ↓reduceIte, List.length_cons, List.length_nil]); (try with_reducible exact rfl); done) | ((with_reducible apply v_opx); exact Rf.mk rfl) | with_reducible apply v_fr | with_reducible apply v_mvc | with_reducible apply v_o2 | with_reducible apply v_o1 | with_reducible apply v_call | with_reducible apply v_da | with_reducible apply v_opv | with_reducible apply v_lst | with_reducible apply v_tup | with_reducible apply ds_cons | with_reducible apply os_cons | with_reducible apply v_app | with_reducible apply v_not | with_reducible apply v_tor | with_reducible apply v_tand | with_reducible apply v_tnot | with_reducible apply v_te | with_reducible apply v_slice | with_reducible apply v_yesn | with_reducible apply v_chain | with_reducible apply v_seq | with_reducible apply v_r1 | with_reducible apply v_r1m | with_reducible apply v_enT | with_reducible apply v_enL | with_reducible apply v_ofl | with_reducible apply v_oftr | with_reducible apply v_oft | with_reducible apply o_mul | with_reducible apply o_sub | with_reducible apply o_mod | with_reducible apply o_div | with_reducible apply o_shr | with_reducible apply idx_nat | with_reducible apply q_idx2 | with_reducible apply q_idx3 | with_reducible apply q_idx4 | with_reducible apply q_idx5 | with_reducible apply q_idx6 | with_reducible apply q_idx7 | with_reducible apply q_repr | with_reducible apply idx_natL | with_reducible assumption | omega)) (by (repeat' first | exact Rf.mk rfl | (apply Rd.mk; (try dsimp only [vals_n, vals_x, vals_v, bk_c, bk_d, pb_x, pb_v, pb_n, view_x, view_v, viewV_d, viewV_c, settle_d, settle_c, get_z, get_s, set_z, set_s, ka_n, ka_s, re_n, re_s, seqOf_t, seqOf_l, asgT, asgTs, Option.bind_some, ↓reduceIte, List.length_cons, List.length_nil]); (try exact rfl); done) | with_reducible exact v_yesneg | with_reducible exact q_nes | with_reducible exact q_eqs | with_reducible exact v_nat | with_reducible exact v_neg | with_reducible exact v_bl | with_reducible exact v_non | with_reducible exact v_str | with_reducible exact ds_nil | with_reducible exact os_nil | with_reducible exact part_no | with_reducible exact q_net0 | with_reducible exact q_net1 | with_reducible exact o_add | with_reducible exact o_min | with_reducible exact o_max | with_reducible exact o_eq | with_reducible exact o_ne | with_reducible exact o_lt | with_reducible exact o_le | with_reducible exact o_gt | with_reducible exact o_ge | with_reducible exact q_lenN | with_reducible exact q_lenU | with_reducible exact q_lenS | with_reducible exact q_lenM | with_reducible exact q_lenMT | with_reducible exact q_lenL | with_reducible exact q_lenT | with_reducible exact q_tupN | with_reducible exact q_tupU | with_reducible exact q_lstN | with_reducible exact q_lstU | with_reducible exact q_tupL | with_reducible exact q_tupT | with_reducible exact q_lstL | with_reducible exact q_lstT | with_reducible exact q_int | with_reducible exact q_isT | ((with_reducible apply v_var); apply Rd.mk; (try dsimp only [vals_n, vals_x, vals_v, bk_c, bk_d, pb_x, pb_v, pb_n, view_x, view_v, viewV_d, viewV_c, settle_d, settle_c, get_z, get_s, set_z, set_s, ka_n, ka_s, re_n, re_s, seqOf_t, seqOf_l, asgT, asgTs, Option.bind_some, ↓reduceIte, List.length_cons, List.length_nil]); (try with_reducible exact rfl); done) | ((with_reducible apply v_mv); apply Rd.mk; (try dsimp only [vals_n, vals_x, vals_v, bk_c, bk_d, pb_x, pb_v, pb_n, view_x, view_v, viewV_d, viewV_c, settle_d, settle_c, get_z, get_s, set_z, set_s, ka_n, ka_s, re_n, re_s, seqOf_t, seqOf_l, asgT, asgTs, Option.bind_some, ↓reduceIte, List.length_cons, List.length_nil]); (try with_reducible exact rfl); done) | ((with_reducible apply v_opx); exact Rf.mk rfl) | with_reducible apply v_fr | with_reducible apply v_mvc | with_reducible apply v_o2 | with_reducible apply v_o1 | with_reducible apply v_call | with_reducible apply v_da | with_reducible apply v_opv | with_reducible apply v_lst | with_reducible apply v_tup | with_reducible apply ds_cons | with_reducible apply os_cons | with_reducible apply v_app | with_reducible apply v_not | with_reducible apply v_tor | with_reducible apply v_tand | with_reducible apply v_tnot | with_reducible apply v_te | with_reducible apply v_slice | with_reducible apply v_yesn | with_reducible apply v_chain | with_reducible apply v_seq | with_reducible apply v_r1 | with_reducible apply v_r1m | with_reducible apply v_enT | with_reducible apply v_enL | with_reducible apply v_ofl | with_reducible apply v_oftr | with_reducible apply v_oft | with_reducible apply o_mul | with_reducible apply o_sub | with_reducible apply o_mod | with_reducible apply o_div | with_reducible apply o_shr | with_reducible apply idx_nat | with_reducible apply q_idx2 | with_reducible apply q_idx3 | with_reducible apply q_idx4 | with_reducible apply q_idx5 | with_reducible apply q_idx6 | with_reducible apply q_idx7 | with_reducible apply q_repr | with_reducible apply idx_natL | with_reducible assumption | omega)) ?_
  have blen := bes_len m ss ts
  refine wp_forN (m := max ss.length ts.length) (by (repeat' first | exact Rf.mk rfl | (apply Rd.mk; (try dsimp only [vals_n, vals_x, vals_v, bk_c, bk_d, pb_x, pb_v, pb_n, view_x, view_v, viewV_d, viewV_c, settle_d, settle_c, get_z, get_s, set_z, set_s, ka_n, ka_s, re_n, re_s, seqOf_t, seqOf_l, asgT, asgTs, Option.bind_some, ↓reduceIte, List.length_cons, List.length_nil]); (try exact rfl); done) | with_reducible exact v_yesneg | with_reducible exact q_nes | with_reducible exact q_eqs | with_reducible exact v_nat | with_reducible exact v_neg | with_reducible exact v_bl | with_reducible exact v_non | with_reducible exact v_str | with_reducible exact ds_nil | with_reducible exact os_nil | with_reducible exact part_no | with_reducible exact q_net0 | with_reducible exact q_net1 | with_reducible exact o_add | with_reducible exact o_min | with_reducible exact o_max | with_reducible exact o_eq | with_reducible exact o_ne | with_reducible exact o_lt | with_reducible exact o_le | with_reducible exact o_gt | with_reducible exact o_ge | with_reducible exact q_lenN | with_reducible exact q_lenU | with_reducible exact q_lenS | with_reducible exact q_lenM | with_reducible exact q_lenMT | with_reducible exact q_lenL | with_reducible exact q_lenT | with_reducible exact q_tupN | with_reducible exact q_tupU | with_reducible exact q_lstN | with_reducible exact q_lstU | with_reducible exact q_tupL | with_reducible exact q_tupT | with_reducible exact q_lstL | with_reducible exact q_lstT | with_reducible exact q_int | with_reducible exact q_isT | ((with_reducible apply v_var); apply Rd.mk; (try dsimp only [vals_n, vals_x, vals_v, bk_c, bk_d, pb_x, pb_v, pb_n, view_x, view_v, viewV_d, viewV_c, settle_d, settle_c, get_z, get_s, set_z, set_s, ka_n, ka_s, re_n, re_s, seqOf_t, seqOf_l, asgT, asgTs, Option.bind_some, ↓reduceIte, List.length_cons, List.length_nil]); (try with_reducible exact rfl); done) | ((with_reducible apply v_mv); apply Rd.mk; (try dsimp only [vals_n, vals_x, vals_v, bk_c, bk_d, pb_x, pb_v, pb_n, view_x, view_v, viewV_d, viewV_c, settle_d, settle_c, get_z, get_s, set_z, set_s, ka_n, ka_s, re_n, re_s, seqOf_t, seqOf_l, asgT, asgTs, Option.bind_some, ↓reduceIte, List.length_cons, List.length_nil]); (try with_reducible exact rfl); done) | ((with_reducible apply v_opx); exact Rf.mk rfl) | with_reducible apply v_fr | with_reducible apply v_mvc | with_reducible apply v_o2 | with_reducible apply v_o1 | with_reducible apply v_call | with_reducible apply v_da | with_reducible apply v_opv | with_reducible apply v_lst | with_reducible apply v_tup | with_reducible apply ds_cons | with_reducible apply os_cons | with_reducible apply v_app | with_reducible apply v_not | with_reducible apply v_tor | with_reducible apply v_tand | with_reducible apply v_tnot | with_reducible apply v_te | with_reducible apply v_slice | with_reducible apply v_yesn | with_reducible apply v_chain | with_reducible apply v_seq | with_reducible apply v_r1 | with_reducible apply v_r1m | with_reducible apply v_enT | with_reducible apply v_enL | with_reducible apply v_ofl | with_reducible apply v_oftr | with_reducible apply v_oft | with_reducible apply o_mul | with_reducible apply o_sub | with_reducible apply o_mod | with_reducible apply o_div | with_reducible apply o_shr | with_reducible apply idx_nat | with_reducible apply q_idx2 | with_reducible apply q_idx3 | with_reducible apply q_idx4 | with_reducible apply q_idx5 | with_reducible apply q_idx6 | with_reducible apply q_idx7 | with_reducible apply q_repr | with_reducible apply idx_natL | with_reducible assumption | omega)) (fun j e => e = [.d (netP m ss), .d (netP k ts), .d (natD (m + k)), .c (natsD ((List.range k).map (m + ·))), .c (((bes m ss ts).take j).map stP), .u, .u]) ?_ (fun e he => ?_) fun j e hj he => ?_
  · rfl
  · subst he
    rw [← blen, List.take_length]
    (refine wp_ret (by (repeat' first | exact Rf.mk rfl | (apply Rd.mk; (try dsimp only [vals_n, vals_x, vals_v, bk_c, bk_d, pb_x, pb_v, pb_n, view_x, view_v, viewV_d, viewV_c, settle_d, settle_c, get_z, get_s, set_z, set_s, ka_n, ka_s, re_n, re_s, seqOf_t, seqOf_l, asgT, asgTs, Option.bind_some, ↓reduceIte, List.length_cons, List.length_nil]); (try exact rfl); done) | with_reducible exact v_yesneg | with_reducible exact q_nes | with_reducible exact q_eqs | with_reducible exact v_nat | with_reducible exact v_neg | with_reducible exact v_bl | with_reducible exact v_non | with_reducible exact v_str | with_reducible exact ds_nil | with_reducible exact os_nil | with_reducible exact part_no | with_reducible exact q_net0 | with_reducible exact q_net1 | with_reducible exact o_add | with_reducible exact o_min | with_reducible exact o_max | with_reducible exact o_eq | with_reducible exact o_ne | with_reducible exact o_lt | with_reducible exact o_le | with_reducible exact o_gt | with_reducible exact o_ge | with_reducible exact q_lenN | with_reducible exact q_lenU | with_reducible exact q_lenS | with_reducible exact q_lenM | with_reducible exact q_lenMT | with_reducible exact q_lenL | with_reducible exact q_lenT | with_reducible exact q_tupN | with_reducible exact q_tupU | with_reducible exact q_lstN | with_reducible exact q_lstU | with_reducible exact q_tupL | with_reducible exact q_tupT | with_reducible exact q_lstL | with_reducible exact q_lstT | with_reducible exact q_int | with_reducible exact q_isT | ((with_reducible apply v_var); apply Rd.mk; (try dsimp only [vals_n, vals_x, vals_v, bk_c, bk_d, pb_x, pb_v, pb_n, view_x, view_v, viewV_d, viewV_c, settle_d, settle_c, get_z, get_s, set_z, set_s, ka_n, ka_s, re_n, re_s, seqOf_t, seqOf_l, asgT, asgTs, Option.bind_some, ↓reduceIte, List.length_cons, List.length_nil]); (try with_reducible exact rfl); done) | ((with_reducible apply v_mv); apply Rd.mk; (try dsimp only [vals_n, vals_x, vals_v, bk_c, bk_d, pb_x, pb_v, pb_n, view_x, view_v, viewV_d, viewV_c, settle_d, settle_c, get_z, get_s, set_z, set_s, ka_n, ka_s, re_n, re_s, seqOf_t, seqOf_l, asgT, asgTs, Option.bind_some, ↓reduceIte, List.length_cons, List.length_nil]); (try with_reducible exact rfl); done) | ((with_reducible apply v_opx); exact Rf.mk rfl) | with_reducible apply v_fr | with_reducible apply v_mvc | with_reducible apply v_o2 | with_reducible apply v_o1 | with_reducible apply v_call | with_reducible apply v_da | with_reducible apply v_opv | with_reducible apply v_lst | with_reducible apply v_tup | with_reducible apply ds_cons | with_reducible apply os_cons | with_reducible apply v_app | with_reducible apply v_not | with_reducible apply v_tor | with_reducible apply v_tand | with_reducible apply v_tnot | with_reducible apply v_te | with_reducible apply v_slice | with_reducible apply v_yesn | with_reducible apply v_chain | with_reducible apply v_seq | with_reducible apply v_r1 | with_reducible apply v_r1m | with_reducible apply v_enT | with_reducible apply v_enL | with_reducible apply v_ofl | with_reducible apply v_oftr | with_reducible apply v_oft | with_reducible apply o_mul | with_reducible apply o_sub | with_reducible apply o_mod | with_reducible apply o_div | with_reducible apply o_shr | with_reducible apply idx_nat | with_reducible apply q_idx2 | with_reducible apply q_idx3 | with_reducible apply q_idx4 | with_reducible apply q_idx5 | with_reducible apply q_idx6 | with_reducible apply q_idx7 | with_reducible apply q_repr | with_reducible apply idx_natL | with_reducible assumption | omega)) ?_; exact ⟨_, _, rfl, rfl, trivial⟩)
  subst he
  have lm : (((bes m ss ts).take j).map stP).length < 1000000 := by
    rw [List.length_map, List.length_take]; omega
  have fin : Wp ⟨fun e1 => killAll [5, 6] e1 = [.d (netP m ss), .d (netP k ts), .d (natD (m + k)), .c (natsD ((List.range k).map (m + ·))), .c (((bes m ss ts).take (j + 1)).map stP), .u, .u], fun _ => False, fun _ => False, fun _ _ => False⟩ (Sw.execs (callF T (n + 1)) (.cons (.ex (.app 4 (.var 6))) .nil) [.d (netP m ss), .d (netP k ts), .d (natD (m + k)), .c (natsD ((List.range k).map (m + ·))), .c (((bes m ss ts).take j).map stP), .d (natD j), .d (stP (ss.getD j [] ++ sh m (ts.getD j [])))]) := by
    refine wp_ex (by (repeat' first | exact Rf.mk rfl | (apply Rd.mk; (try dsimp only [vals_n, vals_x, vals_v, bk_c, bk_d, pb_x, pb_v, pb_n, view_x, view_v, viewV_d, viewV_c, settle_d, settle_c, get_z, get_s, set_z, set_s, ka_n, ka_s, re_n, re_s, seqOf_t, seqOf_l, asgT, asgTs, Option.bind_some, ↓reduceIte, List.length_cons, List.length_nil]); (try exact rfl); done) | with_reducible exact v_yesneg | with_reducible exact q_nes | with_reducible exact q_eqs | with_reducible exact v_nat | with_reducible exact v_neg | with_reducible exact v_bl | with_reducible exact v_non | with_reducible exact v_str | with_reducible exact ds_nil | with_reducible exact os_nil | with_reducible exact part_no | with_reducible exact q_net0 | with_reducible exact q_net1 | with_reducible exact o_add | with_reducible exact o_min | with_reducible exact o_max | with_reducible exact o_eq | with_reducible exact o_ne | with_reducible exact o_lt | with_reducible exact o_le | with_reducible exact o_gt | with_reducible exact o_ge | with_reducible exact q_lenN | with_reducible exact q_lenU | with_reducible exact q_lenS | with_reducible exact q_lenM | with_reducible exact q_lenMT | with_reducible exact q_lenL | with_reducible exact q_lenT | with_reducible exact q_tupN | with_reducible exact q_tupU | with_reducible exact q_lstN | with_reducible exact q_lstU | with_reducible exact q_tupL | with_reducible exact q_tupT | with_reducible exact q_lstL | with_reducible exact q_lstT | with_reducible exact q_int | with_reducible exact q_isT | ((with_reducible apply v_var); apply Rd.mk; (try dsimp only [vals_n, vals_x, vals_v, bk_c, bk_d, pb_x, pb_v, pb_n, view_x, view_v, viewV_d, viewV_c, settle_d, settle_c, get_z, get_s, set_z, set_s, ka_n, ka_s, re_n, re_s, seqOf_t, seqOf_l, asgT, asgTs, Option.bind_some, ↓reduceIte, List.length_cons, List.length_nil]); (try with_reducible exact rfl); done) | ((with_reducible apply v_mv); apply Rd.mk; (try dsimp only [vals_n, vals_x, vals_v, bk_c, bk_d, pb_x, pb_v, pb_n, view_x, view_v, viewV_d, viewV_c, settle_d, settle_c, get_z, get_s, set_z, set_s, ka_n, ka_s, re_n, re_s, seqOf_t, seqOf_l, asgT, asgTs, Option.bind_some, ↓reduceIte, List.length_cons, List.length_nil]); (try with_reducible exact rfl); done) | ((with_reducible apply v_opx); exact Rf.mk rfl) | with_reducible apply v_fr | with_reducible apply v_mvc | with_reducible apply v_o2 | with_reducible apply v_o1 | with_reducible apply v_call | with_reducible apply v_da | with_reducible apply v_opv | with_reducible apply v_lst | with_reducible apply v_tup | with_reducible apply ds_cons | with_reducible apply os_cons | with_reducible apply v_app | with_reducible apply v_not | with_reducible apply v_tor | with_reducible apply v_tand | with_reducible apply v_tnot | with_reducible apply v_te | with_reducible apply v_slice | with_reducible apply v_yesn | with_reducible apply v_chain | with_reducible apply v_seq | with_reducible apply v_r1 | with_reducible apply v_r1m | with_reducible apply v_enT | with_reducible apply v_enL | with_reducible apply v_ofl | with_reducible apply v_oftr | with_reducible apply v_oft | with_reducible apply o_mul | with_reducible apply o_sub | with_reducible apply o_mod | with_reducible apply o_div | with_reducible apply o_shr | with_reducible apply idx_nat | with_reducible apply q_idx2 | with_reducible apply q_idx3 | with_reducible apply q_idx4 | with_reducible apply q_idx5 | with_reducible apply q_idx6 | with_reducible apply q_idx7 | with_reducible apply q_repr | with_reducible apply idx_natL | with_reducible assumption | omega)) (wp_nil ?_)
    rw [take_snoc (d := []) (by rw [blen]; exact hj), bes_gd, List.map_append]; rfl
  have mid : Wp ⟨fun e1 => killAll [5, 6] e1 = [.d (netP m ss), .d (netP k ts), .d (natD (m + k)), .c (natsD ((List.range k).map (m + ·))), .c (((bes m ss ts).take (j + 1)).map stP), .u, .u], fun _ => False, fun _ => False, fun _ _ => False⟩ (Sw.execs (callF T (n + 1)) (.cons (.iff (.e (.o2 .lt (.var 5) (.o1 .len (.o2 .idx (.var 1) (.int 1))))) (.cons (.asg 6 (.o2 .add (.var 6) (.call "on_wires" (.cons (.o2 .idx (.o2 .idx (.var 1) (.int 1)) (.var 5)) (.cons (.var 3) .nil))))) .nil) .nil) (.cons (.ex (.app 4 (.var 6))) .nil)) [.d (netP m ss), .d (netP k ts), .d (natD (m + k)), .c (natsD ((List.range k).map (m + ·))), .c (((bes m ss ts).take j).map stP), .d (natD j), .d (stP (ss.getD j []))]) := by
    refine wp_if1 (by (repeat' first | exact Rf.mk rfl | (apply Rd.mk; (try dsimp only [vals_n, vals_x, vals_v, bk_c, bk_d, pb_x, pb_v, pb_n, view_x, view_v, viewV_d, viewV_c, settle_d, settle_c, get_z, get_s, set_z, set_s, ka_n, ka_s, re_n, re_s, seqOf_t, seqOf_l, asgT, asgTs, Option.bind_some, ↓reduceIte, List.length_cons, List.length_nil]); (try exact rfl); done) | with_reducible exact v_yesneg | with_reducible exact q_nes | with_reducible exact q_eqs | with_reducible exact v_nat | with_reducible exact v_neg | with_reducible exact v_bl | with_reducible exact v_non | with_reducible exact v_str | with_reducible exact ds_nil | with_reducible exact os_nil | with_reducible exact part_no | with_reducible exact q_net0 | with_reducible exact q_net1 | with_reducible exact o_add | with_reducible exact o_min | with_reducible exact o_max | with_reducible exact o_eq | with_reducible exact o_ne | with_reducible exact o_lt | with_reducible exact o_le | with_reducible exact o_gt | with_reducible exact o_ge | with_reducible exact q_lenN | with_reducible exact q_lenU | with_reducible exact q_lenS | with_reducible exact q_lenM | with_reducible exact q_lenMT | with_reducible exact q_lenL | with_reducible exact q_lenT | with_reducible exact q_tupN | with_reducible exact q_tupU | with_reducible exact q_lstN | with_reducible exact q_lstU | with_reducible exact q_tupL | with_reducible exact q_tupT | with_reducible exact q_lstL | with_reducible exact q_lstT | with_reducible exact q_int | with_reducible exact q_isT | ((with_reducible apply v_var); apply Rd.mk; (try dsimp only [vals_n, vals_x, vals_v, bk_c, bk_d, pb_x, pb_v, pb_n, view_x, view_v, viewV_d, viewV_c, settle_d, settle_c, get_z, get_s, set_z, set_s, ka_n, ka_s, re_n, re_s, seqOf_t, seqOf_l, asgT, asgTs, Option.bind_some, ↓reduceIte, List.length_cons, List.length_nil]); (try with_reducible exact rfl); done) | ((with_reducible apply v_mv); apply Rd.mk; (try dsimp only [vals_n, vals_x, vals_v, bk_c, bk_d, pb_x, pb_v, pb_n, view_x, view_v, viewV_d, viewV_c, settle_d, settle_c, get_z, get_s, set_z, set_s, ka_n, ka_s, re_n, re_s, seqOf_t, seqOf_l, asgT, asgTs, Option.bind_some, ↓reduceIte, List.length_cons, List.length_nil]); (try with_reducible exact rfl); done) | ((with_reducible apply v_opx); exact Rf.mk rfl) | with_reducible apply v_fr | with_reducible apply v_mvc | with_reducible apply v_o2 | with_reducible apply v_o1 | with_reducible apply v_call | with_reducible apply v_da | with_reducible apply v_opv | with_reducible apply v_lst | with_reducible apply v_tup | with_reducible apply ds_cons | with_reducible apply os_cons | with_reducible apply v_app | with_reducible apply v_not | with_reducible apply v_tor | with_reducible apply v_tand | with_reducible apply v_tnot | with_reducible apply v_te | with_reducible apply v_slice | with_reducible apply v_yesn | with_reducible apply v_chain | with_reducible apply v_seq | with_reducible apply v_r1 | with_reducible apply v_r1m | with_reducible apply v_enT | with_reducible apply v_enL | with_reducible apply v_ofl | with_reducible apply v_oftr | with_reducible apply v_oft | with_reducible apply o_mul | with_reducible apply o_sub | with_reducible apply o_mod | with_reducible apply o_div | with_reducible apply o_shr | with_reducible apply idx_nat | with_reducible apply q_idx2 | with_reducible apply q_idx3 | with_reducible apply q_idx4 | with_reducible apply q_idx5 | with_reducible apply q_idx6 | with_reducible apply q_idx7 | with_reducible apply q_repr | with_reducible apply idx_natL | with_reducible assumption | omega)) (fun hb => ?_) fun hb => ?_
    · have hb : j < ts.length := by simpa using hb
      have g := ht _ (gd_mem (d := []) hb)
      obtain ⟨x, on, _⟩ := on_ok (m := m) n hOn g.lt (by have := g.len; omega)
      have ix := idx_st hb
      have gl := g.len
      have sl : (ss.getD j []).length ≤ 1000 := by
        by_cases z : j < ss.length
        · have := (hs _ (gd_mem (d := []) z)).len; omega
        · rw [gd_none z]; simp
      have ad := q_addM (f := pr) (xs := ss.getD j []) (ys := sh m (ts.getD j [])) (by rw [show (sh m (ts.getD j [])).length = (ts.getD j []).length from List.length_map _]; omega)
      refine u_asg (w := .d (stP (ss.getD j [] ++ sh m (ts.getD j [])))) (v_o2 (by (repeat' first | exact Rf.mk rfl | (apply Rd.mk; (try dsimp only [vals_n, vals_x, vals_v, bk_c, bk_d, pb_x, pb_v, pb_n, view_x, view_v, viewV_d, viewV_c, settle_d, settle_c, get_z, get_s, set_z, set_s, ka_n, ka_s, re_n, re_s, seqOf_t, seqOf_l, asgT, asgTs, Option.bind_some, ↓reduceIte, List.length_cons, List.length_nil]); (try exact rfl); done) | with_reducible exact v_yesneg | with_reducible exact q_nes | with_reducible exact q_eqs | with_reducible exact v_nat | with_reducible exact v_neg | with_reducible exact v_bl | with_reducible exact v_non | with_reducible exact v_str | with_reducible exact ds_nil | with_reducible exact os_nil | with_reducible exact part_no | with_reducible exact q_net0 | with_reducible exact q_net1 | with_reducible exact o_add | with_reducible exact o_min | with_reducible exact o_max | with_reducible exact o_eq | with_reducible exact o_ne | with_reducible exact o_lt | with_reducible exact o_le | with_reducible exact o_gt | with_reducible exact o_ge | with_reducible exact q_lenN | with_reducible exact q_lenU | with_reducible exact q_lenS | with_reducible exact q_lenM | with_reducible exact q_lenMT | with_reducible exact q_lenL | with_reducible exact q_lenT | with_reducible exact q_tupN | with_reducible exact q_tupU | with_reducible exact q_lstN | with_reducible exact q_lstU | with_reducible exact q_tupL | with_reducible exact q_tupT | with_reducible exact q_lstL | with_reducible exact q_lstT | with_reducible exact q_int | with_reducible exact q_isT | ((with_reducible apply v_var); apply Rd.mk; (try dsimp only [vals_n, vals_x, vals_v, bk_c, bk_d, pb_x, pb_v, pb_n, view_x, view_v, viewV_d, viewV_c, settle_d, settle_c, get_z, get_s, set_z, set_s, ka_n, ka_s, re_n, re_s, seqOf_t, seqOf_l, asgT, asgTs, Option.bind_some, ↓reduceIte, List.length_cons, List.length_nil]); (try with_reducible exact rfl); done) | ((with_reducible apply v_mv); apply Rd.mk; (try dsimp only [vals_n, vals_x, vals_v, bk_c, bk_d, pb_x, pb_v, pb_n, view_x, view_v, viewV_d, viewV_c, settle_d, settle_c, get_z, get_s, set_z, set_s, ka_n, ka_s, re_n, re_s, seqOf_t, seqOf_l, asgT, asgTs, Option.bind_some, ↓reduceIte, List.length_cons, List.length_nil]); (try with_reducible exact rfl); done) | ((with_reducible apply v_opx); exact Rf.mk rfl) | with_reducible apply v_fr | with_reducible apply v_mvc | with_reducible apply v_o2 | with_reducible apply v_o1 | with_reducible apply v_call | with_reducible apply v_da | with_reducible apply v_opv | with_reducible apply v_lst | with_reducible apply v_tup | with_reducible apply ds_cons | with_reducible apply os_cons | with_reducible apply v_app | with_reducible apply v_not | with_reducible apply v_tor | with_reducible apply v_tand | with_reducible apply v_tnot | with_reducible apply v_te | with_reducible apply v_slice | with_reducible apply v_yesn | with_reducible apply v_chain | with_reducible apply v_seq | with_reducible apply v_r1 | with_reducible apply v_r1m | with_reducible apply v_enT | with_reducible apply v_enL | with_reducible apply v_ofl | with_reducible apply v_oftr | with_reducible apply v_oft | with_reducible apply o_mul | with_reducible apply o_sub | with_reducible apply o_mod | with_reducible apply o_div | with_reducible apply o_shr | with_reducible apply idx_nat | with_reducible apply q_idx2 | with_reducible apply q_idx3 | with_reducible apply q_idx4 | with_reducible apply q_idx5 | with_reducible apply q_idx6 | with_reducible apply q_idx7 | with_reducible apply q_repr | with_reducible apply idx_natL | with_reducible assumption | omega)) (by (repeat' first | exact Rf.mk rfl | (apply Rd.mk; (try dsimp only [vals_n, vals_x, vals_v, bk_c, bk_d, pb_x, pb_v, pb_n, view_x, view_v, viewV_d, viewV_c, settle_d, settle_c, get_z, get_s, set_z, set_s, ka_n, ka_s, re_n, re_s, seqOf_t, seqOf_l, asgT, asgTs, Option.bind_some, ↓reduceIte, List.length_cons, List.length_nil]); (try exact rfl); done) | with_reducible exact on | with_reducible exact ix | with_reducible exact v_yesneg | with_reducible exact q_nes | with_reducible exact q_eqs | with_reducible exact v_nat | with_reducible exact v_neg | with_reducible exact v_bl | with_reducible exact v_non | with_reducible exact v_str | with_reducible exact ds_nil | with_reducible exact os_nil | with_reducible exact part_no | with_reducible exact q_net0 | with_reducible exact q_net1 | with_reducible exact o_add | with_reducible exact o_min | with_reducible exact o_max | with_reducible exact o_eq | with_reducible exact o_ne | with_reducible exact o_lt | with_reducible exact o_le | with_reducible exact o_gt | with_reducible exact o_ge | with_reducible exact q_lenN | with_reducible exact q_lenU | with_reducible exact q_lenS | with_reducible exact q_lenM | with_reducible exact q_lenMT | with_reducible exact q_lenL | with_reducible exact q_lenT | with_reducible exact q_tupN | with_reducible exact q_tupU | with_reducible exact q_lstN | with_reducible exact q_lstU | with_reducible exact q_tupL | with_reducible exact q_tupT | with_reducible exact q_lstL | with_reducible exact q_lstT | with_reducible exact q_int | with_reducible exact q_isT | ((with_reducible apply v_var); apply Rd.mk; (try dsimp only [vals_n, vals_x, vals_v, bk_c, bk_d, pb_x, pb_v, pb_n, view_x, view_v, viewV_d, viewV_c, settle_d, settle_c, get_z, get_s, set_z, set_s, ka_n, ka_s, re_n, re_s, seqOf_t, seqOf_l, asgT, asgTs, Option.bind_some, ↓reduceIte, List.length_cons, List.length_nil]); (try with_reducible exact rfl); done) | ((with_reducible apply v_mv); apply Rd.mk; (try dsimp only [vals_n, vals_x, vals_v, bk_c, bk_d, pb_x, pb_v, pb_n, view_x, view_v, viewV_d, viewV_c, settle_d, settle_c, get_z, get_s, set_z, set_s, ka_n, ka_s, re_n, re_s, seqOf_t, seqOf_l, asgT, asgTs, Option.bind_some, ↓reduceIte, List.length_cons, List.length_nil]); (try with_reducible exact rfl); done) | ((with_reducible apply v_opx); exact Rf.mk rfl) | with_reducible apply v_fr | with_reducible apply v_mvc | with_reducible apply v_o2 | with_reducible apply v_o1 | with_reducible apply v_call | with_reducible apply v_da | with_reducible apply v_opv | with_reducible apply v_lst | with_reducible apply v_tup | with_reducible apply ds_cons | with_reducible apply os_cons | with_reducible apply v_app | with_reducible apply v_not | with_reducible apply v_tor | with_reducible apply v_tand | with_reducible apply v_tnot | with_reducible apply v_te | with_reducible apply v_slice | with_reducible apply v_yesn | with_reducible apply v_chain | with_reducible apply v_seq | with_reducible apply v_r1 | with_reducible apply v_r1m | with_reducible apply v_enT | with_reducible apply v_enL | with_reducible apply v_ofl | with_reducible apply v_oftr | with_reducible apply v_oft | with_reducible apply o_mul | with_reducible apply o_sub | with_reducible apply o_mod | with_reducible apply o_div | with_reducible apply o_shr | with_reducible apply idx_nat | with_reducible apply q_idx2 | with_reducible apply q_idx3 | with_reducible apply q_idx4 | with_reducible apply q_idx5 | with_reducible apply q_idx6 | with_reducible apply q_idx7 | with_reducible apply q_repr | with_reducible apply idx_natL | with_reducible assumption | omega)) (by (repeat' first | exact Rf.mk rfl | (apply Rd.mk; (try dsimp only [vals_n, vals_x, vals_v, bk_c, bk_d, pb_x, pb_v, pb_n, view_x, view_v, viewV_d, viewV_c, settle_d, settle_c, get_z, get_s, set_z, set_s, ka_n, ka_s, re_n, re_s, seqOf_t, seqOf_l, asgT, asgTs, Option.bind_some, ↓reduceIte, List.length_cons, List.length_nil]); (try exact rfl); done) | with_reducible exact v_yesneg | with_reducible exact q_nes | with_reducible exact q_eqs | with_reducible exact v_nat | with_reducible exact v_neg | with_reducible exact v_bl | with_reducible exact v_non | with_reducible exact v_str | with_reducible exact ds_nil | with_reducible exact os_nil | with_reducible exact part_no | with_reducible exact q_net0 | with_reducible exact q_net1 | with_reducible exact o_add | with_reducible exact o_min | with_reducible exact o_max | with_reducible exact o_eq | with_reducible exact o_ne | with_reducible exact o_lt | with_reducible exact o_le | with_reducible exact o_gt | with_reducible exact o_ge | with_reducible exact q_lenN | with_reducible exact q_lenU | with_reducible exact q_lenS | with_reducible exact q_lenM | with_reducible exact q_lenMT | with_reducible exact q_lenL | with_reducible exact q_lenT | with_reducible exact q_tupN | with_reducible exact q_tupU | with_reducible exact q_lstN | with_reducible exact q_lstU | with_reducible exact q_tupL | with_reducible exact q_tupT | with_reducible exact q_lstL | with_reducible exact q_lstT | with_reducible exact q_int | with_reducible exact q_isT | ((with_reducible apply v_var); apply Rd.mk; (try dsimp only [vals_n, vals_x, vals_v, bk_c, bk_d, pb_x, pb_v, pb_n, view_x, view_v, viewV_d, viewV_c, settle_d, settle_c, get_z, get_s, set_z, set_s, ka_n, ka_s, re_n, re_s, seqOf_t, seqOf_l, asgT, asgTs, Option.bind_some, ↓reduceIte, List.length_cons, List.length_nil]); (try with_reducible exact rfl); done) | ((with_reducible apply v_mv); apply Rd.mk; (try dsimp only [vals_n, vals_x, vals_v, bk_c, bk_d, pb_x, pb_v, pb_n, view_x, view_v, viewV_d, viewV_c, settle_d, settle_c, get_z, get_s, set_z, set_s, ka_n, ka_s, re_n, re_s, seqOf_t, seqOf_l, asgT, asgTs, Option.bind_some, ↓reduceIte, List.length_cons, List.length_nil]); (try with_reducible exact rfl); done) | ((with_reducible apply v_opx); exact Rf.mk rfl) | with_reducible apply v_fr | with_reducible apply v_mvc | with_reducible apply v_o2 | with_reducible apply v_o1 | with_reducible apply v_call | with_reducible apply v_da | with_reducible apply v_opv | with_reducible apply v_lst | with_reducible apply v_tup | with_reducible apply ds_cons | with_reducible apply os_cons | with_reducible apply v_app | with_reducible apply v_not | with_reducible apply v_tor | with_reducible apply v_tand | with_reducible apply v_tnot | with_reducible apply v_te | with_reducible apply v_slice | with_reducible apply v_yesn | with_reducible apply v_chain | with_reducible apply v_seq | with_reducible apply v_r1 | with_reducible apply v_r1m | with_reducible apply v_enT | with_reducible apply v_enL | with_reducible apply v_ofl | with_reducible apply v_oftr | with_reducible apply v_oft | with_reducible apply o_mul | with_reducible apply o_sub | with_reducible apply o_mod | with_reducible apply o_div | with_reducible apply o_shr | with_reducible apply idx_nat | with_reducible apply q_idx2 | with_reducible apply q_idx3 | with_reducible apply q_idx4 | with_reducible apply q_idx5 | with_reducible apply q_idx6 | with_reducible apply q_idx7 | with_reducible apply q_repr | with_reducible apply idx_natL | with_reducible assumption | omega)) (by (repeat' first | exact Rf.mk rfl | (apply Rd.mk; (try dsimp only [vals_n, vals_x, vals_v, bk_c, bk_d, pb_x, pb_v, pb_n, view_x, view_v, viewV_d, viewV_c, settle_d, settle_c, get_z, get_s, set_z, set_s, ka_n, ka_s, re_n, re_s, seqOf_t, seqOf_l, asgT, asgTs, Option.bind_some, ↓reduceIte, List.length_cons, List.length_nil]); (try exact rfl); done) | with_reducible exact v_yesneg | with_reducible exact q_nes | with_reducible exact q_eqs | with_reducible exact v_nat | with_reducible exact v_neg | with_reducible exact v_bl | with_reducible exact v_non | with_reducible exact v_str | with_reducible exact ds_nil | with_reducible exact os_nil | with_reducible exact part_no | with_reducible exact q_net0 | with_reducible exact q_net1 | with_reducible exact o_add | with_reducible exact o_min | with_reducible exact o_max | with_reducible exact o_eq | with_reducible exact o_ne | with_reducible exact o_lt | with_reducible exact o_le | with_reducible exact o_gt | with_reducible exact o_ge | with_reducible exact q_lenN | with_reducible exact q_lenU | with_reducible exact q_lenS | with_reducible exact q_lenM | with_reducible exact q_lenMT | with_reducible exact q_lenL | with_reducible exact q_lenT | with_reducible exact q_tupN | with_reducible exact q_tupU | with_reducible exact q_lstN | with_reducible exact q_lstU | with_reducible exact q_tupL | with_reducible exact q_tupT | with_reducible exact q_lstL | with_reducible exact q_lstT | with_reducible exact q_int | with_reducible exact q_isT | ((with_reducible apply v_var); apply Rd.mk; (try dsimp only [vals_n, vals_x, vals_v, bk_c, bk_d, pb_x, pb_v, pb_n, view_x, view_v, viewV_d, viewV_c, settle_d, settle_c, get_z, get_s, set_z, set_s, ka_n, ka_s, re_n, re_s, seqOf_t, seqOf_l, asgT, asgTs, Option.bind_some, ↓reduceIte, List.length_cons, List.length_nil]); (try with_reducible exact rfl); done) | ((with_reducible apply v_mv); apply Rd.mk; (try dsimp only [vals_n, vals_x, vals_v, bk_c, bk_d, pb_x, pb_v, pb_n, view_x, view_v, viewV_d, viewV_c, settle_d, settle_c, get_z, get_s, set_z, set_s, ka_n, ka_s, re_n, re_s, seqOf_t, seqOf_l, asgT, asgTs, Option.bind_some, ↓reduceIte, List.length_cons, List.length_nil]); (try with_reducible exact rfl); done) | ((with_reducible apply v_opx); exact Rf.mk rfl) | with_reducible apply v_fr | with_reducible apply v_mvc | with_reducible apply v_o2 | with_reducible apply v_o1 | with_reducible apply v_call | with_reducible apply v_da | with_reducible apply v_opv | with_reducible apply v_lst | with_reducible apply v_tup | with_reducible apply ds_cons | with_reducible apply os_cons | with_reducible apply v_app | with_reducible apply v_not | with_reducible apply v_tor | with_reducible apply v_tand | with_reducible apply v_tnot | with_reducible apply v_te | with_reducible apply v_slice | with_reducible apply v_yesn | with_reducible apply v_chain | with_reducible apply v_seq | with_reducible apply v_r1 | with_reducible apply v_r1m | with_reducible apply v_enT | with_reducible apply v_enL | with_reducible apply v_ofl | with_reducible apply v_oftr | with_reducible apply v_oft | with_reducible apply o_mul | with_reducible apply o_sub | with_reducible apply o_mod | with_reducible apply o_div | with_reducible apply o_shr | with_reducible apply idx_nat | with_reducible apply q_idx2 | with_reducible apply q_idx3 | with_reducible apply q_idx4 | with_reducible apply q_idx5 | with_reducible apply q_idx6 | with_reducible apply q_idx7 | with_reducible apply q_repr | with_reducible apply idx_natL | with_reducible assumption | omega)) ad) (by (repeat' first | exact Rf.mk rfl | (apply Rd.mk; (try dsimp only [vals_n, vals_x, vals_v, bk_c, bk_d, pb_x, pb_v, pb_n, view_x, view_v, viewV_d, viewV_c, settle_d, settle_c, get_z, get_s, set_z, set_s, ka_n, ka_s, re_n, re_s, seqOf_t, seqOf_l, asgT, asgTs, Option.bind_some, ↓reduceIte, List.length_cons, List.length_nil]); (try exact rfl); done) | with_reducible exact v_yesneg | with_reducible exact q_nes | with_reducible exact q_eqs | with_reducible exact v_nat | with_reducible exact v_neg | with_reducible exact v_bl | with_reducible exact v_non | with_reducible exact v_str | with_reducible exact ds_nil | with_reducible exact os_nil | with_reducible exact part_no | with_reducible exact q_net0 | with_reducible exact q_net1 | with_reducible exact o_add | with_reducible exact o_min | with_reducible exact o_max | with_reducible exact o_eq | with_reducible exact o_ne | with_reducible exact o_lt | with_reducible exact o_le | with_reducible exact o_gt | with_reducible exact o_ge | with_reducible exact q_lenN | with_reducible exact q_lenU | with_reducible exact q_lenS | with_reducible exact q_lenM | with_reducible exact q_lenMT | with_reducible exact q_lenL | with_reducible exact q_lenT | with_reducible exact q_tupN | with_reducible exact q_tupU | with_reducible exact q_lstN | with_reducible exact q_lstU | with_reducible exact q_tupL | with_reducible exact q_tupT | with_reducible exact q_lstL | with_reducible exact q_lstT | with_reducible exact q_int | with_reducible exact q_isT | ((with_reducible apply v_var); apply Rd.mk; (try dsimp only [vals_n, vals_x, vals_v, bk_c, bk_d, pb_x, pb_v, pb_n, view_x, view_v, viewV_d, viewV_c, settle_d, settle_c, get_z, get_s, set_z, set_s, ka_n, ka_s, re_n, re_s, seqOf_t, seqOf_l, asgT, asgTs, Option.bind_some, ↓reduceIte, List.length_cons, List.length_nil]); (try with_reducible exact rfl); done) | ((with_reducible apply v_mv); apply Rd.mk; (try dsimp only [vals_n, vals_x, vals_v, bk_c, bk_d, pb_x, pb_v, pb_n, view_x, view_v, viewV_d, viewV_c, settle_d, settle_c, get_z, get_s, set_z, set_s, ka_n, ka_s, re_n, re_s, seqOf_t, seqOf_l, asgT, asgTs, Option.bind_some, ↓reduceIte, List.length_cons, List.length_nil]); (try with_reducible exact rfl); done) | ((with_reducible apply v_opx); exact Rf.mk rfl) | with_reducible apply v_fr | with_reducible apply v_mvc | with_reducible apply v_o2 | with_reducible apply v_o1 | with_reducible apply v_call | with_reducible apply v_da | with_reducible apply v_opv | with_reducible apply v_lst | with_reducible apply v_tup | with_reducible apply ds_cons | with_reducible apply os_cons | with_reducible apply v_app | with_reducible apply v_not | with_reducible apply v_tor | with_reducible apply v_tand | with_reducible apply v_tnot | with_reducible apply v_te | with_reducible apply v_slice | with_reducible apply v_yesn | with_reducible apply v_chain | with_reducible apply v_seq | with_reducible apply v_r1 | with_reducible apply v_r1m | with_reducible apply v_enT | with_reducible apply v_enL | with_reducible apply v_ofl | with_reducible apply v_oftr | with_reducible apply v_oft | with_reducible apply o_mul | with_reducible apply o_sub | with_reducible apply o_mod | with_reducible apply o_div | with_reducible apply o_shr | with_reducible apply idx_nat | with_reducible apply q_idx2 | with_reducible apply q_idx3 | with_reducible apply q_idx4 | with_reducible apply q_idx5 | with_reducible apply q_idx6 | with_reducible apply q_idx7 | with_reducible apply q_repr | with_reducible apply idx_natL | with_reducible assumption | omega)) (wp_nil ?_)
      exact fin
    · have hb : ¬ j < ts.length := by simpa using hb
      have e : sh m (ts.getD j []) = [] := by rw [gd_none hb]; rfl
      rw [e, List.append_nil] at fin
      exact fin
  have mid := wp_mono (R := ⟨fun e1 => killAll [5, 6] e1 = [.d (netP m ss), .d (netP k ts), .d (natD (m + k)), .c (natsD ((List.range k).map (m + ·))), .c (((bes m ss ts).take (j + 1)).map stP), .u, .u], fun e1 => Wp ⟨fun e => ∃ x y, V.d PyData.none = .d (netP (m + k) (bes m ss ts)) ∧ killAll b_beside.wp (e.take b_beside.np) = [x, y] ∧ True, fun _ => False, fun _ => False, fun v e => ∃ x y, v = .d (netP (m + k) (bes m ss ts)) ∧ killAll b_beside.wp (e.take b_beside.np) = [x, y] ∧ True⟩ (Sw.execs (callF T (n + 1)) (.cons (.ret (.tup (.cons (.var 2) (.cons (.o1 .tupleOf (.var 4)) .nil)))) .nil) (killAll [5, 6] e1)), fun e1 => killAll [5, 6] e1 = [.d (netP m ss), .d (netP k ts), .d (natD (m + k)), .c (natsD ((List.range k).map (m + ·))), .c (((bes m ss ts).take (j + 1)).map stP), .u, .u], fun v e => ∃ x y, v = .d (netP (m + k) (bes m ss ts)) ∧ killAll b_beside.wp (e.take b_beside.np) = [x, y] ∧ True⟩) mid (fun _ z => z) (fun _ z => z.elim) (fun _ z => z.elim) (fun _ _ z => z.elim)
  refine u_asg (by (repeat' first | exact Rf.mk rfl | (apply Rd.mk; (try dsimp only [vals_n, vals_x, vals_v, bk_c, bk_d, pb_x, pb_v, pb_n, view_x, view_v, viewV_d, viewV_c, settle_d, settle_c, get_z, get_s, set_z, set_s, ka_n, ka_s, re_n, re_s, seqOf_t, seqOf_l, asgT, asgTs, Option.bind_some, ↓reduceIte, List.length_cons, List.length_nil]); (try exact rfl); done) | with_reducible exact v_yesneg | with_reducible exact q_nes | with_reducible exact q_eqs | with_reducible exact v_nat | with_reducible exact v_neg | with_reducible exact v_bl | with_reducible exact v_non | with_reducible exact v_str | with_reducible exact ds_nil | with_reducible exact os_nil | with_reducible exact part_no | with_reducible exact q_net0 | with_reducible exact q_net1 | with_reducible exact o_add | with_reducible exact o_min | with_reducible exact o_max | with_reducible exact o_eq | with_reducible exact o_ne | with_reducible exact o_lt | with_reducible exact o_le | with_reducible exact o_gt | with_reducible exact o_ge | with_reducible exact q_lenN | with_reducible exact q_lenU | with_reducible exact q_lenS | with_reducible exact q_lenM | with_reducible exact q_lenMT | with_reducible exact q_lenL | with_reducible exact q_lenT | with_reducible exact q_tupN | with_reducible exact q_tupU | with_reducible exact q_lstN | with_reducible exact q_lstU | with_reducible exact q_tupL | with_reducible exact q_tupT | with_reducible exact q_lstL | with_reducible exact q_lstT | with_reducible exact q_int | with_reducible exact q_isT | ((with_reducible apply v_var); apply Rd.mk; (try dsimp only [vals_n, vals_x, vals_v, bk_c, bk_d, pb_x, pb_v, pb_n, view_x, view_v, viewV_d, viewV_c, settle_d, settle_c, get_z, get_s, set_z, set_s, ka_n, ka_s, re_n, re_s, seqOf_t, seqOf_l, asgT, asgTs, Option.bind_some, ↓reduceIte, List.length_cons, List.length_nil]); (try with_reducible exact rfl); done) | ((with_reducible apply v_mv); apply Rd.mk; (try dsimp only [vals_n, vals_x, vals_v, bk_c, bk_d, pb_x, pb_v, pb_n, view_x, view_v, viewV_d, viewV_c, settle_d, settle_c, get_z, get_s, set_z, set_s, ka_n, ka_s, re_n, re_s, seqOf_t, seqOf_l, asgT, asgTs, Option.bind_some, ↓reduceIte, List.length_cons, List.length_nil]); (try with_reducible exact rfl); done) | ((with_reducible apply v_opx); exact Rf.mk rfl) | with_reducible apply v_fr | with_reducible apply v_mvc | with_reducible apply v_o2 | with_reducible apply v_o1 | with_reducible apply v_call | with_reducible apply v_da | with_reducible apply v_opv | with_reducible apply v_lst | with_reducible apply v_tup | with_reducible apply ds_cons | with_reducible apply os_cons | with_reducible apply v_app | with_reducible apply v_not | with_reducible apply v_tor | with_reducible apply v_tand | with_reducible apply v_tnot | with_reducible apply v_te | with_reducible apply v_slice | with_reducible apply v_yesn | with_reducible apply v_chain | with_reducible apply v_seq | with_reducible apply v_r1 | with_reducible apply v_r1m | with_reducible apply v_enT | with_reducible apply v_enL | with_reducible apply v_ofl | with_reducible apply v_oftr | with_reducible apply v_oft | with_reducible apply o_mul | with_reducible apply o_sub | with_reducible apply o_mod | with_reducible apply o_div | with_reducible apply o_shr | with_reducible apply idx_nat | with_reducible apply q_idx2 | with_reducible apply q_idx3 | with_reducible apply q_idx4 | with_reducible apply q_idx5 | with_reducible apply q_idx6 | with_reducible apply q_idx7 | with_reducible apply q_repr | with_reducible apply idx_natL | with_reducible assumption | omega)) (by (repeat' first | exact Rf.mk rfl | (apply Rd.mk; (try dsimp only [vals_n, vals_x, vals_v, bk_c, bk_d, pb_x, pb_v, pb_n, view_x, view_v, viewV_d, viewV_c, settle_d, settle_c, get_z, get_s, set_z, set_s, ka_n, ka_s, re_n, re_s, seqOf_t, seqOf_l, asgT, asgTs, Option.bind_some, ↓reduceIte, List.length_cons, List.length_nil]); (try exact rfl); done) | with_reducible exact v_yesneg | with_reducible exact q_nes | with_reducible exact q_eqs | with_reducible exact v_nat | with_reducible exact v_neg | with_reducible exact v_bl | with_reducible exact v_non | with_reducible exact v_str | with_reducible exact ds_nil | with_reducible exact os_nil | with_reducible exact part_no | with_reducible exact q_net0 | with_reducible exact q_net1 | with_reducible exact o_add | with_reducible exact o_min | with_reducible exact o_max | with_reducible exact o_eq | with_reducible exact o_ne | with_reducible exact o_lt | with_reducible exact o_le | with_reducible exact o_gt | with_reducible exact o_ge | with_reducible exact q_lenN | with_reducible exact q_lenU | with_reducible exact q_lenS | with_reducible exact q_lenM | with_reducible exact q_lenMT | with_reducible exact q_lenL | with_reducible exact q_lenT | with_reducible exact q_tupN | with_reducible exact q_tupU | with_reducible exact q_lstN | with_reducible exact q_lstU | with_reducible exact q_tupL | with_reducible exact q_tupT | with_reducible exact q_lstL | with_reducible exact q_lstT | with_reducible exact q_int | with_reducible exact q_isT | ((with_reducible apply v_var); apply Rd.mk; (try dsimp only [vals_n, vals_x, vals_v, bk_c, bk_d, pb_x, pb_v, pb_n, view_x, view_v, viewV_d, viewV_c, settle_d, settle_c, get_z, get_s, set_z, set_s, ka_n, ka_s, re_n, re_s, seqOf_t, seqOf_l, asgT, asgTs, Option.bind_some, ↓reduceIte, List.length_cons, List.length_nil]); (try with_reducible exact rfl); done) | ((with_reducible apply v_mv); apply Rd.mk; (try dsimp only [vals_n, vals_x, vals_v, bk_c, bk_d, pb_x, pb_v, pb_n, view_x, view_v, viewV_d, viewV_c, settle_d, settle_c, get_z, get_s, set_z, set_s, ka_n, ka_s, re_n, re_s, seqOf_t, seqOf_l, asgT, asgTs, Option.bind_some, ↓reduceIte, List.length_cons, List.length_nil]); (try with_reducible exact rfl); done) | ((with_reducible apply v_opx); exact Rf.mk rfl) | with_reducible apply v_fr | with_reducible apply v_mvc | with_reducible apply v_o2 | with_reducible apply v_o1 | with_reducible apply v_call | with_reducible apply v_da | with_reducible apply v_opv | with_reducible apply v_lst | with_reducible apply v_tup | with_reducible apply ds_cons | with_reducible apply os_cons | with_reducible apply v_app | with_reducible apply v_not | with_reducible apply v_tor | with_reducible apply v_tand | with_reducible apply v_tnot | with_reducible apply v_te | with_reducible apply v_slice | with_reducible apply v_yesn | with_reducible apply v_chain | with_reducible apply v_seq | with_reducible apply v_r1 | with_reducible apply v_r1m | with_reducible apply v_enT | with_reducible apply v_enL | with_reducible apply v_ofl | with_reducible apply v_oftr | with_reducible apply v_oft | with_reducible apply o_mul | with_reducible apply o_sub | with_reducible apply o_mod | with_reducible apply o_div | with_reducible apply o_shr | with_reducible apply idx_nat | with_reducible apply q_idx2 | with_reducible apply q_idx3 | with_reducible apply q_idx4 | with_reducible apply q_idx5 | with_reducible apply q_idx6 | with_reducible apply q_idx7 | with_reducible apply q_repr | with_reducible apply idx_natL | with_reducible assumption | omega)) ?_
  refine wp_if1 (by (repeat' first | exact Rf.mk rfl | (apply Rd.mk; (try dsimp only [vals_n, vals_x, vals_v, bk_c, bk_d, pb_x, pb_v, pb_n, view_x, view_v, viewV_d, viewV_c, settle_d, settle_c, get_z, get_s, set_z, set_s, ka_n, ka_s, re_n, re_s, seqOf_t, seqOf_l, asgT, asgTs, Option.bind_some, ↓reduceIte, List.length_cons, List.length_nil]); (try exact rfl); done) | with_reducible exact v_yesneg | with_reducible exact q_nes | with_reducible exact q_eqs | with_reducible exact v_nat | with_reducible exact v_neg | with_reducible exact v_bl | with_reducible exact v_non | with_reducible exact v_str | with_reducible exact ds_nil | with_reducible exact os_nil | with_reducible exact part_no | with_reducible exact q_net0 | with_reducible exact q_net1 | with_reducible exact o_add | with_reducible exact o_min | with_reducible exact o_max | with_reducible exact o_eq | with_reducible exact o_ne | with_reducible exact o_lt | with_reducible exact o_le | with_reducible exact o_gt | with_reducible exact o_ge | with_reducible exact q_lenN | with_reducible exact q_lenU | with_reducible exact q_lenS | with_reducible exact q_lenM | with_reducible exact q_lenMT | with_reducible exact q_lenL | with_reducible exact q_lenT | with_reducible exact q_tupN | with_reducible exact q_tupU | with_reducible exact q_lstN | with_reducible exact q_lstU | with_reducible exact q_tupL | with_reducible exact q_tupT | with_reducible exact q_lstL | with_reducible exact q_lstT | with_reducible exact q_int | with_reducible exact q_isT | ((with_reducible apply v_var); apply Rd.mk; (try dsimp only [vals_n, vals_x, vals_v, bk_c, bk_d, pb_x, pb_v, pb_n, view_x, view_v, viewV_d, viewV_c, settle_d, settle_c, get_z, get_s, set_z, set_s, ka_n, ka_s, re_n, re_s, seqOf_t, seqOf_l, asgT, asgTs, Option.bind_some, ↓reduceIte, List.length_cons, List.length_nil]); (try with_reducible exact rfl); done) | ((with_reducible apply v_mv); apply Rd.mk; (try dsimp only [vals_n, vals_x, vals_v, bk_c, bk_d, pb_x, pb_v, pb_n, view_x, view_v, viewV_d, viewV_c, settle_d, settle_c, get_z, get_s, set_z, set_s, ka_n, ka_s, re_n, re_s, seqOf_t, seqOf_l, asgT, asgTs, Option.bind_some, ↓reduceIte, List.length_cons, List.length_nil]); (try with_reducible exact rfl); done) | ((with_reducible apply v_opx); exact Rf.mk rfl) | with_reducible apply v_fr | with_reducible apply v_mvc | with_reducible apply v_o2 | with_reducible apply v_o1 | with_reducible apply v_call | with_reducible apply v_da | with_reducible apply v_opv | with_reducible apply v_lst | with_reducible apply v_tup | with_reducible apply ds_cons | with_reducible apply os_cons | with_reducible apply v_app | with_reducible apply v_not | with_reducible apply v_tor | with_reducible apply v_tand | with_reducible apply v_tnot | with_reducible apply v_te | with_reducible apply v_slice | with_reducible apply v_yesn | with_reducible apply v_chain | with_reducible apply v_seq | with_reducible apply v_r1 | with_reducible apply v_r1m | with_reducible apply v_enT | with_reducible apply v_enL | with_reducible apply v_ofl | with_reducible apply v_oftr | with_reducible apply v_oft | with_reducible apply o_mul | with_reducible apply o_sub | with_reducible apply o_mod | with_reducible apply o_div | with_reducible apply o_shr | with_reducible apply idx_nat | with_reducible apply q_idx2 | with_reducible apply q_idx3 | with_reducible apply q_idx4 | with_reducible apply q_idx5 | with_reducible apply q_idx6 | with_reducible apply q_idx7 | with_reducible apply q_repr | with_reducible apply idx_natL | with_reducible assumption | omega)) (fun hb => ?_) fun hb => ?_
  · have hb : j < ss.length := by simpa using hb
    refine u_asg (by (repeat' first | exact Rf.mk rfl | (apply Rd.mk; (try dsimp only [vals_n, vals_x, vals_v, bk_c, bk_d, pb_x, pb_v, pb_n, view_x, view_v, viewV_d, viewV_c, settle_d, settle_c, get_z, get_s, set_z, set_s, ka_n, ka_s, re_n, re_s, seqOf_t, seqOf_l, asgT, asgTs, Option.bind_some, ↓reduceIte, List.length_cons, List.length_nil]); (try exact rfl); done) | with_reducible exact idx_st hb | with_reducible exact v_yesneg | with_reducible exact q_nes | with_reducible exact q_eqs | with_reducible exact v_nat | with_reducible exact v_neg | with_reducible exact v_bl | with_reducible exact v_non | with_reducible exact v_str | with_reducible exact ds_nil | with_reducible exact os_nil | with_reducible exact part_no | with_reducible exact q_net0 | with_reducible exact q_net1 | with_reducible exact o_add | with_reducible exact o_min | with_reducible exact o_max | with_reducible exact o_eq | with_reducible exact o_ne | with_reducible exact o_lt | with_reducible exact o_le | with_reducible exact o_gt | with_reducible exact o_ge | with_reducible exact q_lenN | with_reducible exact q_lenU | with_reducible exact q_lenS | with_reducible exact q_lenM | with_reducible exact q_lenMT | with_reducible exact q_lenL | with_reducible exact q_lenT | with_reducible exact q_tupN | with_reducible exact q_tupU | with_reducible exact q_lstN | with_reducible exact q_lstU | with_reducible exact q_tupL | with_reducible exact q_tupT | with_reducible exact q_lstL | with_reducible exact q_lstT | with_reducible exact q_int | with_reducible exact q_isT | ((with_reducible apply v_var); apply Rd.mk; (try dsimp only [vals_n, vals_x, vals_v, bk_c, bk_d, pb_x, pb_v, pb_n, view_x, view_v, viewV_d, viewV_c, settle_d, settle_c, get_z, get_s, set_z, set_s, ka_n, ka_s, re_n, re_s, seqOf_t, seqOf_l, asgT, asgTs, Option.bind_some, ↓reduceIte, List.length_cons, List.length_nil]); (try with_reducible exact rfl); done) | ((with_reducible apply v_mv); apply Rd.mk; (try dsimp only [vals_n, vals_x, vals_v, bk_c, bk_d, pb_x, pb_v, pb_n, view_x, view_v, viewV_d, viewV_c, settle_d, settle_c, get_z, get_s, set_z, set_s, ka_n, ka_s, re_n, re_s, seqOf_t, seqOf_l, asgT, asgTs, Option.bind_some, ↓reduceIte, List.length_cons, List.length_nil]); (try with_reducible exact rfl); done) | ((with_reducible apply v_opx); exact Rf.mk rfl) | with_reducible apply v_fr | with_reducible apply v_mvc | with_reducible apply v_o2 | with_reducible apply v_o1 | with_reducible apply v_call | with_reducible apply v_da | with_reducible apply v_opv | with_reducible apply v_lst | with_reducible apply v_tup | with_reducible apply ds_cons | with_reducible apply os_cons | with_reducible apply v_app | with_reducible apply v_not | with_reducible apply v_tor | with_reducible apply v_tand | with_reducible apply v_tnot | with_reducible apply v_te | with_reducible apply v_slice | with_reducible apply v_yesn | with_reducible apply v_chain | with_reducible apply v_seq | with_reducible apply v_r1 | with_reducible apply v_r1m | with_reducible apply v_enT | with_reducible apply v_enL | with_reducible apply v_ofl | with_reducible apply v_oftr | with_reducible apply v_oft | with_reducible apply o_mul | with_reducible apply o_sub | with_reducible apply o_mod | with_reducible apply o_div | with_reducible apply o_shr | with_reducible apply idx_nat | with_reducible apply q_idx2 | with_reducible apply q_idx3 | with_reducible apply q_idx4 | with_reducible apply q_idx5 | with_reducible apply q_idx6 | with_reducible apply q_idx7 | with_reducible apply q_repr | with_reducible apply idx_natL | with_reducible assumption | omega)) (by (repeat' first | exact Rf.mk rfl | (apply Rd.mk; (try dsimp only [vals_n, vals_x, vals_v, bk_c, bk_d, pb_x, pb_v, pb_n, view_x, view_v, viewV_d, viewV_c, settle_d, settle_c, get_z, get_s, set_z, set_s, ka_n, ka_s, re_n, re_s, seqOf_t, seqOf_l, asgT, asgTs, Option.bind_some, ↓reduceIte, List.length_cons, List.length_nil]); (try exact rfl); done) | with_reducible exact v_yesneg | with_reducible exact q_nes | with_reducible exact q_eqs | with_reducible exact v_nat | with_reducible exact v_neg | with_reducible exact v_bl | with_reducible exact v_non | with_reducible exact v_str | with_reducible exact ds_nil | with_reducible exact os_nil | with_reducible exact part_no | with_reducible exact q_net0 | with_reducible exact q_net1 | with_reducible exact o_add | with_reducible exact o_min | with_reducible exact o_max | with_reducible exact o_eq | with_reducible exact o_ne | with_reducible exact o_lt | with_reducible exact o_le | with_reducible exact o_gt | with_reducible exact o_ge | with_reducible exact q_lenN | with_reducible exact q_lenU | with_reducible exact q_lenS | with_reducible exact q_lenM | with_reducible exact q_lenMT | with_reducible exact q_lenL | with_reducible exact q_lenT | with_reducible exact q_tupN | with_reducible exact q_tupU | with_reducible exact q_lstN | with_reducible exact q_lstU | with_reducible exact q_tupL | with_reducible exact q_tupT | with_reducible exact q_lstL | with_reducible exact q_lstT | with_reducible exact q_int | with_reducible exact q_isT | ((with_reducible apply v_var); apply Rd.mk; (try dsimp only [vals_n, vals_x, vals_v, bk_c, bk_d, pb_x, pb_v, pb_n, view_x, view_v, viewV_d, viewV_c, settle_d, settle_c, get_z, get_s, set_z, set_s, ka_n, ka_s, re_n, re_s, seqOf_t, seqOf_l, asgT, asgTs, Option.bind_some, ↓reduceIte, List.length_cons, List.length_nil]); (try with_reducible exact rfl); done) | ((with_reducible apply v_mv); apply Rd.mk; (try dsimp only [vals_n, vals_x, vals_v, bk_c, bk_d, pb_x, pb_v, pb_n, view_x, view_v, viewV_d, viewV_c, settle_d, settle_c, get_z, get_s, set_z, set_s, ka_n, ka_s, re_n, re_s, seqOf_t, seqOf_l, asgT, asgTs, Option.bind_some, ↓reduceIte, List.length_cons, List.length_nil]); (try with_reducible exact rfl); done) | ((with_reducible apply v_opx); exact Rf.mk rfl) | with_reducible apply v_fr | with_reducible apply v_mvc | with_reducible apply v_o2 | with_reducible apply v_o1 | with_reducible apply v_call | with_reducible apply v_da | with_reducible apply v_opv | with_reducible apply v_lst | with_reducible apply v_tup | with_reducible apply ds_cons | with_reducible apply os_cons | with_reducible apply v_app | with_reducible apply v_not | with_reducible apply v_tor | with_reducible apply v_tand | with_reducible apply v_tnot | with_reducible apply v_te | with_reducible apply v_slice | with_reducible apply v_yesn | with_reducible apply v_chain | with_reducible apply v_seq | with_reducible apply v_r1 | with_reducible apply v_r1m | with_reducible apply v_enT | with_reducible apply v_enL | with_reducible apply v_ofl | with_reducible apply v_oftr | with_reducible apply v_oft | with_reducible apply o_mul | with_reducible apply o_sub | with_reducible apply o_mod | with_reducible apply o_div | with_reducible apply o_shr | with_reducible apply idx_nat | with_reducible apply q_idx2 | with_reducible apply q_idx3 | with_reducible apply q_idx4 | with_reducible apply q_idx5 | with_reducible apply q_idx6 | with_reducible apply q_idx7 | with_reducible apply q_repr | with_reducible apply idx_natL | with_reducible assumption | omega)) (wp_nil ?_)
    exact mid
  · have hb : ¬ j < ss.length := by simpa using hb
    have e : ss.getD j [] = [] := gd_none hb
    rw [e] at mid
    exact mid
theorem sh0 (st : St) : sh 0 st = st := by
  unfold sh
  exact (List.map_congr_left fun p _ => rfl).trans (List.map_id st)
theorem lastW (ss : List St) (wss : List (List Nat)) (w : Nat) : op2 .idx (tupN (w :: pathT ss wss w)) (.int (-1)) = some (.d (natD (endp ss wss w))) := by
  obtain ⟨pre, h⟩ := path_last ss wss w
  exact idx_last (by rw [← h]; rfl)
theorem v_ite {φ : Orc} {a b : E} {e e1 : Sw.Env} {x : D} (h : daW (evalE φ a) e = .ok (x, e1)) (ht : truth x = some true) : evalE φ (.or a b) e = .ok (.d x, e1) := by
  rw [evalE]
  refine (bind2 h).trans ?_
  simp only [ht]
theorem v_orF {φ : Orc} {a b : E} {e e1 : Sw.Env} {x : D} {r : Sw.R (V × Sw.Env)} (h : daW (evalE φ a) e = .ok (x, e1)) (ht : truth x = some false) (h2 : evalE φ b e1 = r) : evalE φ (.or a b) e = r := by
  rw [evalE]
  refine (bind2 h).trans ?_
  simp only [ht]
  exact h2
theorem cut_one {xs : List D} {j : Nat} : cut xs (some (j : Int)) (some ((j + 1 : Nat) : Int)) = (xs.drop j).take 1 := by
  unfold cut
  rw [cutIx_nat, cutIx_nat]
  by_cases h : j < xs.length
  · rw [Nat.min_eq_left (by omega), Nat.min_eq_left (by omega), Nat.add_sub_cancel_left]
  · rw [Nat.min_eq_right (by omega), Nat.min_eq_right (by omega), Nat.sub_self, List.take_zero, List.drop_of_length_le (by omega)]; rfl
theorem or_ok {φ : Orc} {i : Nat} {e : Sw.Env} {wss : List (List Nat)} {j : Nat} (h1 : Sw.get e i = .d (setP wss)) (h3 : Sw.get e 3 = .d (natD j)) : evalE φ (.o2 .idx (.or (.slice (.var i) (.yes (.var 3)) (.yes (.o2 .add (.var 3) (.int 1)))) (.tup (.cons (.tup .nil) .nil))) (.int 0)) e = .ok (.d (tupN (row wss j)), e) := by
  have q0 : daW (evalE φ (.var 3)) e = .ok (natD j, e) := da_var h3
  have q1 : daW (evalE φ (.o2 .add (.var 3) (.int 1))) e = .ok (natD (j + 1), e) := da_of (o2_eval (op_var (by rw [h3]; rfl)) (op_v rfl v_nat) (x := natD j) (y := natD 1) (by show viewV (Sw.get e 3) = _; rw [h3]; rfl) rfl o_add) rfl
  have sl : evalE φ (.slice (.var i) (.yes (.var 3)) (.yes (.o2 .add (.var 3) (.int 1)))) e = .ok (.d (.tuple (((wss.map tupN).drop j).take 1)), e) := by
    refine slice_ev (op_var (by rw [h1]; rfl)) (part_yes (i := (j : Int)) q0) (part_yes (i := ((j + 1 : Nat) : Int)) q1) (x := setP wss) (by show viewV (Sw.get e i) = _; rw [h1]; rfl) ?_
    show some (V.d (.tuple (cut (wss.map tupN) _ _))) = _
    rw [cut_one]
  have fin : ∃ xs : List D, evalE φ (.or (.slice (.var i) (.yes (.var 3)) (.yes (.o2 .add (.var 3) (.int 1)))) (.tup (.cons (.tup .nil) .nil))) e = .ok (.d (.tuple (tupN (row wss j) :: xs)), e) := by
    by_cases h : j < wss.length
    · refine ⟨[], ?_⟩
      have e1 : ((wss.map tupN).drop j).take 1 = [tupN (row wss j)] := by
        have h' : j < (wss.map tupN).length := by rw [List.length_map]; exact h
        rw [List.drop_eq_getElem_cons h']
        show [(wss.map tupN)[j]'h'] = _
        rw [List.getElem_map]
        unfold row
        rw [List.getD_eq_getElem?_getD, List.getElem?_eq_getElem h]; rfl
      rw [e1] at sl
      exact v_ite (da_of sl rfl) rfl
    · refine ⟨[], ?_⟩
      have e1 : ((wss.map tupN).drop j).take 1 = [] := by rw [List.drop_of_length_le (by rw [List.length_map]; omega)]; rfl
      rw [e1] at sl
      have e2 : row wss j = [] := gd_none h
      rw [e2]
      exact v_orF (da_of sl rfl) rfl (by (repeat' first | exact Rf.mk rfl | (apply Rd.mk; (try dsimp only [vals_n, vals_x, vals_v, bk_c, bk_d, pb_x, pb_v, pb_n, view_x, view_v, viewV_d, viewV_c, settle_d, settle_c, get_z, get_s, set_z, set_s, ka_n, ka_s, re_n, re_s, seqOf_t, seqOf_l, asgT, asgTs, Option.bind_some, ↓reduceIte, List.length_cons, List.length_nil]); (try exact rfl); done) | with_reducible exact v_yesneg | with_reducible exact q_nes | with_reducible exact q_eqs | with_reducible exact v_nat | with_reducible exact v_neg | with_reducible exact v_bl | with_reducible exact v_non | with_reducible exact v_str | with_reducible exact ds_nil | with_reducible exact os_nil | with_reducible exact part_no | with_reducible exact q_net0 | with_reducible exact q_net1 | with_reducible exact o_add | with_reducible exact o_min | with_reducible exact o_max | with_reducible exact o_eq | with_reducible exact o_ne | with_reducible exact o_lt | with_reducible exact o_le | with_reducible exact o_gt | with_reducible exact o_ge | with_reducible exact q_lenN | with_reducible exact q_lenU | with_reducible exact q_lenS | with_reducible exact q_lenM | with_reducible exact q_lenMT | with_reducible exact q_lenL | with_reducible exact q_lenT | with_reducible exact q_tupN | with_reducible exact q_tupU | with_reducible exact q_lstN | with_reducible exact q_lstU | with_reducible exact q_tupL | with_reducible exact q_tupT | with_reducible exact q_lstL | with_reducible exact q_lstT | with_reducible exact q_int | with_reducible exact q_isT | ((with_reducible apply v_var); apply Rd.mk; (try dsimp only [vals_n, vals_x, vals_v, bk_c, bk_d, pb_x, pb_v, pb_n, view_x, view_v, viewV_d, viewV_c, settle_d, settle_c, get_z, get_s, set_z, set_s, ka_n, ka_s, re_n, re_s, seqOf_t, seqOf_l, asgT, asgTs, Option.bind_some, ↓reduceIte, List.length_cons, List.length_nil]); (try with_reducible exact rfl); done) | ((with_reducible apply v_mv); apply Rd.mk; (try dsimp only [vals_n, vals_x, vals_v, bk_c, bk_d, pb_x, pb_v, pb_n, view_x, view_v, viewV_d, viewV_c, settle_d, settle_c, get_z, get_s, set_z, set_s, ka_n, ka_s, re_n, re_s, seqOf_t, seqOf_l, asgT, asgTs, Option.bind_some, ↓reduceIte, List.length_cons, List.length_nil]); (try with_reducible exact rfl); done) | ((with_reducible apply v_opx); exact Rf.mk rfl) | with_reducible apply v_fr | with_reducible apply v_mvc | with_reducible apply v_o2 | with_reducible apply v_o1 | with_reducible apply v_call | with_reducible apply v_da | with_reducible apply v_opv | with_reducible apply v_lst | with_reducible apply v_tup | with_reducible apply ds_cons | with_reducible apply os_cons | with_reducible apply v_app | with_reducible apply v_not | with_reducible apply v_tor | with_reducible apply v_tand | with_reducible apply v_tnot | with_reducible apply v_te | with_reducible apply v_slice | with_reducible apply v_yesn | with_reducible apply v_chain | with_reducible apply v_seq | with_reducible apply v_r1 | with_reducible apply v_r1m | with_reducible apply v_enT | with_reducible apply v_enL | with_reducible apply v_ofl | with_reducible apply v_oftr | with_reducible apply v_oft | with_reducible apply o_mul | with_reducible apply o_sub | with_reducible apply o_mod | with_reducible apply o_div | with_reducible apply o_shr | with_reducible apply idx_nat | with_reducible apply q_idx2 | with_reducible apply q_idx3 | with_reducible apply q_idx4 | with_reducible apply q_idx5 | with_reducible apply q_idx6 | with_reducible apply q_idx7 | with_reducible apply q_repr | with_reducible apply idx_natL | with_reducible assumption | omega))
  obtain ⟨xs, hx⟩ := fin
  exact o2_eval (op_v rfl hx) (op_v rfl v_nat) rfl rfl (idx_tup (i := 0) rfl)
theorem ways_ok (n : Nat) {T : Tab} {fw : String} (hWy : T fw = some b_law_ways) {wss vss : List (List Nat)} (hl : wss.length ≤ 1000) (hl2 : vss.length ≤ 1000) (h1 : ∀ j, (row wss j).length ≤ 1000) (h2 : ∀ j, (row vss j).length ≤ 1000) : ∃ (x y : V), callF T (n + 1) fw [.d (setP wss), .d (setP vss)] = .ok (.d (setP (bew wss vss)), [x, y]) ∧ True := by
  suffices h : ∃ v outs, callF T (n + 1) fw [.d (setP wss), .d (setP vss)] = .ok (v, outs) ∧ ∃ (x y : V), v = .d (setP (bew wss vss)) ∧ outs = [x, y] ∧ True by
    obtain ⟨v, outs, h, x, y, rfl, rfl, hp⟩ := h
    exact ⟨x, y, h, hp⟩
  refine call_wp (fun v outs => ∃ (x y : V), v = .d (setP (bew wss vss)) ∧ outs = [x, y] ∧ True) (fd := b_law_ways) hWy rfl ?_
  refine (show Wp _ (Sw.execs (callF T n) b_law_ways.body [.d (setP wss), .d (setP vss), .u, .u]) from ?_)
  simp only [b_law_ways, Ss.of, Es.of]
  have blen := bew_len wss vss
  refine u_asg (by (repeat' first | exact Rf.mk rfl | (apply Rd.mk; (try dsimp only [vals_n, vals_x, vals_v, bk_c, bk_d, pb_x, pb_v, pb_n, view_x, view_v, viewV_d, viewV_c, settle_d, settle_c, get_z, get_s, set_z, set_s, ka_n, ka_s, re_n, re_s, seqOf_t, seqOf_l, asgT, asgTs, Option.bind_some, ↓reduceIte, List.length_cons, List.length_nil]); (try exact rfl); done) | with_reducible exact v_yesneg | with_reducible exact q_nes | with_reducible exact q_eqs | with_reducible exact v_nat | with_reducible exact v_neg | with_reducible exact v_bl | with_reducible exact v_non | with_reducible exact v_str | with_reducible exact ds_nil | with_reducible exact os_nil | with_reducible exact part_no | with_reducible exact q_net0 | with_reducible exact q_net1 | with_reducible exact o_add | with_reducible exact o_min | with_reducible exact o_max | with_reducible exact o_eq | with_reducible exact o_ne | with_reducible exact o_lt | with_reducible exact o_le | with_reducible exact o_gt | with_reducible exact o_ge | with_reducible exact q_lenN | with_reducible exact q_lenU | with_reducible exact q_lenS | with_reducible exact q_lenM | with_reducible exact q_lenMT | with_reducible exact q_lenL | with_reducible exact q_lenT | with_reducible exact q_tupN | with_reducible exact q_tupU | with_reducible exact q_lstN | with_reducible exact q_lstU | with_reducible exact q_tupL | with_reducible exact q_tupT | with_reducible exact q_lstL | with_reducible exact q_lstT | with_reducible exact q_int | with_reducible exact q_isT | ((with_reducible apply v_var); apply Rd.mk; (try dsimp only [vals_n, vals_x, vals_v, bk_c, bk_d, pb_x, pb_v, pb_n, view_x, view_v, viewV_d, viewV_c, settle_d, settle_c, get_z, get_s, set_z, set_s, ka_n, ka_s, re_n, re_s, seqOf_t, seqOf_l, asgT, asgTs, Option.bind_some, ↓reduceIte, List.length_cons, List.length_nil]); (try with_reducible exact rfl); done) | ((with_reducible apply v_mv); apply Rd.mk; (try dsimp only [vals_n, vals_x, vals_v, bk_c, bk_d, pb_x, pb_v, pb_n, view_x, view_v, viewV_d, viewV_c, settle_d, settle_c, get_z, get_s, set_z, set_s, ka_n, ka_s, re_n, re_s, seqOf_t, seqOf_l, asgT, asgTs, Option.bind_some, ↓reduceIte, List.length_cons, List.length_nil]); (try with_reducible exact rfl); done) | ((with_reducible apply v_opx); exact Rf.mk rfl) | with_reducible apply v_fr | with_reducible apply v_mvc | with_reducible apply v_o2 | with_reducible apply v_o1 | with_reducible apply v_call | with_reducible apply v_da | with_reducible apply v_opv | with_reducible apply v_lst | with_reducible apply v_tup | with_reducible apply ds_cons | with_reducible apply os_cons | with_reducible apply v_app | with_reducible apply v_not | with_reducible apply v_tor | with_reducible apply v_tand | with_reducible apply v_tnot | with_reducible apply v_te | with_reducible apply v_slice | with_reducible apply v_yesn | with_reducible apply v_chain | with_reducible apply v_seq | with_reducible apply v_r1 | with_reducible apply v_r1m | with_reducible apply v_enT | with_reducible apply v_enL | with_reducible apply v_ofl | with_reducible apply v_oftr | with_reducible apply v_oft | with_reducible apply o_mul | with_reducible apply o_sub | with_reducible apply o_mod | with_reducible apply o_div | with_reducible apply o_shr | with_reducible apply idx_nat | with_reducible apply q_idx2 | with_reducible apply q_idx3 | with_reducible apply q_idx4 | with_reducible apply q_idx5 | with_reducible apply q_idx6 | with_reducible apply q_idx7 | with_reducible apply q_repr | with_reducible apply idx_natL | with_reducible assumption | omega)) (by (repeat' first | exact Rf.mk rfl | (apply Rd.mk; (try dsimp only [vals_n, vals_x, vals_v, bk_c, bk_d, pb_x, pb_v, pb_n, view_x, view_v, viewV_d, viewV_c, settle_d, settle_c, get_z, get_s, set_z, set_s, ka_n, ka_s, re_n, re_s, seqOf_t, seqOf_l, asgT, asgTs, Option.bind_some, ↓reduceIte, List.length_cons, List.length_nil]); (try exact rfl); done) | with_reducible exact v_yesneg | with_reducible exact q_nes | with_reducible exact q_eqs | with_reducible exact v_nat | with_reducible exact v_neg | with_reducible exact v_bl | with_reducible exact v_non | with_reducible exact v_str | with_reducible exact ds_nil | with_reducible exact os_nil | with_reducible exact part_no | with_reducible exact q_net0 | with_reducible exact q_net1 | with_reducible exact o_add | with_reducible exact o_min | with_reducible exact o_max | with_reducible exact o_eq | with_reducible exact o_ne | with_reducible exact o_lt | with_reducible exact o_le | with_reducible exact o_gt | with_reducible exact o_ge | with_reducible exact q_lenN | with_reducible exact q_lenU | with_reducible exact q_lenS | with_reducible exact q_lenM | with_reducible exact q_lenMT | with_reducible exact q_lenL | with_reducible exact q_lenT | with_reducible exact q_tupN | with_reducible exact q_tupU | with_reducible exact q_lstN | with_reducible exact q_lstU | with_reducible exact q_tupL | with_reducible exact q_tupT | with_reducible exact q_lstL | with_reducible exact q_lstT | with_reducible exact q_int | with_reducible exact q_isT | ((with_reducible apply v_var); apply Rd.mk; (try dsimp only [vals_n, vals_x, vals_v, bk_c, bk_d, pb_x, pb_v, pb_n, view_x, view_v, viewV_d, viewV_c, settle_d, settle_c, get_z, get_s, set_z, set_s, ka_n, ka_s, re_n, re_s, seqOf_t, seqOf_l, asgT, asgTs, Option.bind_some, ↓reduceIte, List.length_cons, List.length_nil]); (try with_reducible exact rfl); done) | ((with_reducible apply v_mv); apply Rd.mk; (try dsimp only [vals_n, vals_x, vals_v, bk_c, bk_d, pb_x, pb_v, pb_n, view_x, view_v, viewV_d, viewV_c, settle_d, settle_c, get_z, get_s, set_z, set_s, ka_n, ka_s, re_n, re_s, seqOf_t, seqOf_l, asgT, asgTs, Option.bind_some, ↓reduceIte, List.length_cons, List.length_nil]); (try with_reducible exact rfl); done) | ((with_reducible apply v_opx); exact Rf.mk rfl) | with_reducible apply v_fr | with_reducible apply v_mvc | with_reducible apply v_o2 | with_reducible apply v_o1 | with_reducible apply v_call | with_reducible apply v_da | with_reducible apply v_opv | with_reducible apply v_lst | with_reducible apply v_tup | with_reducible apply ds_cons | with_reducible apply os_cons | with_reducible apply v_app | with_reducible apply v_not | with_reducible apply v_tor | with_reducible apply v_tand | with_reducible apply v_tnot | with_reducible apply v_te | with_reducible apply v_slice | with_reducible apply v_yesn | with_reducible apply v_chain | with_reducible apply v_seq | with_reducible apply v_r1 | with_reducible apply v_r1m | with_reducible apply v_enT | with_reducible apply v_enL | with_reducible apply v_ofl | with_reducible apply v_oftr | with_reducible apply v_oft | with_reducible apply o_mul | with_reducible apply o_sub | with_reducible apply o_mod | with_reducible apply o_div | with_reducible apply o_shr | with_reducible apply idx_nat | with_reducible apply q_idx2 | with_reducible apply q_idx3 | with_reducible apply q_idx4 | with_reducible apply q_idx5 | with_reducible apply q_idx6 | with_reducible apply q_idx7 | with_reducible apply q_repr | with_reducible apply idx_natL | with_reducible assumption | omega)) ?_
  have le : ∀ (i : Nat) (us : List (List Nat)) (e : Sw.Env), Sw.get e i = .d (setP us) → evalE (callF T n) (.o1 .len (.var i)) e = .ok (.d (natD us.length), e) := fun i us e h => o1_eval (op_var (by rw [h]; rfl)) (x := setP us) (by show viewV (Sw.get e i) = _; rw [h]; rfl) q_lenMT
  have l1 := le 0 wss [.d (setP wss), .d (setP vss), .c [], .u] rfl
  have l2 := le 1 vss [.d (setP wss), .d (setP vss), .c [], .u] rfl
  refine wp_forN (m := max wss.length vss.length) (by (repeat' first | exact Rf.mk rfl | (apply Rd.mk; (try dsimp only [vals_n, vals_x, vals_v, bk_c, bk_d, pb_x, pb_v, pb_n, view_x, view_v, viewV_d, viewV_c, settle_d, settle_c, get_z, get_s, set_z, set_s, ka_n, ka_s, re_n, re_s, seqOf_t, seqOf_l, asgT, asgTs, Option.bind_some, ↓reduceIte, List.length_cons, List.length_nil]); (try exact rfl); done) | with_reducible exact l1 | with_reducible exact l2 | with_reducible exact v_yesneg | with_reducible exact q_nes | with_reducible exact q_eqs | with_reducible exact v_nat | with_reducible exact v_neg | with_reducible exact v_bl | with_reducible exact v_non | with_reducible exact v_str | with_reducible exact ds_nil | with_reducible exact os_nil | with_reducible exact part_no | with_reducible exact q_net0 | with_reducible exact q_net1 | with_reducible exact o_add | with_reducible exact o_min | with_reducible exact o_max | with_reducible exact o_eq | with_reducible exact o_ne | with_reducible exact o_lt | with_reducible exact o_le | with_reducible exact o_gt | with_reducible exact o_ge | with_reducible exact q_lenN | with_reducible exact q_lenU | with_reducible exact q_lenS | with_reducible exact q_lenM | with_reducible exact q_lenMT | with_reducible exact q_lenL | with_reducible exact q_lenT | with_reducible exact q_tupN | with_reducible exact q_tupU | with_reducible exact q_lstN | with_reducible exact q_lstU | with_reducible exact q_tupL | with_reducible exact q_tupT | with_reducible exact q_lstL | with_reducible exact q_lstT | with_reducible exact q_int | with_reducible exact q_isT | ((with_reducible apply v_var); apply Rd.mk; (try dsimp only [vals_n, vals_x, vals_v, bk_c, bk_d, pb_x, pb_v, pb_n, view_x, view_v, viewV_d, viewV_c, settle_d, settle_c, get_z, get_s, set_z, set_s, ka_n, ka_s, re_n, re_s, seqOf_t, seqOf_l, asgT, asgTs, Option.bind_some, ↓reduceIte, List.length_cons, List.length_nil]); (try with_reducible exact rfl); done) | ((with_reducible apply v_mv); apply Rd.mk; (try dsimp only [vals_n, vals_x, vals_v, bk_c, bk_d, pb_x, pb_v, pb_n, view_x, view_v, viewV_d, viewV_c, settle_d, settle_c, get_z, get_s, set_z, set_s, ka_n, ka_s, re_n, re_s, seqOf_t, seqOf_l, asgT, asgTs, Option.bind_some, ↓reduceIte, List.length_cons, List.length_nil]); (try with_reducible exact rfl); done) | ((with_reducible apply v_opx); exact Rf.mk rfl) | with_reducible apply v_fr | with_reducible apply v_mvc | with_reducible apply v_o2 | with_reducible apply v_o1 | with_reducible apply v_call | with_reducible apply v_da | with_reducible apply v_opv | with_reducible apply v_lst | with_reducible apply v_tup | with_reducible apply ds_cons | with_reducible apply os_cons | with_reducible apply v_app | with_reducible apply v_not | with_reducible apply v_tor | with_reducible apply v_tand | with_reducible apply v_tnot | with_reducible apply v_te | with_reducible apply v_slice | with_reducible apply v_yesn | with_reducible apply v_chain | with_reducible apply v_seq | with_reducible apply v_r1 | with_reducible apply v_r1m | with_reducible apply v_enT | with_reducible apply v_enL | with_reducible apply v_ofl | with_reducible apply v_oftr | with_reducible apply v_oft | with_reducible apply o_mul | with_reducible apply o_sub | with_reducible apply o_mod | with_reducible apply o_div | with_reducible apply o_shr | with_reducible apply idx_nat | with_reducible apply q_idx2 | with_reducible apply q_idx3 | with_reducible apply q_idx4 | with_reducible apply q_idx5 | with_reducible apply q_idx6 | with_reducible apply q_idx7 | with_reducible apply q_repr | with_reducible apply idx_natL | with_reducible assumption | omega)) (fun j e => e = [.d (setP wss), .d (setP vss), .c (((bew wss vss).take j).map tupN), .u]) ?_ (fun e he => ?_) fun j e hj he => ?_
  · rfl
  · subst he
    rw [← blen, List.take_length]
    (refine wp_ret (by (repeat' first | exact Rf.mk rfl | (apply Rd.mk; (try dsimp only [vals_n, vals_x, vals_v, bk_c, bk_d, pb_x, pb_v, pb_n, view_x, view_v, viewV_d, viewV_c, settle_d, settle_c, get_z, get_s, set_z, set_s, ka_n, ka_s, re_n, re_s, seqOf_t, seqOf_l, asgT, asgTs, Option.bind_some, ↓reduceIte, List.length_cons, List.length_nil]); (try exact rfl); done) | with_reducible exact v_yesneg | with_reducible exact q_nes | with_reducible exact q_eqs | with_reducible exact v_nat | with_reducible exact v_neg | with_reducible exact v_bl | with_reducible exact v_non | with_reducible exact v_str | with_reducible exact ds_nil | with_reducible exact os_nil | with_reducible exact part_no | with_reducible exact q_net0 | with_reducible exact q_net1 | with_reducible exact o_add | with_reducible exact o_min | with_reducible exact o_max | with_reducible exact o_eq | with_reducible exact o_ne | with_reducible exact o_lt | with_reducible exact o_le | with_reducible exact o_gt | with_reducible exact o_ge | with_reducible exact q_lenN | with_reducible exact q_lenU | with_reducible exact q_lenS | with_reducible exact q_lenM | with_reducible exact q_lenMT | with_reducible exact q_lenL | with_reducible exact q_lenT | with_reducible exact q_tupN | with_reducible exact q_tupU | with_reducible exact q_lstN | with_reducible exact q_lstU | with_reducible exact q_tupL | with_reducible exact q_tupT | with_reducible exact q_lstL | with_reducible exact q_lstT | with_reducible exact q_int | with_reducible exact q_isT | ((with_reducible apply v_var); apply Rd.mk; (try dsimp only [vals_n, vals_x, vals_v, bk_c, bk_d, pb_x, pb_v, pb_n, view_x, view_v, viewV_d, viewV_c, settle_d, settle_c, get_z, get_s, set_z, set_s, ka_n, ka_s, re_n, re_s, seqOf_t, seqOf_l, asgT, asgTs, Option.bind_some, ↓reduceIte, List.length_cons, List.length_nil]); (try with_reducible exact rfl); done) | ((with_reducible apply v_mv); apply Rd.mk; (try dsimp only [vals_n, vals_x, vals_v, bk_c, bk_d, pb_x, pb_v, pb_n, view_x, view_v, viewV_d, viewV_c, settle_d, settle_c, get_z, get_s, set_z, set_s, ka_n, ka_s, re_n, re_s, seqOf_t, seqOf_l, asgT, asgTs, Option.bind_some, ↓reduceIte, List.length_cons, List.length_nil]); (try with_reducible exact rfl); done) | ((with_reducible apply v_opx); exact Rf.mk rfl) | with_reducible apply v_fr | with_reducible apply v_mvc | with_reducible apply v_o2 | with_reducible apply v_o1 | with_reducible apply v_call | with_reducible apply v_da | with_reducible apply v_opv | with_reducible apply v_lst | with_reducible apply v_tup | with_reducible apply ds_cons | with_reducible apply os_cons | with_reducible apply v_app | with_reducible apply v_not | with_reducible apply v_tor | with_reducible apply v_tand | with_reducible apply v_tnot | with_reducible apply v_te | with_reducible apply v_slice | with_reducible apply v_yesn | with_reducible apply v_chain | with_reducible apply v_seq | with_reducible apply v_r1 | with_reducible apply v_r1m | with_reducible apply v_enT | with_reducible apply v_enL | with_reducible apply v_ofl | with_reducible apply v_oftr | with_reducible apply v_oft | with_reducible apply o_mul | with_reducible apply o_sub | with_reducible apply o_mod | with_reducible apply o_div | with_reducible apply o_shr | with_reducible apply idx_nat | with_reducible apply q_idx2 | with_reducible apply q_idx3 | with_reducible apply q_idx4 | with_reducible apply q_idx5 | with_reducible apply q_idx6 | with_reducible apply q_idx7 | with_reducible apply q_repr | with_reducible apply idx_natL | with_reducible assumption | omega)) ?_; exact ⟨_, _, rfl, rfl, trivial⟩)
  subst he
  dsimp only [set_z, set_s]
  have lm : (((bew wss vss).take j).map tupN).length < 1000000 := by
    rw [List.length_map, List.length_take]; omega
  have o1 := or_ok (φ := callF T n) (i := 0) (wss := wss) (j := j) (e := [.d (setP wss), .d (setP vss), .c (((bew wss vss).take j).map tupN), .d (natD j)]) rfl rfl
  have o2 := or_ok (φ := callF T n) (i := 1) (wss := vss) (j := j) (e := [.d (setP wss), .d (setP vss), .c (((bew wss vss).take j).map tupN), .d (natD j)]) rfl rfl
  have ad := q_addM (f := natD) (xs := row wss j) (ys := row vss j) (by have := h1 j; have := h2 j; omega)
  have a3 := o2_eval (op_v rfl o1) (op_v rfl o2) rfl rfl ad
  refine wp_ex (by (repeat' first | exact Rf.mk rfl | (apply Rd.mk; (try dsimp only [vals_n, vals_x, vals_v, bk_c, bk_d, pb_x, pb_v, pb_n, view_x, view_v, viewV_d, viewV_c, settle_d, settle_c, get_z, get_s, set_z, set_s, ka_n, ka_s, re_n, re_s, seqOf_t, seqOf_l, asgT, asgTs, Option.bind_some, ↓reduceIte, List.length_cons, List.length_nil]); (try exact rfl); done) | with_reducible exact a3 | with_reducible exact v_yesneg | with_reducible exact q_nes | with_reducible exact q_eqs | with_reducible exact v_nat | with_reducible exact v_neg | with_reducible exact v_bl | with_reducible exact v_non | with_reducible exact v_str | with_reducible exact ds_nil | with_reducible exact os_nil | with_reducible exact part_no | with_reducible exact q_net0 | with_reducible exact q_net1 | with_reducible exact o_add | with_reducible exact o_min | with_reducible exact o_max | with_reducible exact o_eq | with_reducible exact o_ne | with_reducible exact o_lt | with_reducible exact o_le | with_reducible exact o_gt | with_reducible exact o_ge | with_reducible exact q_lenN | with_reducible exact q_lenU | with_reducible exact q_lenS | with_reducible exact q_lenM | with_reducible exact q_lenMT | with_reducible exact q_lenL | with_reducible exact q_lenT | with_reducible exact q_tupN | with_reducible exact q_tupU | with_reducible exact q_lstN | with_reducible exact q_lstU | with_reducible exact q_tupL | with_reducible exact q_tupT | with_reducible exact q_lstL | with_reducible exact q_lstT | with_reducible exact q_int | with_reducible exact q_isT | ((with_reducible apply v_var); apply Rd.mk; (try dsimp only [vals_n, vals_x, vals_v, bk_c, bk_d, pb_x, pb_v, pb_n, view_x, view_v, viewV_d, viewV_c, settle_d, settle_c, get_z, get_s, set_z, set_s, ka_n, ka_s, re_n, re_s, seqOf_t, seqOf_l, asgT, asgTs, Option.bind_some, ↓reduceIte, List.length_cons, List.length_nil]); (try with_reducible exact rfl); done) | ((with_reducible apply v_mv); apply Rd.mk; (try dsimp only [vals_n, vals_x, vals_v, bk_c, bk_d, pb_x, pb_v, pb_n, view_x, view_v, viewV_d, viewV_c, settle_d, settle_c, get_z, get_s, set_z, set_s, ka_n, ka_s, re_n, re_s, seqOf_t, seqOf_l, asgT, asgTs, Option.bind_some, ↓reduceIte, List.length_cons, List.length_nil]); (try with_reducible exact rfl); done) | ((with_reducible apply v_opx); exact Rf.mk rfl) | with_reducible apply v_fr | with_reducible apply v_mvc | with_reducible apply v_o2 | with_reducible apply v_o1 | with_reducible apply v_call | with_reducible apply v_da | with_reducible apply v_opv | with_reducible apply v_lst | with_reducible apply v_tup | with_reducible apply ds_cons | with_reducible apply os_cons | with_reducible apply v_app | with_reducible apply v_not | with_reducible apply v_tor | with_reducible apply v_tand | with_reducible apply v_tnot | with_reducible apply v_te | with_reducible apply v_slice | with_reducible apply v_yesn | with_reducible apply v_chain | with_reducible apply v_seq | with_reducible apply v_r1 | with_reducible apply v_r1m | with_reducible apply v_enT | with_reducible apply v_enL | with_reducible apply v_ofl | with_reducible apply v_oftr | with_reducible apply v_oft | with_reducible apply o_mul | with_reducible apply o_sub | with_reducible apply o_mod | with_reducible apply o_div | with_reducible apply o_shr | with_reducible apply idx_nat | with_reducible apply q_idx2 | with_reducible apply q_idx3 | with_reducible apply q_idx4 | with_reducible apply q_idx5 | with_reducible apply q_idx6 | with_reducible apply q_idx7 | with_reducible apply q_repr | with_reducible apply idx_natL | with_reducible assumption | omega)) (wp_nil ?_)
  have e1 : row wss j ++ row vss j = (bew wss vss).getD j [] := (bew_gd wss vss j).symm
  rw [take_snoc (d := []) (by rw [blen]; exact hj), List.map_append, ← e1]; rfl
theorem fit_rows {ss : List St} {wss : List (List Nat)} {m : Nat} (hf : Fit ss wss) (hs : ∀ st ∈ ss, GSt m st) (hm : m ≤ 100) : ∀ ws ∈ wss, ws.length ≤ 50 ∧ ∀ w ∈ ws, w < 1000000 := by
  induction hf with
  | nil => intro _ h; cases h
  | cons h1 h2 _ ih =>
    intro ws h
    rcases List.mem_cons.mp h with z | z
    · rw [z]
      have := (hs _ List.mem_cons_self).len
      exact ⟨by omega, fun w hw => by have := h2 w hw; omega⟩
    · exact ih (fun t ht => hs t (List.mem_cons_of_mem _ ht)) ws z
theorem row_le {ss : List St} {wss : List (List Nat)} {m : Nat} (hf : Fit ss wss) (hs : ∀ st ∈ ss, GSt m st) (hm : m ≤ 100) (j : Nat) : (row wss j).length ≤ 1000 := by
  by_cases h : j < wss.length
  · have := (fit_rows hf hs hm _ (row_mem h)).1; omega
  · rw [show row wss j = [] from gd_none h]; simp
end Sw
end T_SxP
section T_SxQ
set_option autoImplicit false
set_option linter.all false
set_option maxRecDepth 100000
set_option maxHeartbeats 2000000
/-! SxQ: rows of whole numbers set by comparing. -/
namespace Sw
open PySem
def b_compared : FDef := ⟨2, 8, [], (.of [
  .asg 2 (.o1 .listOf (.var 1)),
  .asg 3 (.lst (.of [])),
  .forr (.n 4) (.seq (.o2 .idx (.var 0) (.int 1))) (.of [
    .asg 5 (.lst (.of [])),
    .forr (.p [(.n 6), (.n 7)]) (.seq (.var 4)) (.of [
      .ex (.app 5 (.o1 .intOf (.o2 .gt (.o2 .idx (.var 2) (.var 6)) (.o2 .idx (.var 2) (.var 7))))),
      .iff (.e (.o2 .eq (.o2 .idx (.var 5) (.o1 .neg (.int 1))) (.int 1))) (.of [
        .st2 2 (.var 6) 2 (.var 7) (.o2 .idx (.var 2) (.var 7)) (.o2 .idx (.var 2) (.var 6))]) (.of [])]) [6, 7],
    .ex (.app 3 (.o1 .tupleOf (.var 5)))]) [4, 5, 6, 7],
  .ret (.tup (.of [(.o1 .tupleOf (.var 2)), (.o1 .tupleOf (.var 3))]))])⟩
def b_law_compared : FDef := ⟨2, 8, [], (.of [
  .asg 2 (.o1 .listOf (.var 1)),
  .asg 3 (.lst (.of [])),
  .forr (.n 4) (.seq (.o2 .idx (.var 0) (.int 1))) (.of [
    .asg 5 (.lst (.of [])),
    .forr (.p [(.n 6), (.n 7)]) (.seq (.var 4)) (.of [
      .ex (.app 5 (.ite (.e (.o2 .lt (.o2 .idx (.var 2) (.var 7)) (.o2 .idx (.var 2) (.var 6)))) (.int 1) (.int 0))),
      .st2 2 (.var 6) 2 (.var 7) (.o2 .min2 (.o2 .idx (.var 2) (.var 6)) (.o2 .idx (.var 2) (.var 7))) (.o2 .max2 (.o2 .idx (.var 2) (.var 6)) (.o2 .idx (.var 2) (.var 7)))]) [6, 7],
    .ex (.app 3 (.o1 .tupleOf (.var 5)))]) [4, 5, 6, 7],
  .ret (.tup (.of [(.o1 .tupleOf (.var 2)), (.o1 .tupleOf (.var 3))]))])⟩
def b_law_is_setting : FDef := ⟨2, 5, [], (.of [
  .iff (.or (.not (.e (.o1 (.isi "tuple") (.var 1)))) (.e (.o2 .ne (.o1 .len (.var 1)) (.o1 .len (.o2 .idx (.var 0) (.int 1)))))) (.of [
    .ret (.bl false)]) (.of []),
  .forr (.p [(.n 2), (.n 3)]) (.zip2 (.o2 .idx (.var 0) (.int 1)) (.var 1)) (.of [
    .iff (.or (.not (.e (.o1 (.isi "tuple") (.var 3)))) (.e (.o2 .ne (.o1 .len (.var 3)) (.o1 .len (.var 2))))) (.of [
      .ret (.bl false)]) (.of []),
    .iff (.e (.o2 .ne (.comp [4] (.n 4) (.seq (.var 3)) (.yes (.or (.not (.e (.o1 (.isi "int") (.var 4)))) (.or (.e (.o1 (.isi "bool") (.var 4))) (.e (.o2 .notin (.var 4) (.tup (.of [(.int 0), (.int 1)]))))))) (.var 4)) (.lst (.of [])))) (.of [
      .ret (.bl false)]) (.of [])]) [2, 3],
  .ret (.bl true)])⟩
def b_law_row : FDef := ⟨2, 7, [], (.of [
  .asg 2 (.call "_law_draw" (.of [(.var 0), (.int 5)])),
  .asg 3 (.lst (.of [])),
  .forr (.n 4) (.rng1 (.var 1)) (.of [
    .asg 5 (.o2 .sub (.call "_law_draw" (.of [(.var 0), (.o2 .idx (.lst (.of [(.int 2), (.int 3), (.o2 .add (.var 1) (.int 1)), (.int 1000003), (.int 1000003)])) (.var 2))])) (.o1 .intOf (.o2 .eq (.var 2) (.int 1)))),
    .forr (.n 6) (.rng1 (.o2 .idx (.lst (.of [(.int 0), (.int 0), (.int 0), (.int 1), (.int 5)])) (.var 2))) (.of [
      .asg 5 (.o2 .add (.o2 .mul (.var 5) (.int 1000003)) (.call "_law_draw" (.of [(.var 0), (.int 1000003)])))]) [6],
    .iff (.e (.o2 .gt (.var 2) (.int 2))) (.of [
      .asg 5 (.o2 .idx (.lst (.of [(.var 5), (.o2 .sub (.int 0) (.var 5))])) (.call "_law_draw" (.of [(.var 0), (.int 2)])))]) (.of []),
    .ex (.app 3 (.var 5))]) [4, 5, 6],
  .ret (.o1 .tupleOf (.var 3))])⟩
/-! ### data with long ints -/
structure Sg (d w : Nat) (x : D) : Prop where
  sh : x.showable = true
  dp : x.depth ≤ d
  cl : x.canLay0 = true
  wt : x.weight ≤ w
  is : x.intsShort 60 = true
theorem Sg.mono {d w d' w' : Nat} {x : D} (h : Sg d w x) (hd : d ≤ d') (hw : w ≤ w') : Sg d' w' x := ⟨h.sh, Nat.le_trans h.dp hd, h.cl, Nat.le_trans h.wt hw, h.is⟩
theorem sg_int {i : Int} (h : i.natAbs < 10 ^ 40) : Sg 1 133 (.int i) := by
  have l : i.natAbs ≠ 0 → i.natAbs.log2 < 133 := fun h0 => (Nat.log2_lt h0).mpr (Nat.lt_trans h (by decide))
  refine ⟨?_, by simp [PyData.depth], rfl, ?_, ?_⟩
  · show decide (i.natAbs.log2 < 1920) = true
    rw [decide_eq_true_eq]
    by_cases h0 : i.natAbs = 0
    · rw [h0]; decide
    · have := l h0; omega
  · simp only [PyData.weight]
    split
    · omega
    · rename_i h0
      have := l (by simpa using h0)
      omega
  · show decide ((PyData.shown (.int i)).length ≤ 60) = true
    rw [decide_eq_true_eq]
    have := int_text_length_le10 (a := i) (k := 40) (by decide) h
    simp only [PyData.shown]
    rw [ofString_length]
    omega
theorem sg_bit {n : Nat} (h : n < 2) : Sg 1 1 (natD n) := by
  have k := sg_int (i := (n : Int)) (Nat.lt_trans (show ((n : Int)).natAbs < 2 by omega) (by decide))
  refine ⟨k.sh, k.dp, k.cl, ?_, k.is⟩
  match n, h with
  | 0, _ => decide
  | 1, _ => decide
theorem sg_all {d w : Nat} : ∀ {xs : List D}, (∀ x ∈ xs, Sg d w x) → PyData.showableAll xs = true ∧ PyData.depthAll xs ≤ d ∧ PyData.canLayAll0 xs = true ∧ PyData.weightAll xs ≤ (w + 1) * xs.length ∧ PyData.intsShortAll 60 xs = true
  | [], _ => ⟨rfl, by simp [PyData.depthAll], rfl, by simp [PyData.weightAll], rfl⟩
  | x :: r, h => by
    obtain ⟨h1, h2, h3, h4, h5⟩ := sg_all (xs := r) fun y hy => h y (List.mem_cons_of_mem _ hy)
    have hx := h x List.mem_cons_self
    refine ⟨?_, ?_, ?_, ?_, ?_⟩
    · show (PyData.showable x && PyData.showableAll r) = true
      rw [hx.sh, h1]; rfl
    · have := hx.dp
      simp only [PyData.depthAll]; omega
    · show (PyData.canLay0 x && PyData.canLayAll0 r) = true
      rw [hx.cl, h3]; rfl
    · have := hx.wt
      simp only [PyData.weightAll, List.length_cons, Nat.mul_add, Nat.mul_one]; omega
    · show (PyData.intsShort 60 x && PyData.intsShortAll 60 r) = true
      rw [hx.is, h5]; rfl
theorem sg_tup {d w : Nat} {xs : List D} (h : ∀ x ∈ xs, Sg d w x) : Sg (d + 1) ((w + 1) * xs.length) (.tuple xs) := by
  obtain ⟨h1, h2, h3, h4, h5⟩ := sg_all h
  exact ⟨h1, by simp only [PyData.depth]; omega, h3, h4, h5⟩
theorem Sg.repr {d w : Nat} {x : D} (h : Sg d w x) (hd : d ≤ 40) (hw : w ≤ 20000) : okRepr x = true := by
  have := h.dp
  have := h.wt
  unfold okRepr
  rw [h.sh, h.cl, h.is]
  simp only [Bool.true_and, Bool.and_true, Bool.and_eq_true, Bool.or_eq_true]
  exact ⟨decide_eq_true (by omega), .inr (decide_eq_true (by omega))⟩
/-! ### compared -/
def cw (L : List Int) (p : Nat × Nat) : Nat := if L.getD p.2 0 < L.getD p.1 0 then 1 else 0
def cl (L : List Int) (p : Nat × Nat) : List Int := if L.getD p.2 0 < L.getD p.1 0 then (L.set p.1 (L.getD p.2 0)).set p.2 (L.getD p.1 0) else L
def cWs : List (Nat × Nat) → List Int → List Nat
  | [], _ => []
  | p :: st, L => cw L p :: cWs st (cl L p)
def cLs : List (Nat × Nat) → List Int → List Int
  | [], L => L
  | p :: st, L => cLs st (cl L p)
def nWs : List (List (Nat × Nat)) → List Int → List (List Nat)
  | [], _ => []
  | st :: ss, L => cWs st L :: nWs ss (cLs st L)
def nLs : List (List (Nat × Nat)) → List Int → List Int
  | [], L => L
  | st :: ss, L => nLs ss (cLs st L)
theorem cLs_snoc (p : Nat × Nat) : ∀ (S : List (Nat × Nat)) (L : List Int), cLs (S ++ [p]) L = cl (cLs S L) p
  | [], _ => rfl
  | q :: S, L => cLs_snoc p S (cl L q)
theorem cWs_snoc (p : Nat × Nat) : ∀ (S : List (Nat × Nat)) (L : List Int), cWs (S ++ [p]) L = cWs S L ++ [cw (cLs S L) p]
  | [], _ => rfl
  | q :: S, L => by
    show cw L q :: cWs (S ++ [p]) (cl L q) = _
    rw [cWs_snoc p S]; rfl
theorem nLs_snoc (st : List (Nat × Nat)) : ∀ (S : List (List (Nat × Nat))) (L : List Int), nLs (S ++ [st]) L = cLs st (nLs S L)
  | [], _ => rfl
  | q :: S, L => nLs_snoc st S (cLs q L)
theorem nWs_snoc (st : List (Nat × Nat)) : ∀ (S : List (List (Nat × Nat))) (L : List Int), nWs (S ++ [st]) L = nWs S L ++ [cWs st (nLs S L)]
  | [], _ => rfl
  | q :: S, L => by
    show cWs q L :: nWs (S ++ [st]) (cLs q L) = _
    rw [nWs_snoc st S]; rfl
theorem cl_len (L : List Int) (p : Nat × Nat) : (cl L p).length = L.length := by unfold cl; split <;> simp
theorem cLs_len : ∀ (S : List (Nat × Nat)) (L : List Int), (cLs S L).length = L.length
  | [], _ => rfl
  | p :: S, L => by show (cLs S (cl L p)).length = _; rw [cLs_len S, cl_len]
theorem nLs_len : ∀ (S : List (List (Nat × Nat))) (L : List Int), (nLs S L).length = L.length
  | [], _ => rfl
  | st :: S, L => by show (nLs S (cLs st L)).length = _; rw [nLs_len S, cLs_len]
theorem cWs_len : ∀ (S : List (Nat × Nat)) (L : List Int), (cWs S L).length = S.length
  | [], _ => rfl
  | p :: S, L => by show (cWs S (cl L p)).length + 1 = _; rw [cWs_len S]; rfl
theorem nWs_len : ∀ (S : List (List (Nat × Nat))) (L : List Int), (nWs S L).length = S.length
  | [], _ => rfl
  | st :: S, L => by show (nWs S (cLs st L)).length + 1 = _; rw [nWs_len S]; rfl
theorem cw_lt (L : List Int) (p : Nat × Nat) : cw L p < 2 := by unfold cw; split <;> omega
theorem cWs_lt : ∀ (S : List (Nat × Nat)) (L : List Int), ∀ w ∈ cWs S L, w < 2
  | [], _, _, h => by cases h
  | p :: S, L, w, h => by
    rcases List.mem_cons.mp h with z | z
    · rw [z]; exact cw_lt L p
    · exact cWs_lt S _ w z
theorem nWs_fit : ∀ (S : List (List (Nat × Nat))) (L : List Int), Fit S (nWs S L)
  | [], _ => .nil
  | st :: S, L => .cons (cWs_len st L) (cWs_lt st L) (nWs_fit S _)
theorem mem_gd {L : List Int} {i : Nat} (h : i < L.length) : L.getD i 0 ∈ L := by
  rw [List.getD_eq_getElem?_getD, List.getElem?_eq_getElem h]
  exact List.getElem_mem _
theorem cl_mem {L : List Int} {p : Nat × Nat} (h1 : p.1 < L.length) (h2 : p.2 < L.length) {x : Int} (h : x ∈ cl L p) : x ∈ L := by
  unfold cl at h
  split at h
  · rcases List.mem_or_eq_of_mem_set h with z | z
    · rcases List.mem_or_eq_of_mem_set z with q | q
      · exact q
      · rw [q]; exact mem_gd h2
    · rw [z]; exact mem_gd h1
  · exact h
theorem cLs_mem {m : Nat} : ∀ (S : List (Nat × Nat)) (L : List Int), L.length = m → (∀ p ∈ S, p.1 < p.2 ∧ p.2 < m) → ∀ x ∈ cLs S L, x ∈ L
  | [], _, _, _, _, h => h
  | p :: S, L, hl, hp, x, h => by
    have q := hp p List.mem_cons_self
    exact cl_mem (by omega) (by omega) (cLs_mem S (cl L p) (by rw [cl_len, hl]) (fun r hr => hp r (List.mem_cons_of_mem _ hr)) x h)
theorem nLs_mem {m : Nat} : ∀ (S : List (List (Nat × Nat))) (L : List Int), L.length = m → (∀ st ∈ S, GSt m st) → ∀ x ∈ nLs S L, x ∈ L
  | [], _, _, _, _, h => h
  | st :: S, L, hl, hs, x, h => cLs_mem st L hl (hs st List.mem_cons_self).lt x (nLs_mem S (cLs st L) (by rw [cLs_len, hl]) (fun t ht => hs t (List.mem_cons_of_mem _ ht)) x h)
def iD (L : List Int) : List D := L.map .int
theorem iD_len (L : List Int) : (iD L).length = L.length := List.length_map _
theorem iD_gd {L : List Int} {i : Nat} (h : i < L.length) : (iD L).getD i .none = .int (L.getD i 0) := by
  unfold iD
  rw [List.getD_eq_getElem?_getD, List.getElem?_map, List.getElem?_eq_getElem h, List.getD_eq_getElem?_getD, List.getElem?_eq_getElem h]; rfl
theorem iD_set (L : List Int) (i : Nat) (x : Int) : (iD L).set i (.int x) = iD (L.set i x) := by unfold iD; rw [List.map_set]
theorem idx_i {L : List Int} {i : Nat} {y : D} (h : seqOf y = some (iD L)) (hi : i < L.length) : op2 .idx y (natD i) = some (.d (.int (L.getD i 0))) := by
  rw [idx_at h (by rw [iD_len]; exact hi), iD_gd hi]
theorem int_bool (b : Bool) : op1 .intOf (.bool b) = some (.d (natD (if b then 1 else 0))) := by cases b <;> rfl
def told (ss : List (List (Nat × Nat))) (L : List Int) : D := .tuple [.tuple (iD (nLs ss L)), setP (nWs ss L)]
theorem comp_ok {T : Tab} (hCm : T "compared" = some b_compared) (n : Nat) {m : Nat} {ss : List (List (Nat × Nat))} {L : List Int} (hs : ∀ st ∈ ss, GSt m st) (hl : L.length = m) (hn : ss.length ≤ 1000) (hm : m ≤ 100) : ∃ x y, callF T (n + 1) "compared" [.d (netP m ss), .d (.tuple (iD L))] = .ok (.d (told ss L), [x, y]) := by
  suffices h : ∃ v outs, callF T (n + 1) "compared" [.d (netP m ss), .d (.tuple (iD L))] = .ok (v, outs) ∧ v = .d (told ss L) ∧ ∃ x y, outs = [x, y] by
    obtain ⟨v, outs, h, rfl, x, y, rfl⟩ := h
    exact ⟨x, y, h⟩
  refine call_wp (fun v outs => v = .d (told ss L) ∧ ∃ x y, outs = [x, y]) (fd := b_compared) hCm rfl ?_
  refine (show Wp _ (Sw.execs (callF T n) b_compared.body [.d (netP m ss), .d (.tuple (iD L)), .u, .u, .u, .u, .u, .u]) from ?_)
  simp only [b_compared, Ss.of]
  refine wp_asg (w := .c (iD L)) (o1_eval (op_var rfl) rfl rfl) ?_
  refine wp_asg (w := .c []) (lst_ev ds_nil (by decide)) ?_
  refine wp_forL stP (l := ss) (src_sq (da_of (o2_eval (o := .idx) (a := .var 0) (b := .int 1) (x := netP m ss) (op_var rfl) (op_v rfl int_eval) rfl rfl (idx_tup (i := 1) rfl)) rfl) rfl)
    (fun S e => e = [.d (netP m ss), .d (.tuple (iD L)), .c (iD (nLs S L)), .c ((nWs S L).map tupN), .u, .u, .u, .u]) rfl (fun e he => ?_) fun S st R e hl2 he => ?_
  · subst he
    have t1 := o1_eval (φ := callF T n) (o := .tupleOf) (a := .var 2) (e := [.d (netP m ss), .d (.tuple (iD L)), .c (iD (nLs ss L)), .c ((nWs ss L).map tupN), .u, .u, .u, .u]) (w := .d (.tuple (iD (nLs ss L)))) (op_var rfl) rfl rfl
    have t2 := o1_eval (φ := callF T n) (o := .tupleOf) (a := .var 3) (e := [.d (netP m ss), .d (.tuple (iD L)), .c (iD (nLs ss L)), .c ((nWs ss L).map tupN), .u, .u, .u, .u]) (w := .d (setP (nWs ss L))) (op_var rfl) rfl rfl
    exact wp_ret (tup_ev (ds_cons (da_of t1 rfl) (ds_cons (da_of t2 rfl) ds_nil)) (show (2 : Nat) ≤ 1000 by decide)) ⟨rfl, _, _, rfl⟩
  subst he
  have g := hs st (by rw [hl2]; simp)
  have Sl : S.length < 1000 := by
    have := congrArg List.length hl2
    simp at this
    omega
  generalize hL0 : nLs S L = L0
  have l0 : L0.length = m := by rw [← hL0, nLs_len, hl]
  refine wp_asg (w := .c []) (lst_ev ds_nil (by decide)) ?_
  refine wp_forT pr (l := st) (src_sq (da_var (i := 4) (d := stP st) rfl) rfl) (fun S2 e => e = [.d (netP m ss), .d (.tuple (iD L)), .c (iD (cLs S2 L0)), .c ((nWs S L).map tupN), .d (stP st), .c (natsD (cWs S2 L0)), .u, .u]) rfl (fun e he => ?_) fun S2 p R2 e hl3 he => ?_
  · subst he
    have t1 := o1_eval (φ := callF T n) (o := .tupleOf) (a := .var 5) (e := [.d (netP m ss), .d (.tuple (iD L)), .c (iD (cLs st L0)), .c ((nWs S L).map tupN), .d (stP st), .c (natsD (cWs st L0)), .u, .u]) (w := .d (tupN (cWs st L0))) (op_var rfl) rfl rfl
    refine wp_ex (app_ev rfl (da_of t1 rfl) rfl (by rw [List.length_map, nWs_len]; omega)) (wp_nil ?_)
    rw [nLs_snoc, nWs_snoc, List.map_append, hL0]; rfl
  subst he
  have hp := g.lt p (by rw [hl3]; simp)
  have S2l : S2.length < 1000 := by
    have := congrArg List.length hl3
    simp at this
    have := g.len
    omega
  refine ⟨[.d (netP m ss), .d (.tuple (iD L)), .c (iD (cLs S2 L0)), .c ((nWs S L).map tupN), .d (stP st), .c (natsD (cWs S2 L0)), .d (natD p.1), .d (natD p.2)], rfl, ?_⟩
  rw [cLs_snoc, cWs_snoc]
  generalize hL1 : cLs S2 L0 = L1
  have l1 : L1.length = m := by rw [← hL1, cLs_len, l0]
  generalize hws : cWs S2 L0 = ws
  have wl : ws.length < 1000 := by rw [← hws, cWs_len]; exact S2l
  have a1 := o2_eval (φ := callF T n) (o := .idx) (a := .var 2) (b := .var 6) (e := [.d (netP m ss), .d (.tuple (iD L)), .c (iD L1), .c ((nWs S L).map tupN), .d (stP st), .c (natsD ws), .d (natD p.1), .d (natD p.2)]) (op_var rfl) (op_var rfl) rfl rfl (idx_i (L := L1) rfl (by omega))
  have a2 := o2_eval (φ := callF T n) (o := .idx) (a := .var 2) (b := .var 7) (e := [.d (netP m ss), .d (.tuple (iD L)), .c (iD L1), .c ((nWs S L).map tupN), .d (stP st), .c (natsD ws), .d (natD p.1), .d (natD p.2)]) (op_var rfl) (op_var rfl) rfl rfl (idx_i (L := L1) rfl (by omega))
  have gt := o2_eval (o := .gt) (w := .d (.bool (decide (L1.getD p.2 0 < L1.getD p.1 0)))) (op_v rfl a1) (op_v rfl a2) rfl rfl rfl
  have ib := o1_eval (op_v rfl gt) rfl (int_bool _)
  have cwe : (if decide (L1.getD p.2 0 < L1.getD p.1 0) = true then 1 else 0) = cw L1 p := by unfold cw; by_cases z : L1.getD p.2 0 < L1.getD p.1 0 <;> simp [z]
  rw [cwe] at ib
  refine wp_ex (app_ev rfl (da_of ib rfl) rfl (by rw [natsD_len]; omega)) ?_
  have ap : natsD ws ++ [natD (cw L1 p)] = natsD (ws ++ [cw L1 p]) := by rw [natsD_append]; rfl
  rw [ap]
  have li := o2_eval (φ := callF T n) (o := .idx) (a := .var 5) (b := .o1 .neg (.int 1)) (e := [.d (netP m ss), .d (.tuple (iD L)), .c (iD L1), .c ((nWs S L).map tupN), .d (stP st), .c (natsD (ws ++ [cw L1 p])), .d (natD p.1), .d (natD p.2)]) (op_var rfl) (op_v rfl neg1) rfl rfl (idx_last rfl)
  have te := o2_eval (o := .eq) (b := .int 1) (op_v rfl li) (op_v rfl int_eval) rfl rfl (o_eq (b := 1))
  refine wp_if1 (t_e te rfl) (fun hb => ?_) fun hb => ?_
  · have hb : cw L1 p = 1 := by simpa using hb
    have hlt : L1.getD p.2 0 < L1.getD p.1 0 := by
      unfold cw at hb
      split at hb
      · assumption
      · cases hb
    have b1 := o2_eval (φ := callF T n) (o := .idx) (a := .var 2) (b := .var 6) (e := [.d (netP m ss), .d (.tuple (iD L)), .c (iD L1), .c ((nWs S L).map tupN), .d (stP st), .c (natsD (ws ++ [cw L1 p])), .d (natD p.1), .d (natD p.2)]) (op_var rfl) (op_var rfl) rfl rfl (idx_i (L := L1) rfl (by omega))
    have b2 := o2_eval (φ := callF T n) (o := .idx) (a := .var 2) (b := .var 7) (e := [.d (netP m ss), .d (.tuple (iD L)), .c (iD L1), .c ((nWs S L).map tupN), .d (stP st), .c (natsD (ws ++ [cw L1 p])), .d (natD p.1), .d (natD p.2)]) (op_var rfl) (op_var rfl) rfl rfl (idx_i (L := L1) rfl (by omega))
    refine wp_st2 (da_of b2 rfl) (da_of b1 rfl) rfl (da_var (d := natD p.1) rfl) (setC_at (L := iD L1) rfl (by rw [iD_len]; omega)) rfl (da_var (d := natD p.2) rfl) (setC_at (L := (iD L1).set p.1 (.int (L1.getD p.2 0))) rfl (by rw [List.length_set, iD_len]; omega)) (wp_nil (wp_nil ?_))
    rw [iD_set, iD_set]
    have e : cl L1 p = (L1.set p.1 (L1.getD p.2 0)).set p.2 (L1.getD p.1 0) := if_pos hlt
    rw [e]; rfl
  · have hb : cw L1 p ≠ 1 := by simpa using hb
    have e : cl L1 p = L1 := by
      unfold cw at hb
      unfold cl
      split
      · rename_i z
        rw [if_pos z] at hb
        exact absurd rfl hb
      · rfl
    refine wp_nil ?_
    rw [e]; rfl
theorem set_self {L : List Int} {i : Nat} (h : i < L.length) : L.set i (L.getD i 0) = L := by
  apply List.ext_getElem?
  intro j
  by_cases z : i = j
  · subst z
    rw [List.getElem?_set_self h, List.getD_eq_getElem?_getD, List.getElem?_eq_getElem h]; rfl
  · rw [List.getElem?_set_ne z]
theorem lcomp_ok {T : Tab} (hLc : T "_law_compared" = some b_law_compared) (n : Nat) {m : Nat} {ss : List (List (Nat × Nat))} {L : List Int} (hs : ∀ st ∈ ss, GSt m st) (hl : L.length = m) (hn : ss.length ≤ 1000) (hm : m ≤ 100) : ∃ x y, callF T (n + 1) "_law_compared" [.d (netP m ss), .d (.tuple (iD L))] = .ok (.d (told ss L), [x, y]) := by
  suffices h : ∃ v outs, callF T (n + 1) "_law_compared" [.d (netP m ss), .d (.tuple (iD L))] = .ok (v, outs) ∧ v = .d (told ss L) ∧ ∃ x y, outs = [x, y] by
    obtain ⟨v, outs, h, rfl, x, y, rfl⟩ := h
    exact ⟨x, y, h⟩
  refine call_wp (fun v outs => v = .d (told ss L) ∧ ∃ x y, outs = [x, y]) (fd := b_law_compared) hLc rfl ?_
  refine (show Wp _ (Sw.execs (callF T n) b_law_compared.body [.d (netP m ss), .d (.tuple (iD L)), .u, .u, .u, .u, .u, .u]) from ?_)
  simp only [b_law_compared, Ss.of]
  refine wp_asg (w := .c (iD L)) (o1_eval (op_var rfl) rfl rfl) ?_
  refine wp_asg (w := .c []) (lst_ev ds_nil (by decide)) ?_
  refine wp_forL stP (l := ss) (src_sq (da_of (o2_eval (o := .idx) (a := .var 0) (b := .int 1) (x := netP m ss) (op_var rfl) (op_v rfl int_eval) rfl rfl (idx_tup (i := 1) rfl)) rfl) rfl)
    (fun S e => e = [.d (netP m ss), .d (.tuple (iD L)), .c (iD (nLs S L)), .c ((nWs S L).map tupN), .u, .u, .u, .u]) rfl (fun e he => ?_) fun S st R e hl2 he => ?_
  · subst he
    have t1 := o1_eval (φ := callF T n) (o := .tupleOf) (a := .var 2) (e := [.d (netP m ss), .d (.tuple (iD L)), .c (iD (nLs ss L)), .c ((nWs ss L).map tupN), .u, .u, .u, .u]) (w := .d (.tuple (iD (nLs ss L)))) (op_var rfl) rfl rfl
    have t2 := o1_eval (φ := callF T n) (o := .tupleOf) (a := .var 3) (e := [.d (netP m ss), .d (.tuple (iD L)), .c (iD (nLs ss L)), .c ((nWs ss L).map tupN), .u, .u, .u, .u]) (w := .d (setP (nWs ss L))) (op_var rfl) rfl rfl
    exact wp_ret (tup_ev (ds_cons (da_of t1 rfl) (ds_cons (da_of t2 rfl) ds_nil)) (show (2 : Nat) ≤ 1000 by decide)) ⟨rfl, _, _, rfl⟩
  subst he
  have g := hs st (by rw [hl2]; simp)
  have Sl : S.length < 1000 := by
    have := congrArg List.length hl2
    simp at this
    omega
  generalize hL0 : nLs S L = L0
  have l0 : L0.length = m := by rw [← hL0, nLs_len, hl]
  refine wp_asg (w := .c []) (lst_ev ds_nil (by decide)) ?_
  refine wp_forT pr (l := st) (src_sq (da_var (i := 4) (d := stP st) rfl) rfl) (fun S2 e => e = [.d (netP m ss), .d (.tuple (iD L)), .c (iD (cLs S2 L0)), .c ((nWs S L).map tupN), .d (stP st), .c (natsD (cWs S2 L0)), .u, .u]) rfl (fun e he => ?_) fun S2 p R2 e hl3 he => ?_
  · subst he
    have t1 := o1_eval (φ := callF T n) (o := .tupleOf) (a := .var 5) (e := [.d (netP m ss), .d (.tuple (iD L)), .c (iD (cLs st L0)), .c ((nWs S L).map tupN), .d (stP st), .c (natsD (cWs st L0)), .u, .u]) (w := .d (tupN (cWs st L0))) (op_var rfl) rfl rfl
    refine wp_ex (app_ev rfl (da_of t1 rfl) rfl (by rw [List.length_map, nWs_len]; omega)) (wp_nil ?_)
    rw [nLs_snoc, nWs_snoc, List.map_append, hL0]; rfl
  subst he
  have hp := g.lt p (by rw [hl3]; simp)
  have S2l : S2.length < 1000 := by
    have := congrArg List.length hl3
    simp at this
    have := g.len
    omega
  refine ⟨[.d (netP m ss), .d (.tuple (iD L)), .c (iD (cLs S2 L0)), .c ((nWs S L).map tupN), .d (stP st), .c (natsD (cWs S2 L0)), .d (natD p.1), .d (natD p.2)], rfl, ?_⟩
  rw [cLs_snoc, cWs_snoc]
  generalize hL1 : cLs S2 L0 = L1
  have l1 : L1.length = m := by rw [← hL1, cLs_len, l0]
  generalize hws : cWs S2 L0 = ws
  have wl : ws.length < 1000 := by rw [← hws, cWs_len]; exact S2l
  have a1 := o2_eval (φ := callF T n) (o := .idx) (a := .var 2) (b := .var 6) (e := [.d (netP m ss), .d (.tuple (iD L)), .c (iD L1), .c ((nWs S L).map tupN), .d (stP st), .c (natsD ws), .d (natD p.1), .d (natD p.2)]) (op_var rfl) (op_var rfl) rfl rfl (idx_i (L := L1) rfl (by omega))
  have a2 := o2_eval (φ := callF T n) (o := .idx) (a := .var 2) (b := .var 7) (e := [.d (netP m ss), .d (.tuple (iD L)), .c (iD L1), .c ((nWs S L).map tupN), .d (stP st), .c (natsD ws), .d (natD p.1), .d (natD p.2)]) (op_var rfl) (op_var rfl) rfl rfl (idx_i (L := L1) rfl (by omega))
  have lt := o2_eval (o := .lt) (w := .d (.bool (decide (L1.getD p.2 0 < L1.getD p.1 0)))) (op_v rfl a2) (op_v rfl a1) rfl rfl rfl
  have it : evalE (callF T n) (.ite (.e (.o2 .lt (.o2 .idx (.var 2) (.var 7)) (.o2 .idx (.var 2) (.var 6)))) (.int 1) (.int 0)) [.d (netP m ss), .d (.tuple (iD L)), .c (iD L1), .c ((nWs S L).map tupN), .d (stP st), .c (natsD ws), .d (natD p.1), .d (natD p.2)] = .ok (.d (natD (cw L1 p)), [.d (netP m ss), .d (.tuple (iD L)), .c (iD L1), .c ((nWs S L).map tupN), .d (stP st), .c (natsD ws), .d (natD p.1), .d (natD p.2)]) := by
    rw [evalE]
    refine (bind2 (t_e lt rfl)).trans ?_
    unfold cw
    by_cases z : L1.getD p.2 0 < L1.getD p.1 0
    · rw [if_pos z]
      simp only [decide_eq_true z, if_true]
      exact int_eval
    · rw [if_neg z]
      simp only [decide_eq_false z, Bool.false_eq_true, if_false]
      exact int_eval
  refine wp_ex (app_ev rfl (da_of it rfl) rfl (by rw [natsD_len]; omega)) ?_
  have ap : natsD ws ++ [natD (cw L1 p)] = natsD (ws ++ [cw L1 p]) := by rw [natsD_append]; rfl
  rw [ap]
  have b1 := o2_eval (φ := callF T n) (o := .idx) (a := .var 2) (b := .var 6) (e := [.d (netP m ss), .d (.tuple (iD L)), .c (iD L1), .c ((nWs S L).map tupN), .d (stP st), .c (natsD (ws ++ [cw L1 p])), .d (natD p.1), .d (natD p.2)]) (op_var rfl) (op_var rfl) rfl rfl (idx_i (L := L1) rfl (by omega))
  have b2 := o2_eval (φ := callF T n) (o := .idx) (a := .var 2) (b := .var 7) (e := [.d (netP m ss), .d (.tuple (iD L)), .c (iD L1), .c ((nWs S L).map tupN), .d (stP st), .c (natsD (ws ++ [cw L1 p])), .d (natD p.1), .d (natD p.2)]) (op_var rfl) (op_var rfl) rfl rfl (idx_i (L := L1) rfl (by omega))
  have mn := o2_eval (o := .min2) (w := .d (.int (if L1.getD p.2 0 < L1.getD p.1 0 then L1.getD p.2 0 else L1.getD p.1 0))) (op_v rfl b1) (op_v rfl b2) rfl rfl rfl
  have mx := o2_eval (o := .max2) (w := .d (.int (if L1.getD p.2 0 > L1.getD p.1 0 then L1.getD p.2 0 else L1.getD p.1 0))) (op_v rfl b1) (op_v rfl b2) rfl rfl rfl
  refine wp_st2 (da_of mn rfl) (da_of mx rfl) rfl (da_var (d := natD p.1) rfl) (setC_at (L := iD L1) rfl (by rw [iD_len]; omega)) rfl (da_var (d := natD p.2) rfl) (setC_at (L := (iD L1).set p.1 (.int (if L1.getD p.2 0 < L1.getD p.1 0 then L1.getD p.2 0 else L1.getD p.1 0))) rfl (by rw [List.length_set, iD_len]; omega)) (wp_nil ?_)
  rw [iD_set, iD_set]
  have e : (L1.set p.1 (if L1.getD p.2 0 < L1.getD p.1 0 then L1.getD p.2 0 else L1.getD p.1 0)).set p.2 (if L1.getD p.2 0 > L1.getD p.1 0 then L1.getD p.2 0 else L1.getD p.1 0) = cl L1 p := by
    unfold cl
    by_cases z : L1.getD p.2 0 < L1.getD p.1 0
    · rw [if_pos z, if_pos z, if_neg (by omega)]
    · rw [if_neg z, if_neg z, set_self (by omega)]
      by_cases y : L1.getD p.2 0 > L1.getD p.1 0
      · rw [if_pos y, set_self (by omega)]
      · have : L1.getD p.1 0 = L1.getD p.2 0 := by omega
        rw [if_neg y, this, set_self (by omega)]
  rw [e]; rfl
theorem isset_ok {T : Tab} (hIs : T "_law_is_setting" = some b_law_is_setting) (n : Nat) {m : Nat} {ss : List (List (Nat × Nat))} {wss : List (List Nat)} (hf : Fit ss wss) (hn : ss.length ≤ 1000) (hw : ∀ st ∈ ss, st.length ≤ 1000) : ∃ x y, callF T (n + 1) "_law_is_setting" [.d (netP m ss), .d (setP wss)] = .ok (.d (.bool true), [x, y]) := by
  suffices h : ∃ v outs, callF T (n + 1) "_law_is_setting" [.d (netP m ss), .d (setP wss)] = .ok (v, outs) ∧ v = .d (.bool true) ∧ ∃ x y, outs = [x, y] by
    obtain ⟨v, outs, h, rfl, x, y, rfl⟩ := h
    exact ⟨x, y, h⟩
  refine call_wp (fun v outs => v = .d (.bool true) ∧ ∃ x y, outs = [x, y]) (fd := b_law_is_setting) hIs rfl ?_
  refine (show Wp _ (Sw.execs (callF T n) b_law_is_setting.body [.d (netP m ss), .d (setP wss), .u, .u, .u]) from ?_)
  simp only [b_law_is_setting, Ss.of]
  have i1 := o2_eval (φ := callF T n) (o := .idx) (a := .var 0) (b := .int 1) (x := netP m ss) (e := [.d (netP m ss), .d (setP wss), .u, .u, .u]) (op_var rfl) (op_v rfl int_eval) rfl rfl (idx_tup (i := 1) rfl)
  have t1 := o1_eval (φ := callF T n) (o := .isi "tuple") (a := .var 1) (e := [.d (netP m ss), .d (setP wss), .u, .u, .u]) (w := .d (.bool true)) (op_var rfl) rfl rfl
  have l1 := o1_eval (φ := callF T n) (o := .len) (a := .var 1) (e := [.d (netP m ss), .d (setP wss), .u, .u, .u]) (w := .d (natD wss.length)) (op_var rfl) rfl (by show some (V.d (.int ((wss.map tupN).length : Int))) = _; rw [List.length_map]; rfl)
  have l2 := o1_eval (o := .len) (w := .d (natD ss.length)) (op_v rfl i1) rfl (by show some (V.d (.int ((ss.map stP).length : Int))) = _; rw [List.length_map]; rfl)
  have t2 := o2_eval (o := .ne) (op_v rfl l1) (op_v rfl l2) rfl rfl (o_ne (a := wss.length))
  rw [decide_eq_true hf.len] at t2
  refine wp_no (t_or (x := false) (y := false) (t_not (x := true) (t_e t1 rfl)) (fun _ => t_e t2 rfl) (fun h => by cases h)) ?_
  refine wp_for (zip_src (f := stP) (g := tupN) (l := ss) (r := wss) (da_of i1 rfl) (da_var (d := setP wss) rfl) rfl rfl) (fun rest e => e = [.d (netP m ss), .d (setP wss), .u, .u, .u] ∧ ∃ ss' wss', rest = (ss'.zip wss').map twoS ∧ Fit ss' wss' ∧ ∀ st ∈ ss', st.length ≤ 1000) ⟨rfl, ss, wss, rfl, hf, hw⟩ (fun e he => ?_) fun x rest e he => ?_
  · obtain ⟨rfl, _⟩ := he
    exact wp_ret (w := .d (.bool true)) (by rw [evalE]) ⟨rfl, _, _, rfl⟩
  obtain ⟨rfl, ss', wss', h1, h2, h3⟩ := he
  cases h2 with
  | nil => cases h1
  | @cons st ws ss' wss' k1 k2 k3 =>
    injection h1 with h4 h5
    subst h4
    have wl : ws.length ≤ 1000 := by rw [k1]; exact h3 st List.mem_cons_self
    refine ⟨[.d (netP m ss), .d (setP wss), .d (stP st), .d (tupN ws), .u], rfl, ?_⟩
    have u1 := o1_eval (φ := callF T n) (o := .isi "tuple") (a := .var 3) (e := [.d (netP m ss), .d (setP wss), .d (stP st), .d (tupN ws), .u]) (w := .d (.bool true)) (op_var rfl) rfl rfl
    have u2 := o1_eval (φ := callF T n) (o := .len) (a := .var 3) (e := [.d (netP m ss), .d (setP wss), .d (stP st), .d (tupN ws), .u]) (w := .d (natD ws.length)) (op_var rfl) rfl (by show some (V.d (.int ((natsD ws).length : Int))) = _; rw [natsD_len]; rfl)
    have u3 := o1_eval (φ := callF T n) (o := .len) (a := .var 2) (e := [.d (netP m ss), .d (setP wss), .d (stP st), .d (tupN ws), .u]) (w := .d (natD st.length)) (op_var rfl) rfl (by show some (V.d (.int ((st.map pr).length : Int))) = _; rw [List.length_map]; rfl)
    have u4 := o2_eval (o := .ne) (op_v rfl u2) (op_v rfl u3) rfl rfl (o_ne (a := ws.length))
    rw [decide_eq_true k1] at u4
    refine wp_no (t_or (x := false) (y := false) (t_not (x := true) (t_e u1 rfl)) (fun _ => t_e u4 rfl) (fun h => by cases h)) ?_
    have c0 := comp_none (φ := callF T n) (own := [4]) (t := .n 4) (s := .seq (.var 3)) (c := .or (.not (.e (.o1 (.isi "int") (.var 4)))) (.or (.e (.o1 (.isi "bool") (.var 4))) (.e (.o2 .notin (.var 4) (.tup (.of [(.int 0), (.int 1)])))))) (a := .var 4) (e := [.d (netP m ss), .d (setP wss), .d (stP st), .d (tupN ws), .u]) (e1 := [.d (netP m ss), .d (setP wss), .d (stP st), .d (tupN ws), .u]) (xs := natsD ws) (src_sq (da_var (d := tupN ws) rfl) rfl) (by rw [natsD_len]; omega) rfl fun x hx => by
      obtain ⟨w, hw, rfl⟩ := List.mem_map.mp hx
      have hw := k2 w hw
      refine ⟨[.d (netP m ss), .d (setP wss), .d (stP st), .d (tupN ws), .d (natD w)], [.d (netP m ss), .d (setP wss), .d (stP st), .d (tupN ws), .d (natD w)], rfl, ?_, rfl⟩
      have v1 := o1_eval (φ := callF T n) (o := .isi "int") (a := .var 4) (e := [.d (netP m ss), .d (setP wss), .d (stP st), .d (tupN ws), .d (natD w)]) (w := .d (.bool true)) (op_var rfl) rfl rfl
      have v2 := o1_eval (φ := callF T n) (o := .isi "bool") (a := .var 4) (e := [.d (netP m ss), .d (setP wss), .d (stP st), .d (tupN ws), .d (natD w)]) (w := .d (.bool false)) (op_var rfl) rfl rfl
      have tp := tup_ev (φ := callF T n) (e := [.d (netP m ss), .d (setP wss), .d (stP st), .d (tupN ws), .d (natD w)]) (ds_cons (da_int (i := 0)) (ds_cons (da_int (i := 1)) ds_nil)) (show (2 : Nat) ≤ 1000 by decide)
      have inn := in_nats (ns := [0, 1]) (x := w)
      have v3 := o2_eval (o := .notin) (a := .var 4) (w := .d (.bool false)) (op_var rfl) (op_v rfl tp) rfl rfl (by
        have hin : inD (natD w) (tupN [0, 1]) = some true := by
          cases hc : inD (natD w) (tupN [0, 1]) with
          | none =>
            have : op2 .inn (natD w) (tupN [0, 1]) = none := by show (inD (natD w) (tupN [0, 1])).map (fun b => V.d (.bool b)) = _; rw [hc]; rfl
            rw [inn] at this
            cases this
          | some b =>
            have : op2 .inn (natD w) (tupN [0, 1]) = some (.d (.bool b)) := by show (inD (natD w) (tupN [0, 1])).map (fun b => V.d (.bool b)) = _; rw [hc]; rfl
            rw [inn] at this
            injection this with h1
            injection h1 with h2
            injection h2 with h3
            rw [← h3]
            have : w ∈ [0, 1] := by
              match w, hw with
              | 0, _ => simp
              | 1, _ => simp
            rw [decide_eq_true this]
        show (inD (natD w) (tupN [0, 1])).map (fun b => V.d (.bool (!b))) = _
        rw [hin]; rfl)
      exact t_or (x := false) (y := false) (t_not (x := true) (t_e v1 rfl)) (fun _ => t_or (x := false) (y := false) (t_e v2 rfl) (fun _ => t_e v3 rfl) (fun h => by cases h)) (fun h => by cases h)
    exact wp_nf (t_e (e_ne (r := true) (op_v rfl c0) (op_v rfl (lst_ev ds_nil (by decide))) rfl rfl (eqD_lstN [] [])) rfl) (wp_nil ⟨rfl, ss', wss', h5, k3, fun t ht => h3 t (List.mem_cons_of_mem _ ht)⟩)
theorem row_ok {T : Tab} (hD : T "_law_draw" = some b_draw4) (hRw : T "_law_row" = some b_law_row) (n : Nat) (a s : Int) (c m : Nat) (hm : m ≤ 32) (hc : c < 1000000) :
    ∃ (L : List Int) (a' : Int) (c' : Nat) (y : V), callF T (n + 2) "_law_row" [.c (dk a s c), .d (natD m)] = .ok (.d (.tuple (iD L)), [.c (dk a' s c'), y]) ∧ L.length = m ∧ (∀ x ∈ L, x.natAbs < 10 ^ 40) ∧ c' ≤ c + 1000 := by
  suffices h : ∃ v outs, callF T (n + 2) "_law_row" [.c (dk a s c), .d (natD m)] = .ok (v, outs) ∧ ∃ (L : List Int) (a' : Int) (c' : Nat) (y : V), v = .d (.tuple (iD L)) ∧ outs = [.c (dk a' s c'), y] ∧ L.length = m ∧ (∀ x ∈ L, x.natAbs < 10 ^ 40) ∧ c' ≤ c + 1000 by
    obtain ⟨v, outs, h, L, a', c', y, rfl, rfl, h2⟩ := h
    exact ⟨L, a', c', y, h, h2⟩
  refine call_wp (fun v outs => ∃ (L : List Int) (a' : Int) (c' : Nat) (y : V), v = .d (.tuple (iD L)) ∧ outs = [.c (dk a' s c'), y] ∧ L.length = m ∧ (∀ x ∈ L, x.natAbs < 10 ^ 40) ∧ c' ≤ c + 1000) (fd := b_law_row) hRw rfl ?_
  refine (show Wp _ (Sw.execs (callF T (n + 1)) b_law_row.body [.c (dk a s c), .d (natD m), .u, .u, .u, .u, .u]) from ?_)
  simp only [b_law_row, Ss.of]
  obtain ⟨way, a1, c1, d1, hway, hc1⟩ := draw4 hD n a s c 5 (by decide) (by decide) (by omega)
  refine wp_asg (s1_ev (i := 0) rfl (op_v rfl int_eval) rfl d1) ?_
  refine wp_asg (w := .c []) (lst_ev ds_nil (by decide)) ?_
  refine wp_forN (src_n (da_var (i := 1) (d := natD m) rfl) (by omega)) (fun j e => ∃ (a : Int) (c2 : Nat) (L : List Int), e = [.c (dk a s c2), .d (natD m), .d (natD way), .c (iD L), .u, .u, .u] ∧ L.length = j ∧ (∀ x ∈ L, x.natAbs < 10 ^ 40) ∧ c2 ≤ c1 + 10 * j) ⟨a1, c1, [], rfl, rfl, by simp, by omega⟩ (fun e he => ?_) fun j e hj he => ?_
  · obtain ⟨a2, c2, L, rfl, q1, q2, q3⟩ := he
    exact wp_ret (o1_eval (w := .d (.tuple (iD L))) (op_var rfl) rfl rfl) ⟨L, a2, c2, _, rfl, rfl, q1, q2, by omega⟩
  obtain ⟨a2, c2, L, rfl, q1, q2, q3⟩ := he
  have m1 := o2_eval (φ := callF T (n + 1)) (o := .add) (a := .var 1) (b := .int 1) (e := [.c (dk a2 s c2), .d (natD m), .d (natD way), .c (iD L), .d (natD j), .u, .u]) (op_var rfl) (op_v rfl int_eval) rfl rfl (o_add (b := 1))
  have l5 := lst_ev (ds := natsD [2, 3, m + 1, 1000003, 1000003]) (ds_cons (da_int (i := 2)) (ds_cons (da_int (i := 3)) (ds_cons (da_of m1 rfl) (ds_cons (da_int (i := 1000003)) (ds_cons (da_int (i := 1000003)) ds_nil))))) (show (5 : Nat) ≤ 1000 by decide)
  have i5 := o2_eval (o := .idx) (b := .var 2) (op_v rfl l5) (op_var rfl) rfl rfl (idx_natL (q := [2, 3, m + 1, 1000003, 1000003]) (i := way) hway)
  have hmost : 0 < [2, 3, m + 1, 1000003, 1000003].getD way 0 ∧ [2, 3, m + 1, 1000003, 1000003].getD way 0 ≤ 1000003 := by
    match way, hway with
    | 0, _ => exact ⟨by show (0 : Nat) < 2; decide, by show (2 : Nat) ≤ 1000003; decide⟩
    | 1, _ => exact ⟨by show (0 : Nat) < 3; decide, by show (3 : Nat) ≤ 1000003; decide⟩
    | 2, _ => exact ⟨by show 0 < m + 1; omega, by show m + 1 ≤ 1000003; omega⟩
    | 3, _ => exact ⟨by show (0 : Nat) < 1000003; decide, by show (1000003 : Nat) ≤ 1000003; decide⟩
    | 4, _ => exact ⟨by show (0 : Nat) < 1000003; decide, by show (1000003 : Nat) ≤ 1000003; decide⟩
  generalize [2, 3, m + 1, 1000003, 1000003].getD way 0 = most at i5 hmost
  obtain ⟨k, a3, c3, d3, hk, hc3⟩ := draw4 hD n a2 s c2 most hmost.1 (by omega) (by omega)
  have w1 := o2_eval (φ := callF T (n + 1)) (o := .eq) (a := .var 2) (b := .int 1) (e := [.c (dk a3 s c3), .d (natD m), .d (natD way), .c (iD L), .d (natD j), .u, .u]) (op_var rfl) (op_v rfl int_eval) rfl rfl (o_eq (b := 1))
  have w2 := o1_eval (op_v rfl w1) rfl (int_bool _)
  generalize hbit : (if decide (way = 1) = true then 1 else 0) = bit at w2
  have hbit2 : bit ≤ 1 := by rw [← hbit]; split <;> omega
  refine wp_asg (o2_eval (o := .sub) (w := .d (.int ((k : Int) - (bit : Int)))) (op_v rfl (s1_ev (i := 0) rfl (op_v rfl i5) rfl d3)) (op_v rfl w2) rfl rfl rfl) ?_
  have l6 := lst_ev (φ := callF T (n + 1)) (e := [.c (dk a3 s c3), .d (natD m), .d (natD way), .c (iD L), .d (natD j), .d (.int ((k : Int) - (bit : Int))), .u]) (ds := natsD [0, 0, 0, 1, 5]) (ds_cons da_int (ds_cons da_int (ds_cons da_int (ds_cons da_int (ds_cons da_int ds_nil))))) (show (5 : Nat) ≤ 1000 by decide)
  have i6 := o2_eval (o := .idx) (b := .var 2) (op_v rfl l6) (op_var rfl) rfl rfl (idx_natL (q := [0, 0, 0, 1, 5]) (i := way) hway)
  have hr : [0, 0, 0, 1, 5].getD way 0 ≤ 5 := by
    have : ∀ w < 5, [0, 0, 0, 1, 5].getD w 0 ≤ 5 := by decide
    exact this way hway
  generalize [0, 0, 0, 1, 5].getD way 0 = rr at i6 hr
  have tail : ∀ (x : Int) (a : Int) (c4 : Nat), x.natAbs < 10 ^ 40 → c4 ≤ c3 + 5 → Wp ⟨fun e1 => ∃ (a : Int) (c2' : Nat) (L' : List Int), killAll [4, 5, 6] e1 = [.c (dk a s c2'), .d (natD m), .d (natD way), .c (iD L'), .u, .u, .u] ∧ L'.length = j + 1 ∧ (∀ x ∈ L', x.natAbs < 10 ^ 40) ∧ c2' ≤ c1 + 10 * (j + 1), fun _ => False, fun _ => False, fun _ _ => False⟩
      (Sw.execs (callF T (n + 1)) (.cons (.iff (.e (.o2 .gt (.var 2) (.int 2))) (.cons (.asg 5 (.o2 .idx (.lst (.of [(.var 5), (.o2 .sub (.int 0) (.var 5))])) (.call "_law_draw" (.of [(.var 0), (.int 2)])))) .nil) .nil) (.cons (.ex (.app 3 (.var 5))) .nil)) [.c (dk a s c4), .d (natD m), .d (natD way), .c (iD L), .d (natD j), .d (.int x), .u]) := by
    intro x a c4 hx hc4
    have Ll : L.length < 1000000 := by omega
    have fin : ∀ (x : Int) (a : Int) (c5 : Nat), x.natAbs < 10 ^ 40 → c5 ≤ c4 + 1 → Wp ⟨fun e1 => ∃ (a : Int) (c2' : Nat) (L' : List Int), killAll [4, 5, 6] e1 = [.c (dk a s c2'), .d (natD m), .d (natD way), .c (iD L'), .u, .u, .u] ∧ L'.length = j + 1 ∧ (∀ x ∈ L', x.natAbs < 10 ^ 40) ∧ c2' ≤ c1 + 10 * (j + 1), fun _ => False, fun _ => False, fun _ _ => False⟩
        (Sw.execs (callF T (n + 1)) (.cons (.ex (.app 3 (.var 5))) .nil) [.c (dk a s c5), .d (natD m), .d (natD way), .c (iD L), .d (natD j), .d (.int x), .u]) := by
      intro x a c5 hx hc5
      refine wp_ex (app_ev rfl (da_var (i := 5) (d := .int x) rfl) rfl (by rw [iD_len]; exact Ll)) (wp_nil ⟨a, c5, L ++ [x], ?_, by simp [q1], ?_, by omega⟩)
      · have : iD L ++ [.int x] = iD (L ++ [x]) := by unfold iD; rw [List.map_append]; rfl
        rw [this]; rfl
      · intro y hy
        rcases List.mem_append.mp hy with z | z
        · exact q2 y z
        · have := List.mem_singleton.mp z
          subst this
          exact hx
    have g1 := o2_eval (φ := callF T (n + 1)) (o := .gt) (a := .var 2) (b := .int 2) (e := [.c (dk a s c4), .d (natD m), .d (natD way), .c (iD L), .d (natD j), .d (.int x), .u]) (op_var rfl) (op_v rfl int_eval) rfl rfl (o_gt (b := 2))
    refine wp_if1 (t_e g1 rfl) (fun _ => ?_) fun _ => ?_
    · obtain ⟨k2, a5, c5, d5, hk2, hc5⟩ := draw4 hD n a s c4 2 (by decide) (by decide) (by omega)
      have s0 := o2_eval (φ := callF T (n + 1)) (o := .sub) (a := .int 0) (b := .var 5) (e := [.c (dk a s c4), .d (natD m), .d (natD way), .c (iD L), .d (natD j), .d (.int x), .u]) (w := .d (.int (0 - x))) (op_v rfl int_eval) (op_var rfl) rfl rfl rfl
      have l2 := lst_ev (ds := iD [x, 0 - x]) (ds_cons (da_var (φ := callF T (n + 1)) (i := 5) (e := [.c (dk a s c4), .d (natD m), .d (natD way), .c (iD L), .d (natD j), .d (.int x), .u]) (d := .int x) rfl) (ds_cons (da_of s0 rfl) ds_nil)) (show (2 : Nat) ≤ 1000 by decide)
      refine wp_asg (o2_eval (o := .idx) (op_v rfl l2) (op_v rfl (s1_ev (i := 0) (b := .int 2) rfl (op_v rfl int_eval) rfl d5)) rfl rfl (idx_i (L := [x, 0 - x]) rfl hk2)) (wp_nil ?_)
      refine fin _ a5 c5 ?_ (by omega)
      match k2, hk2 with
      | 0, _ => exact hx
      | 1, _ => show (0 - x).natAbs < 10 ^ 40; rw [Int.zero_sub, Int.natAbs_neg]; exact hx
    · exact fin x a c4 hx (by omega)
  have pw : ∀ t : Nat, t ≤ 6 → 1000003 ^ t ≤ 1000003 ^ 6 := fun t ht => Nat.pow_le_pow_right (by decide) ht
  refine wp_forN (src_n (da_of i6 rfl) (by omega)) (fun t e => ∃ (x a : Int) (c4 : Nat), e = [.c (dk a s c4), .d (natD m), .d (natD way), .c (iD L), .d (natD j), .d (.int x), .u] ∧ x.natAbs < 1000003 ^ (t + 1) ∧ c4 ≤ c3 + t) ⟨(k : Int) - (bit : Int), a3, c3, rfl, by omega, by omega⟩ (fun e he => ?_) fun t e ht he => ?_
  · obtain ⟨x, a, c4, rfl, r1, r2⟩ := he
    have hx : x.natAbs < 10 ^ 40 := by
      have := pw (rr + 1) (by omega)
      have h6 : (1000003 : Nat) ^ 6 < 10 ^ 40 := by decide
      omega
    refine wp_mono (tail x a c4 hx (by omega)) (fun e1 z => ?_) (fun _ z => z.elim) (fun _ z => z.elim) (fun _ _ z => z.elim)
    obtain ⟨a', c', L', z1, z2⟩ := z
    exact ⟨a', c', L', z1, z2⟩
  · obtain ⟨x, a, c4, rfl, r1, r2⟩ := he
    obtain ⟨k7, a7, c7, d7, hk7, hc7⟩ := draw4 hD n a s c4 1000003 (by decide) (by decide) (by omega)
    have ml := o2_eval (φ := callF T (n + 1)) (o := .mul) (a := .var 5) (b := .int 1000003) (e := [.c (dk a s c4), .d (natD m), .d (natD way), .c (iD L), .d (natD j), .d (.int x), .d (natD t)]) (w := .d (.int (x * 1000003))) (op_var rfl) (op_v rfl int_eval) rfl rfl (by
      show (if x.natAbs < 2 ^ 64 ∨ (1000003 : Int).natAbs < 2 ^ 64 ∨ _ then some (V.d (.int (x * 1000003))) else none) = _
      rw [if_pos (.inr (.inl (by decide)))])
    refine wp_asg (o2_eval (o := .add) (w := .d (.int (x * 1000003 + (k7 : Int)))) (op_v rfl ml) (op_v rfl (s1_ev (i := 0) (b := .int 1000003) rfl (op_v rfl int_eval) rfl d7)) rfl rfl rfl) (wp_nil ⟨x * 1000003 + (k7 : Int), a7, c7, rfl, ?_, by omega⟩)
    have h1 : (x * 1000003 + (k7 : Int)).natAbs ≤ x.natAbs * 1000003 + k7 := by omega
    have h2 : (x.natAbs + 1) * 1000003 ≤ 1000003 ^ (t + 1) * 1000003 := Nat.mul_le_mul_right _ r1
    have h3 : (1000003 : Nat) ^ (t + 1 + 1) = 1000003 ^ (t + 1) * 1000003 := Nat.pow_succ _ _
    omega
end Sw
end T_SxQ
section T_SxR
set_option autoImplicit false
set_option linter.all false
set_option maxRecDepth 100000
set_option maxHeartbeats 2000000
/-! SxR: rows of 0 and 1 tell of all rows; sorting by comparing. -/
namespace Sw
open PySem
def Up (L : List Int) : Prop := L.Pairwise (· ≤ ·)
theorem gdi_map {L : List Int} {f : Int → Int} {i : Nat} (h : i < L.length) : (L.map f).getD i 0 = f (L.getD i 0) := gd_map h
theorem set_self' {α : Type} {L : List α} {i : Nat} {d : α} (h : i < L.length) : L.set i (L.getD i d) = L := by
  apply List.ext_getElem?
  intro j
  by_cases e : i = j
  · subst e
    rw [List.getElem?_set_self h, List.getElem?_eq_getElem h, List.getD_eq_getElem?_getD, List.getElem?_eq_getElem h]; rfl
  · rw [List.getElem?_set_ne e]
theorem cl_map {f : Int → Int} (mono : ∀ x y, x ≤ y → f x ≤ f y) {L : List Int} {p : Nat × Nat} (h1 : p.1 < L.length) (h2 : p.2 < L.length) : cl (L.map f) p = (cl L p).map f := by
  unfold cl
  rw [gdi_map h1, gdi_map h2]
  by_cases h : L.getD p.2 0 < L.getD p.1 0
  · rw [if_pos h]
    have hm := mono _ _ (Int.le_of_lt h)
    by_cases k : f (L.getD p.2 0) < f (L.getD p.1 0)
    · rw [if_pos k, List.map_set, List.map_set]
    · have e : f (L.getD p.2 0) = f (L.getD p.1 0) := by omega
      rw [if_neg k, List.map_set, List.map_set]
      have s1 : (L.map f).set p.1 (f (L.getD p.2 0)) = L.map f := by
        rw [e, ← gdi_map (f := f) h1]
        exact set_self' (by rw [List.length_map]; exact h1)
      rw [s1, ← e, ← gdi_map (f := f) h2]
      exact (set_self' (by rw [List.length_map]; exact h2)).symm
  · rw [if_neg h]
    have hm := mono _ _ (Int.not_lt.mp h)
    rw [if_neg (by omega)]
theorem cLs_map {m : Nat} {f : Int → Int} (mono : ∀ x y, x ≤ y → f x ≤ f y) : ∀ (S : List (Nat × Nat)) (L : List Int), L.length = m → (∀ p ∈ S, p.1 < p.2 ∧ p.2 < m) → cLs S (L.map f) = (cLs S L).map f
  | [], _, _, _ => rfl
  | p :: S, L, hl, hp => by
    have q := hp p List.mem_cons_self
    show cLs S (cl (L.map f) p) = (cLs S (cl L p)).map f
    rw [cl_map mono (by omega) (by omega)]
    exact cLs_map mono S (cl L p) (by rw [cl_len, hl]) fun r hr => hp r (List.mem_cons_of_mem _ hr)
theorem nLs_map {m : Nat} {f : Int → Int} (mono : ∀ x y, x ≤ y → f x ≤ f y) : ∀ (S : List (List (Nat × Nat))) (L : List Int), L.length = m → (∀ st ∈ S, GSt m st) → nLs S (L.map f) = (nLs S L).map f
  | [], _, _, _ => rfl
  | st :: S, L, hl, hs => by
    show nLs S (cLs st (L.map f)) = (nLs S (cLs st L)).map f
    rw [cLs_map mono st L hl (hs st List.mem_cons_self).lt]
    exact nLs_map mono S (cLs st L) (by rw [cLs_len, hl]) fun t ht => hs t (List.mem_cons_of_mem _ ht)
/-! ### as many of each -/
theorem split_i {L : List Int} {i : Nat} (h : i < L.length) : ∃ A C, L = A ++ L.getD i 0 :: C ∧ A.length = i := by
  refine ⟨L.take i, L.drop (i + 1), ?_, by rw [List.length_take]; omega⟩
  have e : L.getD i 0 = L[i] := by rw [List.getD_eq_getElem?_getD, List.getElem?_eq_getElem h]; rfl
  rw [e, ← List.drop_eq_getElem_cons h, List.take_append_drop]
theorem gdi_right {A R : List Int} {x : Int} {k : Nat} : (A ++ x :: R).getD (A.length + 1 + k) 0 = R.getD k 0 := by
  rw [List.getD_eq_getElem?_getD, List.getElem?_append_right (by omega), show A.length + 1 + k - A.length = k + 1 by omega, List.getElem?_cons_succ, ← List.getD_eq_getElem?_getD]
theorem swp_perm {L : List Int} {i j : Nat} (hij : i < j) (hj : j < L.length) : ((L.set i (L.getD j 0)).set j (L.getD i 0)).Perm L := by
  obtain ⟨A, R, e1, hA⟩ := split_i (L := L) (i := i) (by omega)
  generalize hx : L.getD i 0 = x at e1
  have hR : j - i - 1 < R.length := by
    have := congrArg List.length e1
    rw [List.length_append, List.length_cons] at this
    omega
  obtain ⟨B, C, e2, hB⟩ := split_i (L := R) (i := j - i - 1) hR
  have hy : R.getD (j - i - 1) 0 = L.getD j 0 := by
    have := gdi_right (A := A) (R := R) (x := x) (k := j - i - 1)
    rw [← e1, show A.length + 1 + (j - i - 1) = j by omega] at this
    exact this.symm
  rw [hy] at e2
  generalize hg : L.getD j 0 = y at e2 hy
  subst e2
  have e3 : (L.set i y).set j x = A ++ y :: (B ++ x :: C) := by
    rw [e1, ← hA, List.set_append_right _ _ (Nat.le_refl _), Nat.sub_self, List.set_cons_zero, List.set_append_right _ _ (by omega), show j - A.length = (B.length) + 1 by omega, List.set_cons_succ, List.set_append_right _ _ (Nat.le_refl _), Nat.sub_self, List.set_cons_zero]
  rw [e3]
  have p : (A ++ y :: (B ++ x :: C)).Perm (A ++ x :: (B ++ y :: C)) := by
    refine List.Perm.append_left A ?_
    refine (List.perm_middle.cons y).trans ?_
    refine (List.Perm.swap ..).trans ?_
    exact (List.perm_middle.symm).cons x
  rw [e1]
  exact p
theorem cl_perm {L : List Int} {p : Nat × Nat} (h1 : p.1 < p.2) (h2 : p.2 < L.length) : (cl L p).Perm L := by
  unfold cl
  split
  · exact swp_perm h1 h2
  · exact .refl _
theorem cLs_perm {m : Nat} : ∀ (S : List (Nat × Nat)) (L : List Int), L.length = m → (∀ p ∈ S, p.1 < p.2 ∧ p.2 < m) → (cLs S L).Perm L
  | [], _, _, _ => .refl _
  | p :: S, L, hl, hp => by
    have q := hp p List.mem_cons_self
    exact (cLs_perm S (cl L p) (by rw [cl_len, hl]) fun r hr => hp r (List.mem_cons_of_mem _ hr)).trans (cl_perm q.1 (by omega))
theorem nLs_perm {m : Nat} : ∀ (S : List (List (Nat × Nat))) (L : List Int), L.length = m → (∀ st ∈ S, GSt m st) → (nLs S L).Perm L
  | [], _, _, _ => .refl _
  | st :: S, L, hl, hs => (nLs_perm S (cLs st L) (by rw [cLs_len, hl]) fun t ht => hs t (List.mem_cons_of_mem _ ht)).trans (cLs_perm st L hl (hs st List.mem_cons_self).lt)
/-! ### sorted -/
theorem insI_pm (x : Int) : ∀ l, (insI x l).Perm (x :: l)
  | [] => .refl _
  | y :: r => by
    unfold insI
    split
    · exact ((insI_pm x r).cons y).trans (List.Perm.swap ..)
    · exact .refl _
theorem sortI_pm : ∀ l, (sortI l).Perm l
  | [] => .refl _
  | x :: r => (insI_pm x _).trans ((sortI_pm r).cons x)
theorem insI_up (x : Int) : ∀ {l}, Up l → Up (insI x l)
  | [], _ => List.pairwise_singleton _ _
  | y :: r, h => by
    have h2 := List.pairwise_cons.mp h
    unfold insI
    split
    · rename_i z
      refine List.pairwise_cons.mpr ⟨fun a ha => ?_, insI_up x h2.2⟩
      rcases List.mem_cons.mp ((insI_pm x r).mem_iff.mp ha) with q | q
      · omega
      · exact h2.1 a q
    · rename_i z
      refine List.pairwise_cons.mpr ⟨fun a ha => ?_, h⟩
      rcases List.mem_cons.mp ha with q | q
      · omega
      · have := h2.1 a q; omega
theorem sortI_up : ∀ l, Up (sortI l)
  | [] => .nil
  | x :: r => insI_up x (sortI_up r)
theorem up_eq : ∀ {a b : List Int}, Up a → Up b → a.Perm b → a = b
  | [], b, _, _, p => by rw [List.nil_perm.mp p]
  | x :: a, [], _, _, p => by have := p.length_eq; simp at this
  | x :: a, y :: b, ha, hb, p => by
    have h1 := List.pairwise_cons.mp ha
    have h2 := List.pairwise_cons.mp hb
    have e : x = y := by
      have m1 : x ∈ y :: b := p.mem_iff.mp List.mem_cons_self
      have m2 : y ∈ x :: a := p.mem_iff.mpr List.mem_cons_self
      rcases List.mem_cons.mp m1 with q | q
      · exact q
      · rcases List.mem_cons.mp m2 with r | r
        · exact r.symm
        · have := h1.1 y r; have := h2.1 x q; omega
    subst e
    rw [up_eq h1.2 h2.2 (List.perm_cons x |>.mp p)]
theorem up_sort {L X : List Int} (h : Up X) (p : X.Perm L) : X = sortI L := up_eq h (sortI_up L) (p.trans (sortI_pm L).symm)
/-! ### rows of 0 and 1 -/
def th (t : Int) (x : Int) : Int := if t ≤ x then 1 else 0
theorem th_mono (t : Int) : ∀ x y, x ≤ y → th t x ≤ th t y := fun x y h => by
  unfold th
  split <;> split <;> omega
theorem up_of {X : List Int} (h : ∀ t, Up (X.map (th t))) : Up X := by
  refine List.pairwise_iff_getElem.mpr fun i j hi hj hij => ?_
  have k := List.pairwise_iff_getElem.mp (h X[i]) i j (by rw [List.length_map]; exact hi) (by rw [List.length_map]; exact hj) hij
  rw [List.getElem_map, List.getElem_map] at k
  unfold th at k
  rw [if_pos (Int.le_refl _)] at k
  split at k
  · assumption
  · omega
theorem up_map {f : Int → Int} (mono : ∀ x y, x ≤ y → f x ≤ f y) {L : List Int} (h : Up L) : Up (L.map f) := List.pairwise_map.mpr (h.imp fun z => mono _ _ z)
theorem zo_of : ∀ {Z : List Int}, (∀ x ∈ Z, x = 0 ∨ x = 1) → Up Z → ∃ k ≤ Z.length, Z = List.replicate (Z.length - k) 0 ++ List.replicate k 1
  | [], _, _ => ⟨0, Nat.le_refl _, rfl⟩
  | x :: Z, h, u => by
    have u2 := List.pairwise_cons.mp u
    obtain ⟨k, hk, e⟩ := zo_of (fun y hy => h y (List.mem_cons_of_mem _ hy)) u2.2
    rcases h x List.mem_cons_self with z | z
    · subst z
      refine ⟨k, by rw [List.length_cons]; omega, ?_⟩
      rw [List.length_cons, show Z.length + 1 - k = (Z.length - k) + 1 by omega, List.replicate_succ, List.cons_append, ← e]
    · subst z
      have all1 : ∀ y ∈ Z, y = 1 := fun y hy => by
        have := u2.1 y hy
        rcases h y (List.mem_cons_of_mem _ hy) with q | q <;> omega
      refine ⟨Z.length + 1, by rw [List.length_cons]; exact Nat.le_refl _, ?_⟩
      rw [List.length_cons, Nat.sub_self, List.replicate_zero, List.nil_append, List.replicate_succ]
      congr 1
      exact List.eq_replicate_of_mem all1
def zo (h i j : Nat) : List Int := (List.replicate (h - i) 0 ++ List.replicate i 1) ++ (List.replicate (h - j) 0 ++ List.replicate j 1)
def upB : List Int → Bool
  | [] => true
  | x :: r => r.all (fun y => decide (x ≤ y)) && upB r
theorem upB_of : ∀ {L : List Int}, upB L = true → Up L
  | [], _ => .nil
  | x :: r, h => by
    have h : (r.all (fun y => decide (x ≤ y)) && upB r) = true := h
    rw [Bool.and_eq_true, List.all_eq_true] at h
    exact List.pairwise_cons.mpr ⟨fun a ha => of_decide_eq_true (h.1 a ha), upB_of h.2⟩
/-- a net merges two rising rows of 0 and 1 -/
def mchk (h : Nat) (ss : List (List (Nat × Nat))) : Bool := (List.range (h + 1)).all fun i => (List.range (h + 1)).all fun j => upB (nLs ss (zo h i j))
theorem th_zo (t x : Int) : th t x = 0 ∨ th t x = 1 := by unfold th; split <;> omega
theorem merges {h : Nat} {ss : List (List (Nat × Nat))} (c : mchk h ss = true) (hs : ∀ st ∈ ss, GSt (2 * h) st) {A B : List Int} (ha : Up A) (hb : Up B) (la : A.length = h) (lb : B.length = h) : Up (nLs ss (A ++ B)) := by
  refine up_of fun t => ?_
  rw [← nLs_map (th_mono t) ss (A ++ B) (by rw [List.length_append]; omega) hs, List.map_append]
  obtain ⟨i, hi, e1⟩ := zo_of (Z := A.map (th t)) (fun x hx => by obtain ⟨y, _, rfl⟩ := List.mem_map.mp hx; exact th_zo t y) (up_map (th_mono t) ha)
  obtain ⟨j, hj, e2⟩ := zo_of (Z := B.map (th t)) (fun x hx => by obtain ⟨y, _, rfl⟩ := List.mem_map.mp hx; exact th_zo t y) (up_map (th_mono t) hb)
  rw [List.length_map, la] at hi e1
  rw [List.length_map, lb] at hj e2
  rw [e1, e2]
  have c1 := List.all_eq_true.mp c i (by simpa using (by omega : i < h + 1))
  have c2 := List.all_eq_true.mp c1 j (by simpa using (by omega : j < h + 1))
  exact upB_of c2
/-! ### as data -/
theorem ints_iD : ∀ L : List Int, intsOf (iD L) = some L
  | [] => rfl
  | x :: r => by
    show (intsOf (iD r)).map (x :: ·) = _
    rw [ints_iD r]; rfl
theorem q_sortT {L : List Int} : op1 .sorted (.tuple (iD L)) = some (.c (iD (sortI L))) := by
  show ((some (iD L)).bind fun xs => (sortD xs).map V.c) = _
  simp only [Option.bind_some]
  unfold sortD
  rw [ints_iD]; rfl
theorem eqv_iD : ∀ L : List Int, PyData.eqvAll (iD L) (iD L) = true
  | [] => rfl
  | x :: r => by
    show ((x == x) && PyData.eqvAll (iD r) (iD r)) = true
    rw [eqv_iD r]; simp
theorem lay_iD : ∀ L : List Int, PyData.canLayAll0 (iD L) = true ∧ PyData.depthAll (iD L) ≤ 1
  | [] => ⟨rfl, by simp [iD, PyData.depthAll]⟩
  | x :: r => by
    obtain ⟨h1, h2⟩ := lay_iD r
    refine ⟨?_, ?_⟩
    · show (true && PyData.canLayAll0 (iD r)) = true
      rw [h1]; rfl
    · have : PyData.depthAll (iD (x :: r)) = max (PyData.int x).depth (PyData.depthAll (iD r)) := by simp [iD, PyData.depthAll]
      rw [this]
      simp [PyData.depth]
      omega
theorem q_eqI {L : List Int} : op2 .eq (.list (iD L)) (.list (iD L)) = some (.d (.bool true)) := by
  obtain ⟨h1, h2⟩ := lay_iD L
  have sh : shapedB (.list (iD L)) = true := by
    unfold shapedB
    simp only [PyData.canLay0, PyData.depth, h1, Bool.true_and]
    exact decide_eq_true (by omega)
  refine q_eq' ?_
  show (if shapedB (.list (iD L)) && shapedB (.list (iD L)) then some (PyData.eqv (.list (iD L)) (.list (iD L))) else none) = _
  rw [sh]
  show some (PyData.eqvAll (iD L) (iD L)) = _
  rw [eqv_iD]
theorem sg_told {m : Nat} {ss : List (List (Nat × Nat))} {L : List Int} (hs : ∀ st ∈ ss, GSt m st) (hl : L.length = m) (hm : m ≤ 32) (hn : ss.length ≤ 20) (hx : ∀ x ∈ L, x.natAbs < 10 ^ 40) : okRepr (told ss L) = true := by
  have k1 : Sg 2 4500 (.tuple (iD (nLs ss L))) := (sg_tup (d := 1) (w := 133) fun x h => by
    obtain ⟨i, hi, rfl⟩ := List.mem_map.mp h
    exact sg_int (hx i (nLs_mem ss L hl hs i hi))).mono (by decide) (by rw [iD_len, nLs_len]; omega)
  have k2 : Sg 3 4500 (setP (nWs ss L)) := by
    have lens : ∀ (S : List (List (Nat × Nat))) (L : List Int), (∀ st ∈ S, GSt m st) → ∀ ws ∈ nWs S L, ws.length ≤ 16 ∧ ∀ w ∈ ws, w < 2 := by
      intro S
      induction S with
      | nil => intro L _ ws h; cases h
      | cons st S ih =>
        intro L h ws hw
        rcases List.mem_cons.mp hw with z | z
        · have g := h st List.mem_cons_self
          rw [z, cWs_len]
          exact ⟨by have := g.len; omega, cWs_lt st L⟩
        · exact ih _ (fun t ht => h t (List.mem_cons_of_mem _ ht)) ws z
    refine (sg_tup (d := 2) (w := 32) (xs := (nWs ss L).map tupN) fun x h => ?_).mono (by decide) (by rw [List.length_map, nWs_len]; omega)
    obtain ⟨ws, hw, rfl⟩ := List.mem_map.mp h
    obtain ⟨h1, h2⟩ := lens ss L hs ws hw
    refine (sg_tup (d := 1) (w := 1) (xs := natsD ws) fun y hy => ?_).mono (by decide) (by rw [natsD_len]; omega)
    obtain ⟨w, hw, rfl⟩ := List.mem_map.mp hy
    exact sg_bit (h2 w hw)
  refine ((sg_tup (d := 3) (w := 4500) (xs := [.tuple (iD (nLs ss L)), setP (nWs ss L)]) fun x h => ?_).mono (d' := 4) (w' := 9002) (by decide) (by simp)).repr (by decide) (by decide)
  rcases List.mem_cons.mp h with z | z
  · subst z; exact k1.mono (by decide) (by decide)
  · have := List.mem_singleton.mp z
    subst this; exact k2
theorem q_neI {L : List Int} : op2 .ne (.list (iD L)) (.list (iD L)) = some (.d (.bool false)) := by
  have h := q_eqI (L := L)
  simp only [op2] at h ⊢
  cases z : eqD (.list (iD L)) (.list (iD L)) with
  | none => rw [z] at h; cases h
  | some b =>
    rw [z] at h
    simp only [Option.map_some] at h ⊢
    cases b
    · cases h
    · rfl
theorem q_revI {L : List Int} : op1 .rev (.tuple (iD L)) = some (.d (.tuple (iD L.reverse))) := by
  show some (V.d (.tuple (iD L).reverse)) = _
  unfold iD
  rw [List.map_reverse]
/-! ### two halves side by side -/
theorem cl_left {A B : List Int} {p : Nat × Nat} (h1 : p.1 < A.length) (h2 : p.2 < A.length) : cl (A ++ B) p = cl A p ++ B := by
  unfold cl
  rw [gd_left h1, gd_left h2]
  split
  · rw [List.set_append_left _ _ h1, List.set_append_left _ _ (by rw [List.length_set]; exact h2)]
  · rfl
theorem gdi_shift {A B : List Int} {i : Nat} : (A ++ B).getD (i + A.length) 0 = B.getD i 0 := by
  rw [List.getD_eq_getElem?_getD, List.getElem?_append_right (by omega), Nat.add_sub_cancel, ← List.getD_eq_getElem?_getD]
theorem cl_right {A B : List Int} {p : Nat × Nat} {h : Nat} (hA : A.length = h) : cl (A ++ B) (p.1 + h, p.2 + h) = A ++ cl B p := by
  subst hA
  unfold cl
  show (if (A ++ B).getD (p.2 + A.length) 0 < (A ++ B).getD (p.1 + A.length) 0 then ((A ++ B).set (p.1 + A.length) ((A ++ B).getD (p.2 + A.length) 0)).set (p.2 + A.length) ((A ++ B).getD (p.1 + A.length) 0) else A ++ B) = _
  rw [gdi_shift, gdi_shift]
  split
  · rw [List.set_append_right _ _ (by omega), Nat.add_sub_cancel, List.set_append_right _ _ (by omega), Nat.add_sub_cancel]
  · rfl
theorem cLs_app : ∀ (S T : List (Nat × Nat)) (L : List Int), cLs (S ++ T) L = cLs T (cLs S L)
  | [], _, _ => rfl
  | p :: S, T, L => cLs_app S T (cl L p)
theorem nLs_app : ∀ (S T : List (List (Nat × Nat))) (L : List Int), nLs (S ++ T) L = nLs T (nLs S L)
  | [], _, _ => rfl
  | st :: S, T, L => nLs_app S T (cLs st L)
theorem cLs_left {m : Nat} : ∀ (S : List (Nat × Nat)) (A B : List Int), A.length = m → (∀ p ∈ S, p.1 < p.2 ∧ p.2 < m) → cLs S (A ++ B) = cLs S A ++ B
  | [], _, _, _, _ => rfl
  | p :: S, A, B, hA, hp => by
    have q := hp p List.mem_cons_self
    show cLs S (cl (A ++ B) p) = cLs S (cl A p) ++ B
    rw [cl_left (by omega) (by omega)]
    exact cLs_left S (cl A p) B (by rw [cl_len, hA]) fun r hr => hp r (List.mem_cons_of_mem _ hr)
theorem cLs_right {h : Nat} : ∀ (S : List (Nat × Nat)) (A B : List Int), A.length = h → cLs (sh h S) (A ++ B) = A ++ cLs S B
  | [], _, _, _ => rfl
  | p :: S, A, B, hA => by
    show cLs (sh h S) (cl (A ++ B) (p.1 + h, p.2 + h)) = A ++ cLs S (cl B p)
    rw [cl_right hA]
    exact cLs_right S A (cl B p) hA
/-- a net beside itself -/
def twice (h : Nat) (ss : List (List (Nat × Nat))) : List (List (Nat × Nat)) := ss.map fun st => st ++ sh h st
theorem nLs_twice {h : Nat} : ∀ (S : List (List (Nat × Nat))) (A B : List Int), A.length = h → B.length = h → (∀ st ∈ S, GSt h st) → nLs (twice h S) (A ++ B) = nLs S A ++ nLs S B
  | [], _, _, _, _, _ => rfl
  | st :: S, A, B, hA, hB, hs => by
    show nLs (twice h S) (cLs (st ++ sh h st) (A ++ B)) = nLs S (cLs st A) ++ nLs S (cLs st B)
    rw [cLs_app, cLs_left st A B hA (hs st List.mem_cons_self).lt, cLs_right st (cLs st A) B (by rw [cLs_len, hA])]
    exact nLs_twice S (cLs st A) (cLs st B) (by rw [cLs_len, hA]) (by rw [cLs_len, hB]) fun t ht => hs t (List.mem_cons_of_mem _ ht)
def b_order4 : FDef := ⟨2, 4, [], (.of [
  .asg 2 (.ofSrc false (.rng1 (.var 1))),
  .ret (.o1 .tupleOf (.comp [3] (.n 3) (.rng1 (.var 1)) .no (.pop 2 (.call "_law_draw" (.of [(.var 0), (.o1 .len (.var 2))])))))])⟩
theorem order4_ok (n : Nat) {T : Tab} (hD : T "_law_draw" = some b_draw4) (hR : T "_law_order" = some b_order4) (a s : Int) (c : Nat) {m : Nat} (hm : m ≤ 1000) (hc : c < 10000000) : ∃ (p : List Nat) (a' : Int) (c' : Nat) (y : V), callF T (n + 2) "_law_order" [.c (dk a s c), .d (natD m)] = .ok (.d (tupN p), [.c (dk a' s c'), y]) ∧ IsP m p ∧ c' ≤ c + m := by
  suffices h : ∃ v outs, callF T (n + 2) "_law_order" [.c (dk a s c), .d (natD m)] = .ok (v, outs) ∧ ∃ (p : List Nat) (a' : Int) (c' : Nat) (y : V), v = .d (tupN p) ∧ outs = [.c (dk a' s c'), y] ∧ IsP m p ∧ c' ≤ c + m by
    obtain ⟨v, outs, h, p, a', c', y, rfl, rfl, hp⟩ := h
    exact ⟨p, a', c', y, h, hp⟩
  refine call_wp (fun v outs => ∃ (p : List Nat) (a' : Int) (c' : Nat) (y : V), v = .d (tupN p) ∧ outs = [.c (dk a' s c'), y] ∧ IsP m p ∧ c' ≤ c + m) (fd := b_order4) hR rfl ?_
  refine (show Wp _ (Sw.execs (callF T (n + 1)) b_order4.body [.c (dk a s c), .d (natD m), .u, .u]) from ?_)
  simp only [b_order4, Ss.of, Es.of]
  refine wp_asg (ofL_eval (src_n (da_var rfl) (by omega))) ?_
  dsimp only [set_z, set_s]
  obtain ⟨ys, e2, h1, h2⟩ := comp_forN (φ := callF T (n + 1)) (own := [3]) (i := 3) (m := m) (s := .rng1 (.var 1)) (a := .pop 2 (.call "_law_draw" (.cons (.var 0) (.cons (.o1 .len (.var 2)) .nil)))) (e := [.c (dk a s c), .d (natD m), .c (natsD (List.range m)), .u]) (e1 := [.c (dk a s c), .d (natD m), .c (natsD (List.range m)), .u]) (by (repeat' first | exact Rf.mk rfl | (apply Rd.mk; (try dsimp only [vals_n, vals_x, vals_v, bk_c, bk_d, pb_x, pb_v, pb_n, view_x, view_v, viewV_d, viewV_c, settle_d, settle_c, get_z, get_s, set_z, set_s, ka_n, ka_s, re_n, re_s, seqOf_t, seqOf_l, asgT, asgTs, Option.bind_some, ↓reduceIte, List.length_cons, List.length_nil]); (try exact rfl); done) | with_reducible exact v_yesneg | with_reducible exact q_nes | with_reducible exact q_eqs | with_reducible exact v_nat | with_reducible exact v_neg | with_reducible exact v_bl | with_reducible exact v_non | with_reducible exact v_str | with_reducible exact ds_nil | with_reducible exact os_nil | with_reducible exact part_no | with_reducible exact q_net0 | with_reducible exact q_net1 | with_reducible exact o_add | with_reducible exact o_min | with_reducible exact o_max | with_reducible exact o_eq | with_reducible exact o_ne | with_reducible exact o_lt | with_reducible exact o_le | with_reducible exact o_gt | with_reducible exact o_ge | with_reducible exact q_lenN | with_reducible exact q_lenU | with_reducible exact q_lenS | with_reducible exact q_lenM | with_reducible exact q_lenMT | with_reducible exact q_lenL | with_reducible exact q_lenT | with_reducible exact q_tupN | with_reducible exact q_tupU | with_reducible exact q_lstN | with_reducible exact q_lstU | with_reducible exact q_tupL | with_reducible exact q_tupT | with_reducible exact q_lstL | with_reducible exact q_lstT | with_reducible exact q_int | with_reducible exact q_isT | ((with_reducible apply v_var); apply Rd.mk; (try dsimp only [vals_n, vals_x, vals_v, bk_c, bk_d, pb_x, pb_v, pb_n, view_x, view_v, viewV_d, viewV_c, settle_d, settle_c, get_z, get_s, set_z, set_s, ka_n, ka_s, re_n, re_s, seqOf_t, seqOf_l, asgT, asgTs, Option.bind_some, ↓reduceIte, List.length_cons, List.length_nil]); (try with_reducible exact rfl); done) | ((with_reducible apply v_mv); apply Rd.mk; (try dsimp only [vals_n, vals_x, vals_v, bk_c, bk_d, pb_x, pb_v, pb_n, view_x, view_v, viewV_d, viewV_c, settle_d, settle_c, get_z, get_s, set_z, set_s, ka_n, ka_s, re_n, re_s, seqOf_t, seqOf_l, asgT, asgTs, Option.bind_some, ↓reduceIte, List.length_cons, List.length_nil]); (try with_reducible exact rfl); done) | ((with_reducible apply v_opx); exact Rf.mk rfl) | with_reducible apply v_fr | with_reducible apply v_mvc | with_reducible apply v_o2 | with_reducible apply v_o1 | with_reducible apply v_call | with_reducible apply v_da | with_reducible apply v_opv | with_reducible apply v_lst | with_reducible apply v_tup | with_reducible apply ds_cons | with_reducible apply os_cons | with_reducible apply v_app | with_reducible apply v_not | with_reducible apply v_tor | with_reducible apply v_tand | with_reducible apply v_tnot | with_reducible apply v_te | with_reducible apply v_slice | with_reducible apply v_yesn | with_reducible apply v_chain | with_reducible apply v_seq | with_reducible apply v_r1 | with_reducible apply v_r1m | with_reducible apply v_enT | with_reducible apply v_enL | with_reducible apply v_ofl | with_reducible apply v_oftr | with_reducible apply v_oft | with_reducible apply o_mul | with_reducible apply o_sub | with_reducible apply o_mod | with_reducible apply o_div | with_reducible apply o_shr | with_reducible apply idx_nat | with_reducible apply q_idx2 | with_reducible apply q_idx3 | with_reducible apply q_idx4 | with_reducible apply q_idx5 | with_reducible apply q_idx6 | with_reducible apply q_idx7 | with_reducible apply q_repr | with_reducible apply idx_natL | with_reducible assumption | omega)) (by omega)
    (fun j ys e => ∃ (a : Int) (c2 : Nat) (left got : List Nat), e = [.c (dk a s c2), .d (natD m), .c (natsD left), .u] ∧ ys = natsD got ∧ (got ++ left).Perm (List.range m) ∧ got.length = j ∧ c2 ≤ c + j) ⟨a, c, List.range m, [], rfl, rfl, .refl _, rfl, by omega⟩ (fun j ys e hj he => by
      obtain ⟨a5, c5, left, got, rfl, rfl, q1, q2, q3⟩ := he
      have ll := q1.length_eq
      rw [List.length_append, List.length_range, q2] at ll
      obtain ⟨x, a6, c6, d6, hx, hc6⟩ := draw4 hD n a5 s c5 left.length (by omega) (by omega) (by omega)
      obtain ⟨u, hu, hp⟩ := popAt_nats (l := left) (r := (x : Int)) (by omega) (by omega) (by omega)
      have l1 := o1_eval (φ := callF T (n + 1)) (o := .len) (a := .var 2) (e := [.c (dk a5 s c5), .d (natD m), .c (natsD left), .d (natD j)]) (w := .d (natD left.length)) (op_var rfl) rfl (by show some (V.d (.int ((natsD left).length : Int))) = _; rw [natsD_len]; rfl)
      have pe := pop_ev (i := 2) (xs := natsD left) rfl (op_v rfl (s1_ev (φ := callF T (n + 1)) (f := "_law_draw") (i := 0) (e := [.c (dk a5 s c5), .d (natD m), .c (natsD left), .d (natD j)]) rfl (op_v rfl l1) rfl d6)) rfl rfl hp
      rw [Int.toNat_natCast] at hu pe
      refine ⟨natD u, _, da_of pe rfl, a6, c6, left.eraseIdx x, got ++ [u], rfl, by rw [natsD_append]; rfl, ?_, by simp [q2], by omega⟩
      have e1 := erase_perm hu
      rw [List.append_assoc]
      exact (List.Perm.append_left _ e1).trans q1)
  obtain ⟨a', c', left, got, rfl, rfl, q1, q2, q3⟩ := h2
  have e0 : left = [] := by
    have := q1.length_eq
    rw [List.length_append, List.length_range, q2] at this
    exact List.length_eq_zero_iff.mp (by omega)
  subst e0
  rw [List.append_nil] at q1
  have tu := tuple_c h1 rfl
  exact wp_ret tu ⟨got, a', c', _, rfl, rfl, q1, q3⟩
/-- naturals among the ints -/
def toI (l : List Nat) : List Int := l.map Int.ofNat
theorem natsD_iD (l : List Nat) : natsD l = iD (toI l) := by unfold natsD iD toI; rw [List.map_map]; rfl
theorem toI_len (l : List Nat) : (toI l).length = l.length := List.length_map _
end Sw
end T_SxR
section T_P51h
set_option autoImplicit false
set_option linter.all false
set_option maxRecDepth 100000
set_option maxHeartbeats 2000000
namespace K51
open PySem Sw
/-- behind: one other -/
def b_behind : FDef := ⟨2, 2, [], (.of [
  .ret (.tup (.of [(.o2 .idx (.var 0) (.int 0)), (.o2 .add (.o2 .idx (.var 0) (.int 1)) (.o2 .idx (.var 1) (.int 1)))]))])⟩
/-- on_wires: stage wires a b -/
def b_on_wires : FDef := ⟨2, 4, [], (.of [
  .ret (.o1 .tupleOf (.comp [2, 3] (.p [(.n 2), (.n 3)]) (.seq (.var 0)) .no (.tup (.of [(.o2 .idx (.var 1) (.var 2)), (.o2 .idx (.var 1) (.var 3))]))))])⟩
/-- beside: one other many wires stages k stage -/
def b_beside : FDef := ⟨2, 7, [], (.of [
  .asg 2 (.o2 .add (.o2 .idx (.var 0) (.int 0)) (.o2 .idx (.var 1) (.int 0))),
  .asg 3 (.ofSrc false (.rng2 (.o2 .idx (.var 0) (.int 0)) (.var 2))),
  .asg 4 (.lst (.of [])),
  .forr (.n 5) (.rng1 (.o2 .max2 (.o1 .len (.o2 .idx (.var 0) (.int 1))) (.o1 .len (.o2 .idx (.var 1) (.int 1))))) (.of [
    .asg 6 (.tup (.of [])),
    .iff (.e (.o2 .lt (.var 5) (.o1 .len (.o2 .idx (.var 0) (.int 1))))) (.of [
      .asg 6 (.o2 .idx (.o2 .idx (.var 0) (.int 1)) (.var 5))]) (.of []),
    .iff (.e (.o2 .lt (.var 5) (.o1 .len (.o2 .idx (.var 1) (.int 1))))) (.of [
      .asg 6 (.o2 .add (.var 6) (.call "on_wires" (.of [(.o2 .idx (.o2 .idx (.var 1) (.int 1)) (.var 5)), (.var 3)])))]) (.of []),
    .ex (.app 4 (.var 6))]) [5, 6],
  .ret (.tup (.of [(.var 2), (.o1 .tupleOf (.var 4))]))])⟩
/-- laid: net wires many stage -/
def b_laid : FDef := ⟨3, 4, [], (.of [
  .ret (.tup (.of [(.var 2), (.o1 .tupleOf (.comp [3] (.n 3) (.seq (.o2 .idx (.var 0) (.int 1))) .no (.call "on_wires" (.of [(.var 3), (.var 1)]))))]))])⟩
/-- together: one other here there -/
def b_together : FDef := ⟨2, 4, [], (.of [
  .ret (.o1 .tupleOf (.comp [2, 3] (.p [(.n 2), (.n 3)]) (.zip2 (.o2 .idx (.var 0) (.int 1)) (.o2 .idx (.var 1) (.int 1))) .no (.o1 .tupleOf (.o1 .sorted (.o2 .add (.var 2) (.var 3))))))])⟩
/-- merger: m lesser many even odd last wire -/
def b_merger : FDef := ⟨1, 7, [], (.of [
  .iff (.e (.o2 .eq (.var 0) (.int 1))) (.of [
    .ret (.call "const ONE_SWITCH" (.of []))]) (.of []),
  .asg 1 (.call "merger" (.of [(.o2 .sub (.var 0) (.int 1))])),
  .asg 2 (.o2 .mul (.int 2) (.o2 .idx (.var 1) (.int 0))),
  .asg 3 (.call "laid" (.of [(.var 1), (.ofSrc true (.rng3 (.int 0) (.var 2) (.int 2))), (.var 2)])),
  .asg 4 (.call "laid" (.of [(.var 1), (.ofSrc true (.rng3 (.int 1) (.var 2) (.int 2))), (.var 2)])),
  .asg 5 (.o1 .tupleOf (.comp [6] (.n 6) (.rng3 (.int 1) (.o2 .sub (.var 2) (.int 1)) (.int 2)) .no (.tup (.of [(.var 6), (.o2 .add (.var 6) (.int 1))])))),
  .ret (.tup (.of [(.var 2), (.o2 .add (.call "together" (.of [(.var 3), (.var 4)])) (.tup (.of [(.var 5)])))]))])⟩
/-- sorter: m lesser -/
def b_sorter : FDef := ⟨1, 2, [], (.of [
  .iff (.e (.o2 .eq (.var 0) (.int 1))) (.of [
    .ret (.call "const ONE_SWITCH" (.of []))]) (.of []),
  .asg 1 (.call "sorter" (.of [(.o2 .sub (.var 0) (.int 1))])),
  .ret (.call "behind" (.of [(.call "beside" (.of [(.var 1), (.var 1)])), (.call "merger" (.of [(.var 0)]))]))])⟩
/-- compared: net row things setting stage ways one other -/
def b_compared : FDef := ⟨2, 8, [], (.of [
  .asg 2 (.o1 .listOf (.var 1)),
  .asg 3 (.lst (.of [])),
  .forr (.n 4) (.seq (.o2 .idx (.var 0) (.int 1))) (.of [
    .asg 5 (.lst (.of [])),
    .forr (.p [(.n 6), (.n 7)]) (.seq (.var 4)) (.of [
      .ex (.app 5 (.o1 .intOf (.o2 .gt (.o2 .idx (.var 2) (.var 6)) (.o2 .idx (.var 2) (.var 7))))),
      .iff (.e (.o2 .eq (.o2 .idx (.var 5) (.o1 .neg (.int 1))) (.int 1))) (.of [
        .st2 2 (.var 6) 2 (.var 7) (.o2 .idx (.var 2) (.var 7)) (.o2 .idx (.var 2) (.var 6))]) (.of [])]) [6, 7],
    .ex (.app 3 (.o1 .tupleOf (.var 5)))]) [4, 5, 6, 7],
  .ret (.tup (.of [(.o1 .tupleOf (.var 2)), (.o1 .tupleOf (.var 3))]))])⟩
/-- is_whole: thing -/
def b_is_whole : FDef := ⟨1, 1, [], (.of [
  .ret (.and (.o1 (.isi "int") (.var 0)) (.not (.e (.o1 (.isi "bool") (.var 0)))))])⟩
/-- is_between: thing low high -/
def b_is_between : FDef := ⟨3, 3, [], (.of [
  .ret (.and (.call "is_whole" (.of [(.var 0)])) (.chain .le .le (.var 1) (.var 0) (.var 2)))])⟩
/-- is_switch: many thing wire -/
def b_is_switch : FDef := ⟨2, 3, [], (.of [
  .iff (.or (.not (.e (.o1 (.isi "tuple") (.var 1)))) (.e (.o2 .ne (.o1 .len (.var 1)) (.int 2)))) (.of [
    .ret (.bl false)]) (.of []),
  .iff (.not (.e (.o1 .all (.comp [2] (.n 2) (.seq (.var 1)) .no (.call "is_between" (.of [(.var 2), (.int 0), (.o2 .sub (.var 0) (.int 1))])))))) (.of [
    .ret (.bl false)]) (.of []),
  .ret (.o2 .lt (.o2 .idx (.var 1) (.int 0)) (.o2 .idx (.var 1) (.int 1)))])⟩
/-- is_stage: many thing switch wires one other -/
def b_is_stage : FDef := ⟨2, 6, [], (.of [
  .iff (.or (.not (.e (.o1 (.isi "tuple") (.var 1)))) (.not (.e (.o1 .all (.comp [2] (.n 2) (.seq (.var 1)) .no (.call "is_switch" (.of [(.var 0), (.var 2)]))))))) (.of [
    .ret (.bl false)]) (.of []),
  .asg 3 (.lst (.of [])),
  .forr (.n 2) (.seq (.var 1)) (.of [
    .ex (.ext 3 (.var 2))]) [2],
  .iff (.e (.o2 .lt (.o1 .lenSet (.var 3)) (.o1 .len (.var 3)))) (.of [
    .ret (.bl false)]) (.of []),
  .ret (.o1 .all (.comp [4, 5] (.p [(.n 4), (.n 5)]) (.zip2 (.var 1) (.slice (.var 1) (.yes (.int 1)) .no)) .no (.o2 .lt (.o2 .idx (.var 4) (.int 0)) (.o2 .idx (.var 5) (.int 0)))))])⟩
/-- is_net: thing many stage -/
def b_is_net : FDef := ⟨1, 3, [], (.of [
  .iff (.or (.not (.e (.o1 (.isi "tuple") (.var 0)))) (.or (.e (.o2 .ne (.o1 .len (.var 0)) (.int 2))) (.not (.e (.o1 (.isi "tuple") (.o2 .idx (.var 0) (.int 1))))))) (.of [
    .ret (.bl false)]) (.of []),
  .asg 1 (.o2 .idx (.var 0) (.int 0)),
  .ret (.and (.call "is_whole" (.of [(.var 1)])) (.and (.o2 .ge (.var 1) (.int 1)) (.o1 .all (.comp [2] (.n 2) (.seq (.o2 .idx (.var 0) (.int 1))) .no (.call "is_stage" (.of [(.var 1), (.var 2)]))))))])⟩
/-- _law_deck: _law_script _law_k _law_cell _law_digits -/
def b_law_deck : FDef := ⟨2, 4, [], (.of [
  .asg 2 (.int 0),
  .iff (.e (.o2 .lt (.var 1) (.o1 .len (.var 0)))) (.of [
    .asg 2 (.o2 .idx (.var 0) (.var 1))]) (.of []),
  .asg 3 (.int 0),
  .iff (.e (.o2 .ge (.var 2) (.o2 .pow (.int 10) (.int 18)))) (.of [
    .asg 3 (.var 2)]) (.of []),
  .ret (.lst (.of [(.var 3), (.o2 .mod (.var 2) (.int 2147483647)), (.int 0)]))])⟩
/-- _law_draw: _law_deck_here _law_many _law_got _law_turn _law_mixed -/
def b_law_draw : FDef := ⟨2, 5, [], (.of [
  .iff (.e (.o2 .gt (.o2 .idx (.var 0) (.int 0)) (.int 0))) (.of [
    .asg 2 (.o2 .mod (.o2 .idx (.var 0) (.int 0)) (.var 1)),
    .st 0 (.int 0) (.o2 .fdiv (.o2 .idx (.var 0) (.int 0)) (.var 1)),
    .ret (.mv 2)]) (.of []),
  .st 0 (.int 2) (.o2 .add (.o2 .idx (.var 0) (.int 2)) (.int 1)),
  .asg 3 (.o2 .idx (.var 0) (.int 2)),
  .asg 4 (.o2 .mod (.o2 .add (.o2 .add (.o2 .idx (.var 0) (.int 1)) (.o2 .mul (.int 7919) (.var 3))) (.o2 .mul (.o2 .mul (.int 104729) (.var 3)) (.var 3))) (.int 2147483629)),
  .asg 4 (.o2 .mod (.o2 .add (.o2 .add (.o2 .mul (.var 4) (.var 4)) (.o2 .mul (.int 69621) (.var 4))) (.o2 .idx (.var 0) (.int 1))) (.int 2147483587)),
  .ret (.o2 .mod (.o2 .fdiv (.o2 .mod (.o2 .mul (.var 4) (.int 16807)) (.int 2147483647)) (.int 16)) (.var 1))])⟩
/-- _law_compared: _law_net _law_row_here _law_things _law_setting _law_stage _law_ways _law_a _law_b -/
def b_law_compared : FDef := ⟨2, 8, [], (.of [
  .asg 2 (.o1 .listOf (.var 1)),
  .asg 3 (.lst (.of [])),
  .forr (.n 4) (.seq (.o2 .idx (.var 0) (.int 1))) (.of [
    .asg 5 (.lst (.of [])),
    .forr (.p [(.n 6), (.n 7)]) (.seq (.var 4)) (.of [
      .ex (.app 5 (.ite (.e (.o2 .lt (.o2 .idx (.var 2) (.var 7)) (.o2 .idx (.var 2) (.var 6)))) (.int 1) (.int 0))),
      .st2 2 (.var 6) 2 (.var 7) (.o2 .min2 (.o2 .idx (.var 2) (.var 6)) (.o2 .idx (.var 2) (.var 7))) (.o2 .max2 (.o2 .idx (.var 2) (.var 6)) (.o2 .idx (.var 2) (.var 7)))]) [6, 7],
    .ex (.app 3 (.o1 .tupleOf (.var 5)))]) [4, 5, 6, 7],
  .ret (.tup (.of [(.o1 .tupleOf (.var 2)), (.o1 .tupleOf (.var 3))]))])⟩
/-- _law_row: _law_deck_here _law_many _law_way _law_found _law_wire _law_number _law_k -/
def b_law_row : FDef := ⟨2, 7, [], (.of [
  .asg 2 (.call "_law_draw" (.of [(.var 0), (.int 5)])),
  .asg 3 (.lst (.of [])),
  .forr (.n 4) (.rng1 (.var 1)) (.of [
    .asg 5 (.o2 .sub (.call "_law_draw" (.of [(.var 0), (.o2 .idx (.lst (.of [(.int 2), (.int 3), (.o2 .add (.var 1) (.int 1)), (.int 1000003), (.int 1000003)])) (.var 2))])) (.o1 .intOf (.o2 .eq (.var 2) (.int 1)))),
    .forr (.n 6) (.rng1 (.o2 .idx (.lst (.of [(.int 0), (.int 0), (.int 0), (.int 1), (.int 5)])) (.var 2))) (.of [
      .asg 5 (.o2 .add (.o2 .mul (.var 5) (.int 1000003)) (.call "_law_draw" (.of [(.var 0), (.int 1000003)])))]) [6],
    .iff (.e (.o2 .gt (.var 2) (.int 2))) (.of [
      .asg 5 (.o2 .idx (.lst (.of [(.var 5), (.o2 .sub (.int 0) (.var 5))])) (.call "_law_draw" (.of [(.var 0), (.int 2)])))]) (.of []),
    .ex (.app 3 (.var 5))]) [4, 5, 6],
  .ret (.o1 .tupleOf (.var 3))])⟩
/-- _law_merger: _law_many _law_stages _law_row_here _law_a _law_b -/
def b_law_merger : FDef := ⟨1, 5, [], (.of [
  .iff (.e (.o2 .eq (.var 0) (.int 2))) (.of [
    .ret (.lst (.of [(.lst (.of [(.tup (.of [(.int 0), (.int 1)]))]))]))]) (.of []),
  .asg 1 (.lst (.of [])),
  .forr (.n 2) (.seq (.call "_law_merger" (.of [(.o2 .fdiv (.var 0) (.int 2))]))) (.of [
    .ex (.app 1 (.o2 .add (.comp [3, 4] (.p [(.n 3), (.n 4)]) (.seq (.var 2)) .no (.tup (.of [(.o2 .mul (.int 2) (.var 3)), (.o2 .mul (.int 2) (.var 4))]))) (.comp [3, 4] (.p [(.n 3), (.n 4)]) (.seq (.var 2)) .no (.tup (.of [(.o2 .add (.o2 .mul (.int 2) (.var 3)) (.int 1)), (.o2 .add (.o2 .mul (.int 2) (.var 4)) (.int 1))])))))]) [2],
  .ret (.o2 .add (.var 1) (.lst (.of [(.comp [3] (.n 3) (.rng3 (.int 1) (.o2 .sub (.var 0) (.int 2)) (.int 2)) .no (.tup (.of [(.var 3), (.o2 .add (.var 3) (.int 1))])))])))])⟩
/-- _law_sorter: _law_many _law_half _law_stages _law_row_here _law_a _law_b -/
def b_law_sorter : FDef := ⟨1, 6, [], (.of [
  .iff (.e (.o2 .eq (.var 0) (.int 2))) (.of [
    .ret (.lst (.of [(.lst (.of [(.tup (.of [(.int 0), (.int 1)]))]))]))]) (.of []),
  .asg 1 (.o2 .fdiv (.var 0) (.int 2)),
  .asg 2 (.lst (.of [])),
  .forr (.n 3) (.seq (.call "_law_sorter" (.of [(.var 1)]))) (.of [
    .ex (.app 2 (.o2 .add (.var 3) (.comp [4, 5] (.p [(.n 4), (.n 5)]) (.seq (.var 3)) .no (.tup (.of [(.o2 .add (.var 4) (.var 1)), (.o2 .add (.var 5) (.var 1))])))))]) [3],
  .ret (.o2 .add (.var 2) (.call "_law_merger" (.of [(.var 0)])))])⟩
/-- _law_as_net: _law_many _law_stages _law_row_here -/
def b_law_as_net : FDef := ⟨2, 3, [], (.of [
  .ret (.tup (.of [(.var 0), (.o1 .tupleOf (.comp [2] (.n 2) (.seq (.var 1)) .no (.o1 .tupleOf (.o1 .sorted (.var 2)))))]))])⟩
/-- _law_order: _law_deck_here _law_many _law_left _law_wire -/
def b_law_order : FDef := ⟨2, 4, [], (.of [
  .asg 2 (.ofSrc false (.rng1 (.var 1))),
  .ret (.o1 .tupleOf (.comp [3] (.n 3) (.rng1 (.var 1)) .no (.pop 2 (.call "_law_draw" (.of [(.var 0), (.o1 .len (.var 2))])))))])⟩
/-- law: _law_script _law_m _law_many _law_net _law_due _law_k _law_deck_here _law_row_here _law_other _law_told -/
def b_law : FDef := ⟨1, 10, [], (.of [
  .forr (.n 1) (.rng2 (.int 1) (.int 5)) (.of [
    .asg 2 (.o2 .idx (.lst (.of [(.int 1), (.int 2), (.int 4), (.int 8), (.int 16)])) (.var 1)),
    .asg 3 (.call "sorter" (.of [(.var 1)])),
    .asg 4 (.call "_law_as_net" (.of [(.var 2), (.call "_law_sorter" (.of [(.var 2)]))])),
    .iff (.or (.e (.o2 .ne (.o1 .repr (.var 3)) (.o1 .repr (.var 4)))) (.or (.e (.o1 (.isBool true false) (.call "is_net" (.of [(.var 3)])))) (.e (.o2 .ne (.call "sorter" (.of [(.var 1)])) (.var 3))))) (.of [
      .ret (.bl false)]) (.of []),
    .iff (.or (.e (.o2 .ne (.o1 .len (.o2 .idx (.var 3) (.int 1))) (.o2 .fdiv (.o2 .mul (.var 1) (.o2 .add (.var 1) (.int 1))) (.int 2)))) (.not (.e (.o1 (.isi "tuple") (.var 3))))) (.of [
      .ret (.bl false)]) (.of []),
    .forr (.n 5) (.rng1 (.o2 .max2 (.int 1) (.o2 .min2 (.o1 .len (.var 0)) (.int 4)))) (.of [
      .asg 6 (.call "_law_deck" (.of [(.var 0), (.var 5)])),
      .asg 7 (.call "_law_row" (.of [(.var 6), (.var 2)])),
      .forr (.n 8) (.seq (.lst (.of [(.var 7), (.o1 .rev (.var 7)), (.call "_law_order" (.of [(.var 6), (.var 2)]))]))) (.of [
        .asg 9 (.call "compared" (.of [(.var 3), (.var 8)])),
        .iff (.or (.e (.o2 .ne (.o1 .repr (.var 9)) (.o1 .repr (.call "_law_compared" (.of [(.var 3), (.var 8)]))))) (.e (.o2 .ne (.o1 .listOf (.o2 .idx (.var 9) (.int 0))) (.o1 .sorted (.var 8))))) (.of [
          .ret (.bl false)]) (.of [])]) [8, 9]]) [5, 6, 7, 8, 9]]) [1, 2, 3, 4, 5, 6, 7, 8, 9],
  .ret (.bl true)])⟩
def b_con_ONE_SWITCH : FDef := ⟨0, 0, [], (.of [.ret (.tup (.of [(.int 2), (.tup (.of [(.tup (.of [(.tup (.of [(.int 0), (.int 1)]))]))]))]))])⟩
def T : Tab := fun f => match f with
  | "behind" => some b_behind
  | "on_wires" => some b_on_wires
  | "beside" => some b_beside
  | "laid" => some b_laid
  | "together" => some b_together
  | "merger" => some b_merger
  | "sorter" => some b_sorter
  | "compared" => some b_compared
  | "is_whole" => some b_is_whole
  | "is_between" => some b_is_between
  | "is_switch" => some b_is_switch
  | "is_stage" => some b_is_stage
  | "is_net" => some b_is_net
  | "_law_deck" => some b_law_deck
  | "_law_draw" => some b_law_draw
  | "_law_compared" => some b_law_compared
  | "_law_row" => some b_law_row
  | "_law_merger" => some b_law_merger
  | "_law_sorter" => some b_law_sorter
  | "_law_as_net" => some b_law_as_net
  | "_law_order" => some b_law_order
  | "law" => some b_law
  | "const ONE_SWITCH" => some b_con_ONE_SWITCH
  | _ => none

end K51
end T_P51h
section T_P51k
set_option autoImplicit false
set_option linter.all false
set_option maxRecDepth 100000
set_option maxHeartbeats 2000000
namespace K51
open PySem Sw
def lvl : Nat := 12
abbrev St := List (Nat × Nat)
def evn (st : St) : St := st.map fun p => (2 * p.1, 2 * p.2)
def odn (st : St) : St := st.map fun p => (2 * p.1 + 1, 2 * p.2 + 1)
/-- the stages of a merger -/
def mgS : Nat → List St
  | 0 => []
  | 1 => [[(0, 1)]]
  | m + 2 => (mgS (m + 1)).map (fun st => sortN (evn st ++ odn st)) ++ [(List.range (2 ^ (m + 1) - 1)).map fun i => (2 * i + 1, 2 * i + 2)]
/-- the stages of a sorter -/
def srS : Nat → List St
  | 0 => []
  | 1 => [[(0, 1)]]
  | m + 2 => twice (2 ^ (m + 1)) (srS (m + 1)) ++ mgS (m + 2)
def isLst (r : Sw.R (V × List V)) : Bool := match r with | .ok (.c _, [_]) => true | _ => false
def lstOf (r : Sw.R (V × List V)) : List D := match r with | .ok (.c xs, _) => xs | _ => []
theorem isLst_ok {r : Sw.R (V × List V)} (h : isLst r = true) : ∃ y, r = .ok (.c (lstOf r), [y]) := by
  unfold isLst at h
  split at h
  · exact ⟨_, rfl⟩
  · cases h
def gB (m : Nat) (st : St) : Bool := st.all (fun p => decide (p.1 < p.2) && decide (p.2 < m)) && decide ((wires st).Nodup) && decide (2 * st.length ≤ m)
theorem gB_ok {m : Nat} {st : St} (h : gB m st = true) : GSt m st := by
  unfold gB at h
  simp only [Bool.and_eq_true, List.all_eq_true, decide_eq_true_eq] at h
  exact ⟨h.1.1, h.1.2, h.2⟩
def facts (m : Nat) : Bool := isC1 (callF T 11 "sorter" [.d (natD m)]) (netP (2 ^ m) (srS m)) && (isC1 (callF T 11 "is_net" [.d (netP (2 ^ m) (srS m))]) (.bool true) && (isLst (callF T 11 "_law_sorter" [.d (natD (2 ^ m))]) &&
  (isC2 (callF T 11 "_law_as_net" [.d (natD (2 ^ m)), .c (lstOf (callF T 11 "_law_sorter" [.d (natD (2 ^ m))]))]) (netP (2 ^ m) (srS m)) && (mchk (2 ^ m / 2) (mgS m) && ((srS m).all (gB (2 ^ m)) && ((mgS m).all (gB (2 ^ m)) && decide ((srS m).length = m * (m + 1) / 2)))))))
theorem f1 : facts 1 = true := by decide +kernel
theorem f2 : facts 2 = true := by decide +kernel
theorem f3 : facts 3 = true := by decide +kernel
theorem f4 : facts 4 = true := by decide +kernel
theorem fact {m : Nat} (h : 1 ≤ m ∧ m ≤ 4) : facts m = true := by
  match m, h with
  | 1, _ => exact f1
  | 2, _ => exact f2
  | 3, _ => exact f3
  | 4, _ => exact f4
theorem parts {m : Nat} (h : 1 ≤ m ∧ m ≤ 4) : mchk (2 ^ m / 2) (mgS m) = true ∧ (∀ st ∈ srS m, GSt (2 ^ m) st) ∧ ∀ st ∈ mgS m, GSt (2 ^ m) st := by
  have F := fact h
  unfold facts at F
  simp only [Bool.and_eq_true, List.all_eq_true, decide_eq_true_eq] at F
  obtain ⟨_, _, _, _, F5, F6, F7, _⟩ := F
  exact ⟨F5, fun st hst => gB_ok (F6 st hst), fun st hst => gB_ok (F7 st hst)⟩
theorem halves {h : Nat} {L : List Int} (hl : L.length = 2 * h) : ∃ A B, L = A ++ B ∧ A.length = h ∧ B.length = h := ⟨L.take h, L.drop h, (List.take_append_drop h L).symm, by rw [List.length_take]; omega, by rw [List.length_drop]; omega⟩
theorem sorts : ∀ {m : Nat}, 1 ≤ m ∧ m ≤ 4 → ∀ L : List Int, L.length = 2 ^ m → Up (nLs (srS m) L)
  | 0, h, _, _ => by omega
  | 1, h, L, hl => by
    obtain ⟨A, B, rfl, hA, hB⟩ := halves (h := 1) hl
    obtain ⟨p1, _, p3⟩ := parts h
    have up1 : ∀ X : List Int, X.length = 1 → Up X := fun X hX => by
      match X, hX with
      | [x], _ => exact List.pairwise_singleton _ _
    exact merges (ss := mgS 1) p1 p3 (up1 A hA) (up1 B hB) hA hB
  | m + 2, h, L, hl => by
    have e : 2 ^ (m + 2) = 2 * 2 ^ (m + 1) := by rw [Nat.pow_succ, Nat.mul_comm]
    obtain ⟨A, B, rfl, hA, hB⟩ := halves (h := 2 ^ (m + 1)) (by rw [hl, e])
    obtain ⟨p1, _, p3⟩ := parts h
    obtain ⟨_, g2, _⟩ := parts (m := m + 1) (by omega)
    have e2 : 2 ^ (m + 2) / 2 = 2 ^ (m + 1) := by omega
    rw [e2] at p1
    rw [e] at p3
    show Up (nLs (twice (2 ^ (m + 1)) (srS (m + 1)) ++ mgS (m + 2)) (A ++ B))
    rw [nLs_app, nLs_twice (srS (m + 1)) A B hA hB g2]
    exact merges p1 p3 (sorts (by omega) A hA) (sorts (by omega) B hB) (by rw [nLs_len, hA]) (by rw [nLs_len, hB])
end K51
end T_P51k
section T_P51
set_option autoImplicit false
set_option linter.all false
set_option maxRecDepth 100000
set_option maxHeartbeats 2000000
namespace K51
open PySem Sw
theorem hD : T "_law_draw" = some Sw.b_draw4 := rfl
theorem hE : T "_law_deck" = some Sw.b_deck4 := rfl
theorem hLc : T "_law_compared" = some Sw.b_law_compared := rfl
theorem hCm : T "compared" = some Sw.b_compared := rfl
theorem hRw : T "_law_row" = some Sw.b_law_row := rfl
theorem hR : T "_law_order" = some Sw.b_order4 := rfl
theorem law_val (ns : List Int) (_ : ns.length ≤ 63) : ∃ outs, callF T lvl "law" [.d (.list (ns.map .int))] = .ok (.d (.bool true), outs) := by
  suffices h : ∃ v outs, callF T 12 "law" [.d (.list (ns.map .int))] = .ok (v, outs) ∧ v = .d (.bool true) by
    obtain ⟨v, outs, h, rfl⟩ := h
    exact ⟨outs, h⟩
  refine call_wp (fun v outs => v = .d (.bool true)) (fd := b_law) rfl rfl ?_
  refine (show Wp _ (Sw.execs (callF T 11) b_law.body [.d (.list (ns.map .int)), .u, .u, .u, .u, .u, .u, .u, .u, .u]) from ?_)
  simp only [b_law, Ss.of, Es.of]
  have sr : evalSrc (callF T 11) (.rng2 (.int 1) (.int 5)) [.d (.list (ns.map .int)), .u, .u, .u, .u, .u, .u, .u, .u, .u] = .ok (((List.range 4).map (1 + ·)).map natD, [.d (.list (ns.map .int)), .u, .u, .u, .u, .u, .u, .u, .u, .u]) := by
    rw [evalSrc]
    refine (bind2 (da_of v_nat rfl)).trans ((bind2 (da_of v_nat rfl)).trans ?_)
    rw [rng2 (by decide) (by decide)]; rfl
  refine wp_forL natD sr (fun S e => e = [.d (.list (ns.map .int)), .u, .u, .u, .u, .u, .u, .u, .u, .u]) rfl (fun e he => ?_) fun S m R e hl2 he => ?_
  · subst he
    (refine wp_ret (by (repeat' first | exact Rf.mk rfl | (apply Rd.mk; (try dsimp only [vals_n, vals_x, vals_v, bk_c, bk_d, pb_x, pb_v, pb_n, view_x, view_v, viewV_d, viewV_c, settle_d, settle_c, get_z, get_s, set_z, set_s, ka_n, ka_s, re_n, re_s, seqOf_t, seqOf_l, asgT, asgTs, Option.bind_some, ↓reduceIte, List.length_cons, List.length_nil]); (try exact rfl); done) | with_reducible exact v_yesneg | with_reducible exact q_nes | with_reducible exact q_eqs | with_reducible exact v_nat | with_reducible exact v_neg | with_reducible exact v_bl | with_reducible exact v_non | with_reducible exact v_str | with_reducible exact ds_nil | with_reducible exact os_nil | with_reducible exact part_no | with_reducible exact q_net0 | with_reducible exact q_net1 | with_reducible exact o_add | with_reducible exact o_min | with_reducible exact o_max | with_reducible exact o_eq | with_reducible exact o_ne | with_reducible exact o_lt | with_reducible exact o_le | with_reducible exact o_gt | with_reducible exact o_ge | with_reducible exact q_lenN | with_reducible exact q_lenU | with_reducible exact q_lenS | with_reducible exact q_lenM | with_reducible exact q_lenMT | with_reducible exact q_lenL | with_reducible exact q_lenT | with_reducible exact q_tupN | with_reducible exact q_tupU | with_reducible exact q_lstN | with_reducible exact q_lstU | with_reducible exact q_tupL | with_reducible exact q_tupT | with_reducible exact q_lstL | with_reducible exact q_lstT | with_reducible exact q_int | with_reducible exact q_isT | ((with_reducible apply v_var); apply Rd.mk; (try dsimp only [vals_n, vals_x, vals_v, bk_c, bk_d, pb_x, pb_v, pb_n, view_x, view_v, viewV_d, viewV_c, settle_d, settle_c, get_z, get_s, set_z, set_s, ka_n, ka_s, re_n, re_s, seqOf_t, seqOf_l, asgT, asgTs, Option.bind_some, ↓reduceIte, List.length_cons, List.length_nil]); (try with_reducible exact rfl); done) | ((with_reducible apply v_mv); apply Rd.mk; (try dsimp only [vals_n, vals_x, vals_v, bk_c, bk_d, pb_x, pb_v, pb_n, view_x, view_v, viewV_d, viewV_c, settle_d, settle_c, get_z, get_s, set_z, set_s, ka_n, ka_s, re_n, re_s, seqOf_t, seqOf_l, asgT, asgTs, Option.bind_some, ↓reduceIte, List.length_cons, List.length_nil]); (try with_reducible exact rfl); done) | ((with_reducible apply v_opx); exact Rf.mk rfl) | with_reducible apply v_fr | with_reducible apply v_mvc | with_reducible apply v_o2 | with_reducible apply v_o1 | with_reducible apply v_call | with_reducible apply v_da | with_reducible apply v_opv | with_reducible apply v_lst | with_reducible apply v_tup | with_reducible apply ds_cons | with_reducible apply os_cons | with_reducible apply v_app | with_reducible apply v_not | with_reducible apply v_tor | with_reducible apply v_tand | with_reducible apply v_tnot | with_reducible apply v_te | with_reducible apply v_slice | with_reducible apply v_yesn | with_reducible apply v_chain | with_reducible apply v_seq | with_reducible apply v_r1 | with_reducible apply v_r1m | with_reducible apply v_enT | with_reducible apply v_enL | with_reducible apply v_ofl | with_reducible apply v_oftr | with_reducible apply v_oft | with_reducible apply o_mul | with_reducible apply o_sub | with_reducible apply o_mod | with_reducible apply o_div | with_reducible apply o_shr | with_reducible apply idx_nat | with_reducible apply q_idx2 | with_reducible apply q_idx3 | with_reducible apply q_idx4 | with_reducible apply q_idx5 | with_reducible apply q_idx6 | with_reducible apply q_idx7 | with_reducible apply q_repr | with_reducible apply idx_natL | with_reducible assumption | omega)) ?_; exact rfl)
  subst he
  dsimp only [set_z, set_s]
  have hm : 1 ≤ m ∧ m ≤ 4 := by
    have : m ∈ (List.range 4).map (1 + ·) := by rw [hl2]; simp
    obtain ⟨k, hk, rfl⟩ := List.mem_map.mp this
    have : k < 4 := by simpa using hk
    omega
  have F := fact hm
  unfold facts at F
  simp only [Bool.and_eq_true, List.all_eq_true, decide_eq_true_eq] at F
  obtain ⟨F1, F2, F3, F4, _, F6, _, F7⟩ := F
  have srt := sorts hm
  have pw : [1, 2, 4, 8, 16].getD m 0 = 2 ^ m := by
    have : ∀ m < 5, [1, 2, 4, 8, 16].getD m 0 = 2 ^ m := by decide
    exact this m (by omega)
  have p16 : 2 ^ m ≤ 16 ∧ 2 ^ m = 2 * (2 ^ m / 2) := by
    have : ∀ m < 5, 1 ≤ m → 2 ^ m ≤ 16 ∧ 2 ^ m = 2 * (2 ^ m / 2) := by decide
    exact this m (by omega) hm.1
  refine u_asg (by (repeat' first | exact Rf.mk rfl | (apply Rd.mk; (try dsimp only [vals_n, vals_x, vals_v, bk_c, bk_d, pb_x, pb_v, pb_n, view_x, view_v, viewV_d, viewV_c, settle_d, settle_c, get_z, get_s, set_z, set_s, ka_n, ka_s, re_n, re_s, seqOf_t, seqOf_l, asgT, asgTs, Option.bind_some, ↓reduceIte, List.length_cons, List.length_nil]); (try exact rfl); done) | with_reducible exact v_yesneg | with_reducible exact q_nes | with_reducible exact q_eqs | with_reducible exact v_nat | with_reducible exact v_neg | with_reducible exact v_bl | with_reducible exact v_non | with_reducible exact v_str | with_reducible exact ds_nil | with_reducible exact os_nil | with_reducible exact part_no | with_reducible exact q_net0 | with_reducible exact q_net1 | with_reducible exact o_add | with_reducible exact o_min | with_reducible exact o_max | with_reducible exact o_eq | with_reducible exact o_ne | with_reducible exact o_lt | with_reducible exact o_le | with_reducible exact o_gt | with_reducible exact o_ge | with_reducible exact q_lenN | with_reducible exact q_lenU | with_reducible exact q_lenS | with_reducible exact q_lenM | with_reducible exact q_lenMT | with_reducible exact q_lenL | with_reducible exact q_lenT | with_reducible exact q_tupN | with_reducible exact q_tupU | with_reducible exact q_lstN | with_reducible exact q_lstU | with_reducible exact q_tupL | with_reducible exact q_tupT | with_reducible exact q_lstL | with_reducible exact q_lstT | with_reducible exact q_int | with_reducible exact q_isT | ((with_reducible apply v_var); apply Rd.mk; (try dsimp only [vals_n, vals_x, vals_v, bk_c, bk_d, pb_x, pb_v, pb_n, view_x, view_v, viewV_d, viewV_c, settle_d, settle_c, get_z, get_s, set_z, set_s, ka_n, ka_s, re_n, re_s, seqOf_t, seqOf_l, asgT, asgTs, Option.bind_some, ↓reduceIte, List.length_cons, List.length_nil]); (try with_reducible exact rfl); done) | ((with_reducible apply v_mv); apply Rd.mk; (try dsimp only [vals_n, vals_x, vals_v, bk_c, bk_d, pb_x, pb_v, pb_n, view_x, view_v, viewV_d, viewV_c, settle_d, settle_c, get_z, get_s, set_z, set_s, ka_n, ka_s, re_n, re_s, seqOf_t, seqOf_l, asgT, asgTs, Option.bind_some, ↓reduceIte, List.length_cons, List.length_nil]); (try with_reducible exact rfl); done) | ((with_reducible apply v_opx); exact Rf.mk rfl) | with_reducible apply v_fr | with_reducible apply v_mvc | with_reducible apply v_o2 | with_reducible apply v_o1 | with_reducible apply v_call | with_reducible apply v_da | with_reducible apply v_opv | with_reducible apply v_lst | with_reducible apply v_tup | with_reducible apply ds_cons | with_reducible apply os_cons | with_reducible apply v_app | with_reducible apply v_not | with_reducible apply v_tor | with_reducible apply v_tand | with_reducible apply v_tnot | with_reducible apply v_te | with_reducible apply v_slice | with_reducible apply v_yesn | with_reducible apply v_chain | with_reducible apply v_seq | with_reducible apply v_r1 | with_reducible apply v_r1m | with_reducible apply v_enT | with_reducible apply v_enL | with_reducible apply v_ofl | with_reducible apply v_oftr | with_reducible apply v_oft | with_reducible apply o_mul | with_reducible apply o_sub | with_reducible apply o_mod | with_reducible apply o_div | with_reducible apply o_shr | with_reducible apply idx_nat | with_reducible apply q_idx2 | with_reducible apply q_idx3 | with_reducible apply q_idx4 | with_reducible apply q_idx5 | with_reducible apply q_idx6 | with_reducible apply q_idx7 | with_reducible apply q_repr | with_reducible apply idx_natL | with_reducible assumption | omega)) (by (repeat' first | exact Rf.mk rfl | (apply Rd.mk; (try dsimp only [vals_n, vals_x, vals_v, bk_c, bk_d, pb_x, pb_v, pb_n, view_x, view_v, viewV_d, viewV_c, settle_d, settle_c, get_z, get_s, set_z, set_s, ka_n, ka_s, re_n, re_s, seqOf_t, seqOf_l, asgT, asgTs, Option.bind_some, ↓reduceIte, List.length_cons, List.length_nil]); (try exact rfl); done) | with_reducible exact v_yesneg | with_reducible exact q_nes | with_reducible exact q_eqs | with_reducible exact v_nat | with_reducible exact v_neg | with_reducible exact v_bl | with_reducible exact v_non | with_reducible exact v_str | with_reducible exact ds_nil | with_reducible exact os_nil | with_reducible exact part_no | with_reducible exact q_net0 | with_reducible exact q_net1 | with_reducible exact o_add | with_reducible exact o_min | with_reducible exact o_max | with_reducible exact o_eq | with_reducible exact o_ne | with_reducible exact o_lt | with_reducible exact o_le | with_reducible exact o_gt | with_reducible exact o_ge | with_reducible exact q_lenN | with_reducible exact q_lenU | with_reducible exact q_lenS | with_reducible exact q_lenM | with_reducible exact q_lenMT | with_reducible exact q_lenL | with_reducible exact q_lenT | with_reducible exact q_tupN | with_reducible exact q_tupU | with_reducible exact q_lstN | with_reducible exact q_lstU | with_reducible exact q_tupL | with_reducible exact q_tupT | with_reducible exact q_lstL | with_reducible exact q_lstT | with_reducible exact q_int | with_reducible exact q_isT | ((with_reducible apply v_var); apply Rd.mk; (try dsimp only [vals_n, vals_x, vals_v, bk_c, bk_d, pb_x, pb_v, pb_n, view_x, view_v, viewV_d, viewV_c, settle_d, settle_c, get_z, get_s, set_z, set_s, ka_n, ka_s, re_n, re_s, seqOf_t, seqOf_l, asgT, asgTs, Option.bind_some, ↓reduceIte, List.length_cons, List.length_nil]); (try with_reducible exact rfl); done) | ((with_reducible apply v_mv); apply Rd.mk; (try dsimp only [vals_n, vals_x, vals_v, bk_c, bk_d, pb_x, pb_v, pb_n, view_x, view_v, viewV_d, viewV_c, settle_d, settle_c, get_z, get_s, set_z, set_s, ka_n, ka_s, re_n, re_s, seqOf_t, seqOf_l, asgT, asgTs, Option.bind_some, ↓reduceIte, List.length_cons, List.length_nil]); (try with_reducible exact rfl); done) | ((with_reducible apply v_opx); exact Rf.mk rfl) | with_reducible apply v_fr | with_reducible apply v_mvc | with_reducible apply v_o2 | with_reducible apply v_o1 | with_reducible apply v_call | with_reducible apply v_da | with_reducible apply v_opv | with_reducible apply v_lst | with_reducible apply v_tup | with_reducible apply ds_cons | with_reducible apply os_cons | with_reducible apply v_app | with_reducible apply v_not | with_reducible apply v_tor | with_reducible apply v_tand | with_reducible apply v_tnot | with_reducible apply v_te | with_reducible apply v_slice | with_reducible apply v_yesn | with_reducible apply v_chain | with_reducible apply v_seq | with_reducible apply v_r1 | with_reducible apply v_r1m | with_reducible apply v_enT | with_reducible apply v_enL | with_reducible apply v_ofl | with_reducible apply v_oftr | with_reducible apply v_oft | with_reducible apply o_mul | with_reducible apply o_sub | with_reducible apply o_mod | with_reducible apply o_div | with_reducible apply o_shr | with_reducible apply idx_nat | with_reducible apply q_idx2 | with_reducible apply q_idx3 | with_reducible apply q_idx4 | with_reducible apply q_idx5 | with_reducible apply q_idx6 | with_reducible apply q_idx7 | with_reducible apply q_repr | with_reducible apply idx_natL | with_reducible assumption | omega)) ?_
  rw [pw]
  obtain ⟨y1, h1⟩ := isC1_ok F1
  obtain ⟨y2, h2⟩ := isC1_ok F2
  obtain ⟨y3, h3⟩ := isLst_ok F3
  obtain ⟨y4, z4, h4⟩ := isC2_ok F4
  generalize lstOf (callF T 11 "_law_sorter" [.d (natD (2 ^ m))]) = LM at h3 h4
  have gs : ∀ st ∈ srS m, GSt (2 ^ m) st := fun st hst => gB_ok (F6 st hst)
  have mm : m * (m + 1) / 2 ≤ 10 := by
    have : ∀ m < 5, m * (m + 1) / 2 ≤ 10 := by decide
    exact this m (by omega)
  generalize hss : srS m = ss at *
  generalize hk : 2 ^ m = k at *
  refine u_asg (by (repeat' first | exact Rf.mk rfl | (apply Rd.mk; (try dsimp only [vals_n, vals_x, vals_v, bk_c, bk_d, pb_x, pb_v, pb_n, view_x, view_v, viewV_d, viewV_c, settle_d, settle_c, get_z, get_s, set_z, set_s, ka_n, ka_s, re_n, re_s, seqOf_t, seqOf_l, asgT, asgTs, Option.bind_some, ↓reduceIte, List.length_cons, List.length_nil]); (try exact rfl); done) | with_reducible exact h1 | with_reducible exact v_yesneg | with_reducible exact q_nes | with_reducible exact q_eqs | with_reducible exact v_nat | with_reducible exact v_neg | with_reducible exact v_bl | with_reducible exact v_non | with_reducible exact v_str | with_reducible exact ds_nil | with_reducible exact os_nil | with_reducible exact part_no | with_reducible exact q_net0 | with_reducible exact q_net1 | with_reducible exact o_add | with_reducible exact o_min | with_reducible exact o_max | with_reducible exact o_eq | with_reducible exact o_ne | with_reducible exact o_lt | with_reducible exact o_le | with_reducible exact o_gt | with_reducible exact o_ge | with_reducible exact q_lenN | with_reducible exact q_lenU | with_reducible exact q_lenS | with_reducible exact q_lenM | with_reducible exact q_lenMT | with_reducible exact q_lenL | with_reducible exact q_lenT | with_reducible exact q_tupN | with_reducible exact q_tupU | with_reducible exact q_lstN | with_reducible exact q_lstU | with_reducible exact q_tupL | with_reducible exact q_tupT | with_reducible exact q_lstL | with_reducible exact q_lstT | with_reducible exact q_int | with_reducible exact q_isT | ((with_reducible apply v_var); apply Rd.mk; (try dsimp only [vals_n, vals_x, vals_v, bk_c, bk_d, pb_x, pb_v, pb_n, view_x, view_v, viewV_d, viewV_c, settle_d, settle_c, get_z, get_s, set_z, set_s, ka_n, ka_s, re_n, re_s, seqOf_t, seqOf_l, asgT, asgTs, Option.bind_some, ↓reduceIte, List.length_cons, List.length_nil]); (try with_reducible exact rfl); done) | ((with_reducible apply v_mv); apply Rd.mk; (try dsimp only [vals_n, vals_x, vals_v, bk_c, bk_d, pb_x, pb_v, pb_n, view_x, view_v, viewV_d, viewV_c, settle_d, settle_c, get_z, get_s, set_z, set_s, ka_n, ka_s, re_n, re_s, seqOf_t, seqOf_l, asgT, asgTs, Option.bind_some, ↓reduceIte, List.length_cons, List.length_nil]); (try with_reducible exact rfl); done) | ((with_reducible apply v_opx); exact Rf.mk rfl) | with_reducible apply v_fr | with_reducible apply v_mvc | with_reducible apply v_o2 | with_reducible apply v_o1 | with_reducible apply v_call | with_reducible apply v_da | with_reducible apply v_opv | with_reducible apply v_lst | with_reducible apply v_tup | with_reducible apply ds_cons | with_reducible apply os_cons | with_reducible apply v_app | with_reducible apply v_not | with_reducible apply v_tor | with_reducible apply v_tand | with_reducible apply v_tnot | with_reducible apply v_te | with_reducible apply v_slice | with_reducible apply v_yesn | with_reducible apply v_chain | with_reducible apply v_seq | with_reducible apply v_r1 | with_reducible apply v_r1m | with_reducible apply v_enT | with_reducible apply v_enL | with_reducible apply v_ofl | with_reducible apply v_oftr | with_reducible apply v_oft | with_reducible apply o_mul | with_reducible apply o_sub | with_reducible apply o_mod | with_reducible apply o_div | with_reducible apply o_shr | with_reducible apply idx_nat | with_reducible apply q_idx2 | with_reducible apply q_idx3 | with_reducible apply q_idx4 | with_reducible apply q_idx5 | with_reducible apply q_idx6 | with_reducible apply q_idx7 | with_reducible apply q_repr | with_reducible apply idx_natL | with_reducible assumption | omega)) (by (repeat' first | exact Rf.mk rfl | (apply Rd.mk; (try dsimp only [vals_n, vals_x, vals_v, bk_c, bk_d, pb_x, pb_v, pb_n, view_x, view_v, viewV_d, viewV_c, settle_d, settle_c, get_z, get_s, set_z, set_s, ka_n, ka_s, re_n, re_s, seqOf_t, seqOf_l, asgT, asgTs, Option.bind_some, ↓reduceIte, List.length_cons, List.length_nil]); (try exact rfl); done) | with_reducible exact v_yesneg | with_reducible exact q_nes | with_reducible exact q_eqs | with_reducible exact v_nat | with_reducible exact v_neg | with_reducible exact v_bl | with_reducible exact v_non | with_reducible exact v_str | with_reducible exact ds_nil | with_reducible exact os_nil | with_reducible exact part_no | with_reducible exact q_net0 | with_reducible exact q_net1 | with_reducible exact o_add | with_reducible exact o_min | with_reducible exact o_max | with_reducible exact o_eq | with_reducible exact o_ne | with_reducible exact o_lt | with_reducible exact o_le | with_reducible exact o_gt | with_reducible exact o_ge | with_reducible exact q_lenN | with_reducible exact q_lenU | with_reducible exact q_lenS | with_reducible exact q_lenM | with_reducible exact q_lenMT | with_reducible exact q_lenL | with_reducible exact q_lenT | with_reducible exact q_tupN | with_reducible exact q_tupU | with_reducible exact q_lstN | with_reducible exact q_lstU | with_reducible exact q_tupL | with_reducible exact q_tupT | with_reducible exact q_lstL | with_reducible exact q_lstT | with_reducible exact q_int | with_reducible exact q_isT | ((with_reducible apply v_var); apply Rd.mk; (try dsimp only [vals_n, vals_x, vals_v, bk_c, bk_d, pb_x, pb_v, pb_n, view_x, view_v, viewV_d, viewV_c, settle_d, settle_c, get_z, get_s, set_z, set_s, ka_n, ka_s, re_n, re_s, seqOf_t, seqOf_l, asgT, asgTs, Option.bind_some, ↓reduceIte, List.length_cons, List.length_nil]); (try with_reducible exact rfl); done) | ((with_reducible apply v_mv); apply Rd.mk; (try dsimp only [vals_n, vals_x, vals_v, bk_c, bk_d, pb_x, pb_v, pb_n, view_x, view_v, viewV_d, viewV_c, settle_d, settle_c, get_z, get_s, set_z, set_s, ka_n, ka_s, re_n, re_s, seqOf_t, seqOf_l, asgT, asgTs, Option.bind_some, ↓reduceIte, List.length_cons, List.length_nil]); (try with_reducible exact rfl); done) | ((with_reducible apply v_opx); exact Rf.mk rfl) | with_reducible apply v_fr | with_reducible apply v_mvc | with_reducible apply v_o2 | with_reducible apply v_o1 | with_reducible apply v_call | with_reducible apply v_da | with_reducible apply v_opv | with_reducible apply v_lst | with_reducible apply v_tup | with_reducible apply ds_cons | with_reducible apply os_cons | with_reducible apply v_app | with_reducible apply v_not | with_reducible apply v_tor | with_reducible apply v_tand | with_reducible apply v_tnot | with_reducible apply v_te | with_reducible apply v_slice | with_reducible apply v_yesn | with_reducible apply v_chain | with_reducible apply v_seq | with_reducible apply v_r1 | with_reducible apply v_r1m | with_reducible apply v_enT | with_reducible apply v_enL | with_reducible apply v_ofl | with_reducible apply v_oftr | with_reducible apply v_oft | with_reducible apply o_mul | with_reducible apply o_sub | with_reducible apply o_mod | with_reducible apply o_div | with_reducible apply o_shr | with_reducible apply idx_nat | with_reducible apply q_idx2 | with_reducible apply q_idx3 | with_reducible apply q_idx4 | with_reducible apply q_idx5 | with_reducible apply q_idx6 | with_reducible apply q_idx7 | with_reducible apply q_repr | with_reducible apply idx_natL | with_reducible assumption | omega)) ?_
  refine u_asg (by (repeat' first | exact Rf.mk rfl | (apply Rd.mk; (try dsimp only [vals_n, vals_x, vals_v, bk_c, bk_d, pb_x, pb_v, pb_n, view_x, view_v, viewV_d, viewV_c, settle_d, settle_c, get_z, get_s, set_z, set_s, ka_n, ka_s, re_n, re_s, seqOf_t, seqOf_l, asgT, asgTs, Option.bind_some, ↓reduceIte, List.length_cons, List.length_nil]); (try exact rfl); done) | with_reducible exact h3 | with_reducible exact h4 | with_reducible exact v_yesneg | with_reducible exact q_nes | with_reducible exact q_eqs | with_reducible exact v_nat | with_reducible exact v_neg | with_reducible exact v_bl | with_reducible exact v_non | with_reducible exact v_str | with_reducible exact ds_nil | with_reducible exact os_nil | with_reducible exact part_no | with_reducible exact q_net0 | with_reducible exact q_net1 | with_reducible exact o_add | with_reducible exact o_min | with_reducible exact o_max | with_reducible exact o_eq | with_reducible exact o_ne | with_reducible exact o_lt | with_reducible exact o_le | with_reducible exact o_gt | with_reducible exact o_ge | with_reducible exact q_lenN | with_reducible exact q_lenU | with_reducible exact q_lenS | with_reducible exact q_lenM | with_reducible exact q_lenMT | with_reducible exact q_lenL | with_reducible exact q_lenT | with_reducible exact q_tupN | with_reducible exact q_tupU | with_reducible exact q_lstN | with_reducible exact q_lstU | with_reducible exact q_tupL | with_reducible exact q_tupT | with_reducible exact q_lstL | with_reducible exact q_lstT | with_reducible exact q_int | with_reducible exact q_isT | ((with_reducible apply v_var); apply Rd.mk; (try dsimp only [vals_n, vals_x, vals_v, bk_c, bk_d, pb_x, pb_v, pb_n, view_x, view_v, viewV_d, viewV_c, settle_d, settle_c, get_z, get_s, set_z, set_s, ka_n, ka_s, re_n, re_s, seqOf_t, seqOf_l, asgT, asgTs, Option.bind_some, ↓reduceIte, List.length_cons, List.length_nil]); (try with_reducible exact rfl); done) | ((with_reducible apply v_mv); apply Rd.mk; (try dsimp only [vals_n, vals_x, vals_v, bk_c, bk_d, pb_x, pb_v, pb_n, view_x, view_v, viewV_d, viewV_c, settle_d, settle_c, get_z, get_s, set_z, set_s, ka_n, ka_s, re_n, re_s, seqOf_t, seqOf_l, asgT, asgTs, Option.bind_some, ↓reduceIte, List.length_cons, List.length_nil]); (try with_reducible exact rfl); done) | ((with_reducible apply v_opx); exact Rf.mk rfl) | with_reducible apply v_fr | with_reducible apply v_mvc | with_reducible apply v_o2 | with_reducible apply v_o1 | with_reducible apply v_call | with_reducible apply v_da | with_reducible apply v_opv | with_reducible apply v_lst | with_reducible apply v_tup | with_reducible apply ds_cons | with_reducible apply os_cons | with_reducible apply v_app | with_reducible apply v_not | with_reducible apply v_tor | with_reducible apply v_tand | with_reducible apply v_tnot | with_reducible apply v_te | with_reducible apply v_slice | with_reducible apply v_yesn | with_reducible apply v_chain | with_reducible apply v_seq | with_reducible apply v_r1 | with_reducible apply v_r1m | with_reducible apply v_enT | with_reducible apply v_enL | with_reducible apply v_ofl | with_reducible apply v_oftr | with_reducible apply v_oft | with_reducible apply o_mul | with_reducible apply o_sub | with_reducible apply o_mod | with_reducible apply o_div | with_reducible apply o_shr | with_reducible apply idx_nat | with_reducible apply q_idx2 | with_reducible apply q_idx3 | with_reducible apply q_idx4 | with_reducible apply q_idx5 | with_reducible apply q_idx6 | with_reducible apply q_idx7 | with_reducible apply q_repr | with_reducible apply idx_natL | with_reducible assumption | omega)) (by (repeat' first | exact Rf.mk rfl | (apply Rd.mk; (try dsimp only [vals_n, vals_x, vals_v, bk_c, bk_d, pb_x, pb_v, pb_n, view_x, view_v, viewV_d, viewV_c, settle_d, settle_c, get_z, get_s, set_z, set_s, ka_n, ka_s, re_n, re_s, seqOf_t, seqOf_l, asgT, asgTs, Option.bind_some, ↓reduceIte, List.length_cons, List.length_nil]); (try exact rfl); done) | with_reducible exact v_yesneg | with_reducible exact q_nes | with_reducible exact q_eqs | with_reducible exact v_nat | with_reducible exact v_neg | with_reducible exact v_bl | with_reducible exact v_non | with_reducible exact v_str | with_reducible exact ds_nil | with_reducible exact os_nil | with_reducible exact part_no | with_reducible exact q_net0 | with_reducible exact q_net1 | with_reducible exact o_add | with_reducible exact o_min | with_reducible exact o_max | with_reducible exact o_eq | with_reducible exact o_ne | with_reducible exact o_lt | with_reducible exact o_le | with_reducible exact o_gt | with_reducible exact o_ge | with_reducible exact q_lenN | with_reducible exact q_lenU | with_reducible exact q_lenS | with_reducible exact q_lenM | with_reducible exact q_lenMT | with_reducible exact q_lenL | with_reducible exact q_lenT | with_reducible exact q_tupN | with_reducible exact q_tupU | with_reducible exact q_lstN | with_reducible exact q_lstU | with_reducible exact q_tupL | with_reducible exact q_tupT | with_reducible exact q_lstL | with_reducible exact q_lstT | with_reducible exact q_int | with_reducible exact q_isT | ((with_reducible apply v_var); apply Rd.mk; (try dsimp only [vals_n, vals_x, vals_v, bk_c, bk_d, pb_x, pb_v, pb_n, view_x, view_v, viewV_d, viewV_c, settle_d, settle_c, get_z, get_s, set_z, set_s, ka_n, ka_s, re_n, re_s, seqOf_t, seqOf_l, asgT, asgTs, Option.bind_some, ↓reduceIte, List.length_cons, List.length_nil]); (try with_reducible exact rfl); done) | ((with_reducible apply v_mv); apply Rd.mk; (try dsimp only [vals_n, vals_x, vals_v, bk_c, bk_d, pb_x, pb_v, pb_n, view_x, view_v, viewV_d, viewV_c, settle_d, settle_c, get_z, get_s, set_z, set_s, ka_n, ka_s, re_n, re_s, seqOf_t, seqOf_l, asgT, asgTs, Option.bind_some, ↓reduceIte, List.length_cons, List.length_nil]); (try with_reducible exact rfl); done) | ((with_reducible apply v_opx); exact Rf.mk rfl) | with_reducible apply v_fr | with_reducible apply v_mvc | with_reducible apply v_o2 | with_reducible apply v_o1 | with_reducible apply v_call | with_reducible apply v_da | with_reducible apply v_opv | with_reducible apply v_lst | with_reducible apply v_tup | with_reducible apply ds_cons | with_reducible apply os_cons | with_reducible apply v_app | with_reducible apply v_not | with_reducible apply v_tor | with_reducible apply v_tand | with_reducible apply v_tnot | with_reducible apply v_te | with_reducible apply v_slice | with_reducible apply v_yesn | with_reducible apply v_chain | with_reducible apply v_seq | with_reducible apply v_r1 | with_reducible apply v_r1m | with_reducible apply v_enT | with_reducible apply v_enL | with_reducible apply v_ofl | with_reducible apply v_oftr | with_reducible apply v_oft | with_reducible apply o_mul | with_reducible apply o_sub | with_reducible apply o_mod | with_reducible apply o_div | with_reducible apply o_shr | with_reducible apply idx_nat | with_reducible apply q_idx2 | with_reducible apply q_idx3 | with_reducible apply q_idx4 | with_reducible apply q_idx5 | with_reducible apply q_idx6 | with_reducible apply q_idx7 | with_reducible apply q_repr | with_reducible apply idx_natL | with_reducible assumption | omega)) ?_
  have sm := sm_gst (m := k) (by omega) (by omega) gs
  have ok := sm.repr (by decide) (by decide)
  have ne : op2 .ne (netP k ss) (netP k ss) = some (.d (.bool false)) := q_neT sm (by decide)
  have q1 : op1 (.isBool true false) (.bool true) = some (.d (.bool false)) := rfl
  refine wp_no (t_or (x := false) (y := false) (by (repeat' first | exact Rf.mk rfl | (apply Rd.mk; (try dsimp only [vals_n, vals_x, vals_v, bk_c, bk_d, pb_x, pb_v, pb_n, view_x, view_v, viewV_d, viewV_c, settle_d, settle_c, get_z, get_s, set_z, set_s, ka_n, ka_s, re_n, re_s, seqOf_t, seqOf_l, asgT, asgTs, Option.bind_some, ↓reduceIte, List.length_cons, List.length_nil]); (try exact rfl); done) | with_reducible exact q_repr ok | with_reducible exact v_yesneg | with_reducible exact q_nes | with_reducible exact q_eqs | with_reducible exact v_nat | with_reducible exact v_neg | with_reducible exact v_bl | with_reducible exact v_non | with_reducible exact v_str | with_reducible exact ds_nil | with_reducible exact os_nil | with_reducible exact part_no | with_reducible exact q_net0 | with_reducible exact q_net1 | with_reducible exact o_add | with_reducible exact o_min | with_reducible exact o_max | with_reducible exact o_eq | with_reducible exact o_ne | with_reducible exact o_lt | with_reducible exact o_le | with_reducible exact o_gt | with_reducible exact o_ge | with_reducible exact q_lenN | with_reducible exact q_lenU | with_reducible exact q_lenS | with_reducible exact q_lenM | with_reducible exact q_lenMT | with_reducible exact q_lenL | with_reducible exact q_lenT | with_reducible exact q_tupN | with_reducible exact q_tupU | with_reducible exact q_lstN | with_reducible exact q_lstU | with_reducible exact q_tupL | with_reducible exact q_tupT | with_reducible exact q_lstL | with_reducible exact q_lstT | with_reducible exact q_int | with_reducible exact q_isT | ((with_reducible apply v_var); apply Rd.mk; (try dsimp only [vals_n, vals_x, vals_v, bk_c, bk_d, pb_x, pb_v, pb_n, view_x, view_v, viewV_d, viewV_c, settle_d, settle_c, get_z, get_s, set_z, set_s, ka_n, ka_s, re_n, re_s, seqOf_t, seqOf_l, asgT, asgTs, Option.bind_some, ↓reduceIte, List.length_cons, List.length_nil]); (try with_reducible exact rfl); done) | ((with_reducible apply v_mv); apply Rd.mk; (try dsimp only [vals_n, vals_x, vals_v, bk_c, bk_d, pb_x, pb_v, pb_n, view_x, view_v, viewV_d, viewV_c, settle_d, settle_c, get_z, get_s, set_z, set_s, ka_n, ka_s, re_n, re_s, seqOf_t, seqOf_l, asgT, asgTs, Option.bind_some, ↓reduceIte, List.length_cons, List.length_nil]); (try with_reducible exact rfl); done) | ((with_reducible apply v_opx); exact Rf.mk rfl) | with_reducible apply v_fr | with_reducible apply v_mvc | with_reducible apply v_o2 | with_reducible apply v_o1 | with_reducible apply v_call | with_reducible apply v_da | with_reducible apply v_opv | with_reducible apply v_lst | with_reducible apply v_tup | with_reducible apply ds_cons | with_reducible apply os_cons | with_reducible apply v_app | with_reducible apply v_not | with_reducible apply v_tor | with_reducible apply v_tand | with_reducible apply v_tnot | with_reducible apply v_te | with_reducible apply v_slice | with_reducible apply v_yesn | with_reducible apply v_chain | with_reducible apply v_seq | with_reducible apply v_r1 | with_reducible apply v_r1m | with_reducible apply v_enT | with_reducible apply v_enL | with_reducible apply v_ofl | with_reducible apply v_oftr | with_reducible apply v_oft | with_reducible apply o_mul | with_reducible apply o_sub | with_reducible apply o_mod | with_reducible apply o_div | with_reducible apply o_shr | with_reducible apply idx_nat | with_reducible apply q_idx2 | with_reducible apply q_idx3 | with_reducible apply q_idx4 | with_reducible apply q_idx5 | with_reducible apply q_idx6 | with_reducible apply q_idx7 | with_reducible apply q_repr | with_reducible apply idx_natL | with_reducible assumption | omega)) (fun _ => t_or (x := false) (y := false) (by (repeat' first | exact Rf.mk rfl | (apply Rd.mk; (try dsimp only [vals_n, vals_x, vals_v, bk_c, bk_d, pb_x, pb_v, pb_n, view_x, view_v, viewV_d, viewV_c, settle_d, settle_c, get_z, get_s, set_z, set_s, ka_n, ka_s, re_n, re_s, seqOf_t, seqOf_l, asgT, asgTs, Option.bind_some, ↓reduceIte, List.length_cons, List.length_nil]); (try exact rfl); done) | with_reducible exact h2 | with_reducible exact q1 | with_reducible exact v_yesneg | with_reducible exact q_nes | with_reducible exact q_eqs | with_reducible exact v_nat | with_reducible exact v_neg | with_reducible exact v_bl | with_reducible exact v_non | with_reducible exact v_str | with_reducible exact ds_nil | with_reducible exact os_nil | with_reducible exact part_no | with_reducible exact q_net0 | with_reducible exact q_net1 | with_reducible exact o_add | with_reducible exact o_min | with_reducible exact o_max | with_reducible exact o_eq | with_reducible exact o_ne | with_reducible exact o_lt | with_reducible exact o_le | with_reducible exact o_gt | with_reducible exact o_ge | with_reducible exact q_lenN | with_reducible exact q_lenU | with_reducible exact q_lenS | with_reducible exact q_lenM | with_reducible exact q_lenMT | with_reducible exact q_lenL | with_reducible exact q_lenT | with_reducible exact q_tupN | with_reducible exact q_tupU | with_reducible exact q_lstN | with_reducible exact q_lstU | with_reducible exact q_tupL | with_reducible exact q_tupT | with_reducible exact q_lstL | with_reducible exact q_lstT | with_reducible exact q_int | with_reducible exact q_isT | ((with_reducible apply v_var); apply Rd.mk; (try dsimp only [vals_n, vals_x, vals_v, bk_c, bk_d, pb_x, pb_v, pb_n, view_x, view_v, viewV_d, viewV_c, settle_d, settle_c, get_z, get_s, set_z, set_s, ka_n, ka_s, re_n, re_s, seqOf_t, seqOf_l, asgT, asgTs, Option.bind_some, ↓reduceIte, List.length_cons, List.length_nil]); (try with_reducible exact rfl); done) | ((with_reducible apply v_mv); apply Rd.mk; (try dsimp only [vals_n, vals_x, vals_v, bk_c, bk_d, pb_x, pb_v, pb_n, view_x, view_v, viewV_d, viewV_c, settle_d, settle_c, get_z, get_s, set_z, set_s, ka_n, ka_s, re_n, re_s, seqOf_t, seqOf_l, asgT, asgTs, Option.bind_some, ↓reduceIte, List.length_cons, List.length_nil]); (try with_reducible exact rfl); done) | ((with_reducible apply v_opx); exact Rf.mk rfl) | with_reducible apply v_fr | with_reducible apply v_mvc | with_reducible apply v_o2 | with_reducible apply v_o1 | with_reducible apply v_call | with_reducible apply v_da | with_reducible apply v_opv | with_reducible apply v_lst | with_reducible apply v_tup | with_reducible apply ds_cons | with_reducible apply os_cons | with_reducible apply v_app | with_reducible apply v_not | with_reducible apply v_tor | with_reducible apply v_tand | with_reducible apply v_tnot | with_reducible apply v_te | with_reducible apply v_slice | with_reducible apply v_yesn | with_reducible apply v_chain | with_reducible apply v_seq | with_reducible apply v_r1 | with_reducible apply v_r1m | with_reducible apply v_enT | with_reducible apply v_enL | with_reducible apply v_ofl | with_reducible apply v_oftr | with_reducible apply v_oft | with_reducible apply o_mul | with_reducible apply o_sub | with_reducible apply o_mod | with_reducible apply o_div | with_reducible apply o_shr | with_reducible apply idx_nat | with_reducible apply q_idx2 | with_reducible apply q_idx3 | with_reducible apply q_idx4 | with_reducible apply q_idx5 | with_reducible apply q_idx6 | with_reducible apply q_idx7 | with_reducible apply q_repr | with_reducible apply idx_natL | with_reducible assumption | omega)) (fun _ => by (repeat' first | exact Rf.mk rfl | (apply Rd.mk; (try dsimp only [vals_n, vals_x, vals_v, bk_c, bk_d, pb_x, pb_v, pb_n, view_x, view_v, viewV_d, viewV_c, settle_d, settle_c, get_z, get_s, set_z, set_s, ka_n, ka_s, re_n, re_s, seqOf_t, seqOf_l, asgT, asgTs, Option.bind_some, ↓reduceIte, List.length_cons, List.length_nil]); (try exact rfl); done) | with_reducible exact h1 | with_reducible exact ne | with_reducible exact v_yesneg | with_reducible exact q_nes | with_reducible exact q_eqs | with_reducible exact v_nat | with_reducible exact v_neg | with_reducible exact v_bl | with_reducible exact v_non | with_reducible exact v_str | with_reducible exact ds_nil | with_reducible exact os_nil | with_reducible exact part_no | with_reducible exact q_net0 | with_reducible exact q_net1 | with_reducible exact o_add | with_reducible exact o_min | with_reducible exact o_max | with_reducible exact o_eq | with_reducible exact o_ne | with_reducible exact o_lt | with_reducible exact o_le | with_reducible exact o_gt | with_reducible exact o_ge | with_reducible exact q_lenN | with_reducible exact q_lenU | with_reducible exact q_lenS | with_reducible exact q_lenM | with_reducible exact q_lenMT | with_reducible exact q_lenL | with_reducible exact q_lenT | with_reducible exact q_tupN | with_reducible exact q_tupU | with_reducible exact q_lstN | with_reducible exact q_lstU | with_reducible exact q_tupL | with_reducible exact q_tupT | with_reducible exact q_lstL | with_reducible exact q_lstT | with_reducible exact q_int | with_reducible exact q_isT | ((with_reducible apply v_var); apply Rd.mk; (try dsimp only [vals_n, vals_x, vals_v, bk_c, bk_d, pb_x, pb_v, pb_n, view_x, view_v, viewV_d, viewV_c, settle_d, settle_c, get_z, get_s, set_z, set_s, ka_n, ka_s, re_n, re_s, seqOf_t, seqOf_l, asgT, asgTs, Option.bind_some, ↓reduceIte, List.length_cons, List.length_nil]); (try with_reducible exact rfl); done) | ((with_reducible apply v_mv); apply Rd.mk; (try dsimp only [vals_n, vals_x, vals_v, bk_c, bk_d, pb_x, pb_v, pb_n, view_x, view_v, viewV_d, viewV_c, settle_d, settle_c, get_z, get_s, set_z, set_s, ka_n, ka_s, re_n, re_s, seqOf_t, seqOf_l, asgT, asgTs, Option.bind_some, ↓reduceIte, List.length_cons, List.length_nil]); (try with_reducible exact rfl); done) | ((with_reducible apply v_opx); exact Rf.mk rfl) | with_reducible apply v_fr | with_reducible apply v_mvc | with_reducible apply v_o2 | with_reducible apply v_o1 | with_reducible apply v_call | with_reducible apply v_da | with_reducible apply v_opv | with_reducible apply v_lst | with_reducible apply v_tup | with_reducible apply ds_cons | with_reducible apply os_cons | with_reducible apply v_app | with_reducible apply v_not | with_reducible apply v_tor | with_reducible apply v_tand | with_reducible apply v_tnot | with_reducible apply v_te | with_reducible apply v_slice | with_reducible apply v_yesn | with_reducible apply v_chain | with_reducible apply v_seq | with_reducible apply v_r1 | with_reducible apply v_r1m | with_reducible apply v_enT | with_reducible apply v_enL | with_reducible apply v_ofl | with_reducible apply v_oftr | with_reducible apply v_oft | with_reducible apply o_mul | with_reducible apply o_sub | with_reducible apply o_mod | with_reducible apply o_div | with_reducible apply o_shr | with_reducible apply idx_nat | with_reducible apply q_idx2 | with_reducible apply q_idx3 | with_reducible apply q_idx4 | with_reducible apply q_idx5 | with_reducible apply q_idx6 | with_reducible apply q_idx7 | with_reducible apply q_repr | with_reducible apply idx_natL | with_reducible assumption | omega)) (fun h => by cases h)) (fun h => by cases h)) ?_
  have q2 : op2 .ne (natD ss.length) (natD (m * (m + 1) / 2)) = some (.d (.bool false)) := by rw [o_ne, decide_eq_true F7]; rfl
  have q3 : op1 (.isi "tuple") (netP k ss) = some (.d (.bool true)) := rfl
  refine wp_no (t_or (x := false) (y := false) (by (repeat' first | exact Rf.mk rfl | (apply Rd.mk; (try dsimp only [vals_n, vals_x, vals_v, bk_c, bk_d, pb_x, pb_v, pb_n, view_x, view_v, viewV_d, viewV_c, settle_d, settle_c, get_z, get_s, set_z, set_s, ka_n, ka_s, re_n, re_s, seqOf_t, seqOf_l, asgT, asgTs, Option.bind_some, ↓reduceIte, List.length_cons, List.length_nil]); (try exact rfl); done) | with_reducible exact q2 | with_reducible exact v_yesneg | with_reducible exact q_nes | with_reducible exact q_eqs | with_reducible exact v_nat | with_reducible exact v_neg | with_reducible exact v_bl | with_reducible exact v_non | with_reducible exact v_str | with_reducible exact ds_nil | with_reducible exact os_nil | with_reducible exact part_no | with_reducible exact q_net0 | with_reducible exact q_net1 | with_reducible exact o_add | with_reducible exact o_min | with_reducible exact o_max | with_reducible exact o_eq | with_reducible exact o_ne | with_reducible exact o_lt | with_reducible exact o_le | with_reducible exact o_gt | with_reducible exact o_ge | with_reducible exact q_lenN | with_reducible exact q_lenU | with_reducible exact q_lenS | with_reducible exact q_lenM | with_reducible exact q_lenMT | with_reducible exact q_lenL | with_reducible exact q_lenT | with_reducible exact q_tupN | with_reducible exact q_tupU | with_reducible exact q_lstN | with_reducible exact q_lstU | with_reducible exact q_tupL | with_reducible exact q_tupT | with_reducible exact q_lstL | with_reducible exact q_lstT | with_reducible exact q_int | with_reducible exact q_isT | ((with_reducible apply v_var); apply Rd.mk; (try dsimp only [vals_n, vals_x, vals_v, bk_c, bk_d, pb_x, pb_v, pb_n, view_x, view_v, viewV_d, viewV_c, settle_d, settle_c, get_z, get_s, set_z, set_s, ka_n, ka_s, re_n, re_s, seqOf_t, seqOf_l, asgT, asgTs, Option.bind_some, ↓reduceIte, List.length_cons, List.length_nil]); (try with_reducible exact rfl); done) | ((with_reducible apply v_mv); apply Rd.mk; (try dsimp only [vals_n, vals_x, vals_v, bk_c, bk_d, pb_x, pb_v, pb_n, view_x, view_v, viewV_d, viewV_c, settle_d, settle_c, get_z, get_s, set_z, set_s, ka_n, ka_s, re_n, re_s, seqOf_t, seqOf_l, asgT, asgTs, Option.bind_some, ↓reduceIte, List.length_cons, List.length_nil]); (try with_reducible exact rfl); done) | ((with_reducible apply v_opx); exact Rf.mk rfl) | with_reducible apply v_fr | with_reducible apply v_mvc | with_reducible apply v_o2 | with_reducible apply v_o1 | with_reducible apply v_call | with_reducible apply v_da | with_reducible apply v_opv | with_reducible apply v_lst | with_reducible apply v_tup | with_reducible apply ds_cons | with_reducible apply os_cons | with_reducible apply v_app | with_reducible apply v_not | with_reducible apply v_tor | with_reducible apply v_tand | with_reducible apply v_tnot | with_reducible apply v_te | with_reducible apply v_slice | with_reducible apply v_yesn | with_reducible apply v_chain | with_reducible apply v_seq | with_reducible apply v_r1 | with_reducible apply v_r1m | with_reducible apply v_enT | with_reducible apply v_enL | with_reducible apply v_ofl | with_reducible apply v_oftr | with_reducible apply v_oft | with_reducible apply o_mul | with_reducible apply o_sub | with_reducible apply o_mod | with_reducible apply o_div | with_reducible apply o_shr | with_reducible apply idx_nat | with_reducible apply q_idx2 | with_reducible apply q_idx3 | with_reducible apply q_idx4 | with_reducible apply q_idx5 | with_reducible apply q_idx6 | with_reducible apply q_idx7 | with_reducible apply q_repr | with_reducible apply idx_natL | with_reducible assumption | omega)) (fun _ => t_not (x := true) (by (repeat' first | exact Rf.mk rfl | (apply Rd.mk; (try dsimp only [vals_n, vals_x, vals_v, bk_c, bk_d, pb_x, pb_v, pb_n, view_x, view_v, viewV_d, viewV_c, settle_d, settle_c, get_z, get_s, set_z, set_s, ka_n, ka_s, re_n, re_s, seqOf_t, seqOf_l, asgT, asgTs, Option.bind_some, ↓reduceIte, List.length_cons, List.length_nil]); (try exact rfl); done) | with_reducible exact q3 | with_reducible exact v_yesneg | with_reducible exact q_nes | with_reducible exact q_eqs | with_reducible exact v_nat | with_reducible exact v_neg | with_reducible exact v_bl | with_reducible exact v_non | with_reducible exact v_str | with_reducible exact ds_nil | with_reducible exact os_nil | with_reducible exact part_no | with_reducible exact q_net0 | with_reducible exact q_net1 | with_reducible exact o_add | with_reducible exact o_min | with_reducible exact o_max | with_reducible exact o_eq | with_reducible exact o_ne | with_reducible exact o_lt | with_reducible exact o_le | with_reducible exact o_gt | with_reducible exact o_ge | with_reducible exact q_lenN | with_reducible exact q_lenU | with_reducible exact q_lenS | with_reducible exact q_lenM | with_reducible exact q_lenMT | with_reducible exact q_lenL | with_reducible exact q_lenT | with_reducible exact q_tupN | with_reducible exact q_tupU | with_reducible exact q_lstN | with_reducible exact q_lstU | with_reducible exact q_tupL | with_reducible exact q_tupT | with_reducible exact q_lstL | with_reducible exact q_lstT | with_reducible exact q_int | with_reducible exact q_isT | ((with_reducible apply v_var); apply Rd.mk; (try dsimp only [vals_n, vals_x, vals_v, bk_c, bk_d, pb_x, pb_v, pb_n, view_x, view_v, viewV_d, viewV_c, settle_d, settle_c, get_z, get_s, set_z, set_s, ka_n, ka_s, re_n, re_s, seqOf_t, seqOf_l, asgT, asgTs, Option.bind_some, ↓reduceIte, List.length_cons, List.length_nil]); (try with_reducible exact rfl); done) | ((with_reducible apply v_mv); apply Rd.mk; (try dsimp only [vals_n, vals_x, vals_v, bk_c, bk_d, pb_x, pb_v, pb_n, view_x, view_v, viewV_d, viewV_c, settle_d, settle_c, get_z, get_s, set_z, set_s, ka_n, ka_s, re_n, re_s, seqOf_t, seqOf_l, asgT, asgTs, Option.bind_some, ↓reduceIte, List.length_cons, List.length_nil]); (try with_reducible exact rfl); done) | ((with_reducible apply v_opx); exact Rf.mk rfl) | with_reducible apply v_fr | with_reducible apply v_mvc | with_reducible apply v_o2 | with_reducible apply v_o1 | with_reducible apply v_call | with_reducible apply v_da | with_reducible apply v_opv | with_reducible apply v_lst | with_reducible apply v_tup | with_reducible apply ds_cons | with_reducible apply os_cons | with_reducible apply v_app | with_reducible apply v_not | with_reducible apply v_tor | with_reducible apply v_tand | with_reducible apply v_tnot | with_reducible apply v_te | with_reducible apply v_slice | with_reducible apply v_yesn | with_reducible apply v_chain | with_reducible apply v_seq | with_reducible apply v_r1 | with_reducible apply v_r1m | with_reducible apply v_enT | with_reducible apply v_enL | with_reducible apply v_ofl | with_reducible apply v_oftr | with_reducible apply v_oft | with_reducible apply o_mul | with_reducible apply o_sub | with_reducible apply o_mod | with_reducible apply o_div | with_reducible apply o_shr | with_reducible apply idx_nat | with_reducible apply q_idx2 | with_reducible apply q_idx3 | with_reducible apply q_idx4 | with_reducible apply q_idx5 | with_reducible apply q_idx6 | with_reducible apply q_idx7 | with_reducible apply q_repr | with_reducible apply idx_natL | with_reducible assumption | omega))) (fun h => by cases h)) ?_
  refine wp_forN (m := max 1 (min ns.length 4)) (by (repeat' first | exact Rf.mk rfl | (apply Rd.mk; (try dsimp only [vals_n, vals_x, vals_v, bk_c, bk_d, pb_x, pb_v, pb_n, view_x, view_v, viewV_d, viewV_c, settle_d, settle_c, get_z, get_s, set_z, set_s, ka_n, ka_s, re_n, re_s, seqOf_t, seqOf_l, asgT, asgTs, Option.bind_some, ↓reduceIte, List.length_cons, List.length_nil]); (try exact rfl); done) | with_reducible exact v_yesneg | with_reducible exact q_nes | with_reducible exact q_eqs | with_reducible exact v_nat | with_reducible exact v_neg | with_reducible exact v_bl | with_reducible exact v_non | with_reducible exact v_str | with_reducible exact ds_nil | with_reducible exact os_nil | with_reducible exact part_no | with_reducible exact q_net0 | with_reducible exact q_net1 | with_reducible exact o_add | with_reducible exact o_min | with_reducible exact o_max | with_reducible exact o_eq | with_reducible exact o_ne | with_reducible exact o_lt | with_reducible exact o_le | with_reducible exact o_gt | with_reducible exact o_ge | with_reducible exact q_lenN | with_reducible exact q_lenU | with_reducible exact q_lenS | with_reducible exact q_lenM | with_reducible exact q_lenMT | with_reducible exact q_lenL | with_reducible exact q_lenT | with_reducible exact q_tupN | with_reducible exact q_tupU | with_reducible exact q_lstN | with_reducible exact q_lstU | with_reducible exact q_tupL | with_reducible exact q_tupT | with_reducible exact q_lstL | with_reducible exact q_lstT | with_reducible exact q_int | with_reducible exact q_isT | ((with_reducible apply v_var); apply Rd.mk; (try dsimp only [vals_n, vals_x, vals_v, bk_c, bk_d, pb_x, pb_v, pb_n, view_x, view_v, viewV_d, viewV_c, settle_d, settle_c, get_z, get_s, set_z, set_s, ka_n, ka_s, re_n, re_s, seqOf_t, seqOf_l, asgT, asgTs, Option.bind_some, ↓reduceIte, List.length_cons, List.length_nil]); (try with_reducible exact rfl); done) | ((with_reducible apply v_mv); apply Rd.mk; (try dsimp only [vals_n, vals_x, vals_v, bk_c, bk_d, pb_x, pb_v, pb_n, view_x, view_v, viewV_d, viewV_c, settle_d, settle_c, get_z, get_s, set_z, set_s, ka_n, ka_s, re_n, re_s, seqOf_t, seqOf_l, asgT, asgTs, Option.bind_some, ↓reduceIte, List.length_cons, List.length_nil]); (try with_reducible exact rfl); done) | ((with_reducible apply v_opx); exact Rf.mk rfl) | with_reducible apply v_fr | with_reducible apply v_mvc | with_reducible apply v_o2 | with_reducible apply v_o1 | with_reducible apply v_call | with_reducible apply v_da | with_reducible apply v_opv | with_reducible apply v_lst | with_reducible apply v_tup | with_reducible apply ds_cons | with_reducible apply os_cons | with_reducible apply v_app | with_reducible apply v_not | with_reducible apply v_tor | with_reducible apply v_tand | with_reducible apply v_tnot | with_reducible apply v_te | with_reducible apply v_slice | with_reducible apply v_yesn | with_reducible apply v_chain | with_reducible apply v_seq | with_reducible apply v_r1 | with_reducible apply v_r1m | with_reducible apply v_enT | with_reducible apply v_enL | with_reducible apply v_ofl | with_reducible apply v_oftr | with_reducible apply v_oft | with_reducible apply o_mul | with_reducible apply o_sub | with_reducible apply o_mod | with_reducible apply o_div | with_reducible apply o_shr | with_reducible apply idx_nat | with_reducible apply q_idx2 | with_reducible apply q_idx3 | with_reducible apply q_idx4 | with_reducible apply q_idx5 | with_reducible apply q_idx6 | with_reducible apply q_idx7 | with_reducible apply q_repr | with_reducible apply idx_natL | with_reducible assumption | omega)) (fun j e => e = [.d (.list (ns.map .int)), .d (natD m), .d (natD k), .d (netP k ss), .d (netP k ss), .u, .u, .u, .u, .u]) ?_ (fun e he => ?_) fun j e hj he => ?_
  · rfl
  · subst he
    exact wp_nil rfl
  subst he
  dsimp only [set_z, set_s]
  obtain ⟨a, s, y5, z5, h5⟩ := deck4_ok hE 10 ns j
  refine u_asg (by (repeat' first | exact Rf.mk rfl | (apply Rd.mk; (try dsimp only [vals_n, vals_x, vals_v, bk_c, bk_d, pb_x, pb_v, pb_n, view_x, view_v, viewV_d, viewV_c, settle_d, settle_c, get_z, get_s, set_z, set_s, ka_n, ka_s, re_n, re_s, seqOf_t, seqOf_l, asgT, asgTs, Option.bind_some, ↓reduceIte, List.length_cons, List.length_nil]); (try exact rfl); done) | with_reducible exact h5 | with_reducible exact v_yesneg | with_reducible exact q_nes | with_reducible exact q_eqs | with_reducible exact v_nat | with_reducible exact v_neg | with_reducible exact v_bl | with_reducible exact v_non | with_reducible exact v_str | with_reducible exact ds_nil | with_reducible exact os_nil | with_reducible exact part_no | with_reducible exact q_net0 | with_reducible exact q_net1 | with_reducible exact o_add | with_reducible exact o_min | with_reducible exact o_max | with_reducible exact o_eq | with_reducible exact o_ne | with_reducible exact o_lt | with_reducible exact o_le | with_reducible exact o_gt | with_reducible exact o_ge | with_reducible exact q_lenN | with_reducible exact q_lenU | with_reducible exact q_lenS | with_reducible exact q_lenM | with_reducible exact q_lenMT | with_reducible exact q_lenL | with_reducible exact q_lenT | with_reducible exact q_tupN | with_reducible exact q_tupU | with_reducible exact q_lstN | with_reducible exact q_lstU | with_reducible exact q_tupL | with_reducible exact q_tupT | with_reducible exact q_lstL | with_reducible exact q_lstT | with_reducible exact q_int | with_reducible exact q_isT | ((with_reducible apply v_var); apply Rd.mk; (try dsimp only [vals_n, vals_x, vals_v, bk_c, bk_d, pb_x, pb_v, pb_n, view_x, view_v, viewV_d, viewV_c, settle_d, settle_c, get_z, get_s, set_z, set_s, ka_n, ka_s, re_n, re_s, seqOf_t, seqOf_l, asgT, asgTs, Option.bind_some, ↓reduceIte, List.length_cons, List.length_nil]); (try with_reducible exact rfl); done) | ((with_reducible apply v_mv); apply Rd.mk; (try dsimp only [vals_n, vals_x, vals_v, bk_c, bk_d, pb_x, pb_v, pb_n, view_x, view_v, viewV_d, viewV_c, settle_d, settle_c, get_z, get_s, set_z, set_s, ka_n, ka_s, re_n, re_s, seqOf_t, seqOf_l, asgT, asgTs, Option.bind_some, ↓reduceIte, List.length_cons, List.length_nil]); (try with_reducible exact rfl); done) | ((with_reducible apply v_opx); exact Rf.mk rfl) | with_reducible apply v_fr | with_reducible apply v_mvc | with_reducible apply v_o2 | with_reducible apply v_o1 | with_reducible apply v_call | with_reducible apply v_da | with_reducible apply v_opv | with_reducible apply v_lst | with_reducible apply v_tup | with_reducible apply ds_cons | with_reducible apply os_cons | with_reducible apply v_app | with_reducible apply v_not | with_reducible apply v_tor | with_reducible apply v_tand | with_reducible apply v_tnot | with_reducible apply v_te | with_reducible apply v_slice | with_reducible apply v_yesn | with_reducible apply v_chain | with_reducible apply v_seq | with_reducible apply v_r1 | with_reducible apply v_r1m | with_reducible apply v_enT | with_reducible apply v_enL | with_reducible apply v_ofl | with_reducible apply v_oftr | with_reducible apply v_oft | with_reducible apply o_mul | with_reducible apply o_sub | with_reducible apply o_mod | with_reducible apply o_div | with_reducible apply o_shr | with_reducible apply idx_nat | with_reducible apply q_idx2 | with_reducible apply q_idx3 | with_reducible apply q_idx4 | with_reducible apply q_idx5 | with_reducible apply q_idx6 | with_reducible apply q_idx7 | with_reducible apply q_repr | with_reducible apply idx_natL | with_reducible assumption | omega)) (by (repeat' first | exact Rf.mk rfl | (apply Rd.mk; (try dsimp only [vals_n, vals_x, vals_v, bk_c, bk_d, pb_x, pb_v, pb_n, view_x, view_v, viewV_d, viewV_c, settle_d, settle_c, get_z, get_s, set_z, set_s, ka_n, ka_s, re_n, re_s, seqOf_t, seqOf_l, asgT, asgTs, Option.bind_some, ↓reduceIte, List.length_cons, List.length_nil]); (try exact rfl); done) | with_reducible exact v_yesneg | with_reducible exact q_nes | with_reducible exact q_eqs | with_reducible exact v_nat | with_reducible exact v_neg | with_reducible exact v_bl | with_reducible exact v_non | with_reducible exact v_str | with_reducible exact ds_nil | with_reducible exact os_nil | with_reducible exact part_no | with_reducible exact q_net0 | with_reducible exact q_net1 | with_reducible exact o_add | with_reducible exact o_min | with_reducible exact o_max | with_reducible exact o_eq | with_reducible exact o_ne | with_reducible exact o_lt | with_reducible exact o_le | with_reducible exact o_gt | with_reducible exact o_ge | with_reducible exact q_lenN | with_reducible exact q_lenU | with_reducible exact q_lenS | with_reducible exact q_lenM | with_reducible exact q_lenMT | with_reducible exact q_lenL | with_reducible exact q_lenT | with_reducible exact q_tupN | with_reducible exact q_tupU | with_reducible exact q_lstN | with_reducible exact q_lstU | with_reducible exact q_tupL | with_reducible exact q_tupT | with_reducible exact q_lstL | with_reducible exact q_lstT | with_reducible exact q_int | with_reducible exact q_isT | ((with_reducible apply v_var); apply Rd.mk; (try dsimp only [vals_n, vals_x, vals_v, bk_c, bk_d, pb_x, pb_v, pb_n, view_x, view_v, viewV_d, viewV_c, settle_d, settle_c, get_z, get_s, set_z, set_s, ka_n, ka_s, re_n, re_s, seqOf_t, seqOf_l, asgT, asgTs, Option.bind_some, ↓reduceIte, List.length_cons, List.length_nil]); (try with_reducible exact rfl); done) | ((with_reducible apply v_mv); apply Rd.mk; (try dsimp only [vals_n, vals_x, vals_v, bk_c, bk_d, pb_x, pb_v, pb_n, view_x, view_v, viewV_d, viewV_c, settle_d, settle_c, get_z, get_s, set_z, set_s, ka_n, ka_s, re_n, re_s, seqOf_t, seqOf_l, asgT, asgTs, Option.bind_some, ↓reduceIte, List.length_cons, List.length_nil]); (try with_reducible exact rfl); done) | ((with_reducible apply v_opx); exact Rf.mk rfl) | with_reducible apply v_fr | with_reducible apply v_mvc | with_reducible apply v_o2 | with_reducible apply v_o1 | with_reducible apply v_call | with_reducible apply v_da | with_reducible apply v_opv | with_reducible apply v_lst | with_reducible apply v_tup | with_reducible apply ds_cons | with_reducible apply os_cons | with_reducible apply v_app | with_reducible apply v_not | with_reducible apply v_tor | with_reducible apply v_tand | with_reducible apply v_tnot | with_reducible apply v_te | with_reducible apply v_slice | with_reducible apply v_yesn | with_reducible apply v_chain | with_reducible apply v_seq | with_reducible apply v_r1 | with_reducible apply v_r1m | with_reducible apply v_enT | with_reducible apply v_enL | with_reducible apply v_ofl | with_reducible apply v_oftr | with_reducible apply v_oft | with_reducible apply o_mul | with_reducible apply o_sub | with_reducible apply o_mod | with_reducible apply o_div | with_reducible apply o_shr | with_reducible apply idx_nat | with_reducible apply q_idx2 | with_reducible apply q_idx3 | with_reducible apply q_idx4 | with_reducible apply q_idx5 | with_reducible apply q_idx6 | with_reducible apply q_idx7 | with_reducible apply q_repr | with_reducible apply idx_natL | with_reducible assumption | omega)) ?_
  obtain ⟨L, a6, c6, y6, h6, hL, hLx, hc6⟩ := row_ok hD hRw 9 a s 0 k (by omega) (by decide)
  refine u_asg (by (repeat' first | exact Rf.mk rfl | (apply Rd.mk; (try dsimp only [vals_n, vals_x, vals_v, bk_c, bk_d, pb_x, pb_v, pb_n, view_x, view_v, viewV_d, viewV_c, settle_d, settle_c, get_z, get_s, set_z, set_s, ka_n, ka_s, re_n, re_s, seqOf_t, seqOf_l, asgT, asgTs, Option.bind_some, ↓reduceIte, List.length_cons, List.length_nil]); (try exact rfl); done) | with_reducible exact h6 | with_reducible exact v_yesneg | with_reducible exact q_nes | with_reducible exact q_eqs | with_reducible exact v_nat | with_reducible exact v_neg | with_reducible exact v_bl | with_reducible exact v_non | with_reducible exact v_str | with_reducible exact ds_nil | with_reducible exact os_nil | with_reducible exact part_no | with_reducible exact q_net0 | with_reducible exact q_net1 | with_reducible exact o_add | with_reducible exact o_min | with_reducible exact o_max | with_reducible exact o_eq | with_reducible exact o_ne | with_reducible exact o_lt | with_reducible exact o_le | with_reducible exact o_gt | with_reducible exact o_ge | with_reducible exact q_lenN | with_reducible exact q_lenU | with_reducible exact q_lenS | with_reducible exact q_lenM | with_reducible exact q_lenMT | with_reducible exact q_lenL | with_reducible exact q_lenT | with_reducible exact q_tupN | with_reducible exact q_tupU | with_reducible exact q_lstN | with_reducible exact q_lstU | with_reducible exact q_tupL | with_reducible exact q_tupT | with_reducible exact q_lstL | with_reducible exact q_lstT | with_reducible exact q_int | with_reducible exact q_isT | ((with_reducible apply v_var); apply Rd.mk; (try dsimp only [vals_n, vals_x, vals_v, bk_c, bk_d, pb_x, pb_v, pb_n, view_x, view_v, viewV_d, viewV_c, settle_d, settle_c, get_z, get_s, set_z, set_s, ka_n, ka_s, re_n, re_s, seqOf_t, seqOf_l, asgT, asgTs, Option.bind_some, ↓reduceIte, List.length_cons, List.length_nil]); (try with_reducible exact rfl); done) | ((with_reducible apply v_mv); apply Rd.mk; (try dsimp only [vals_n, vals_x, vals_v, bk_c, bk_d, pb_x, pb_v, pb_n, view_x, view_v, viewV_d, viewV_c, settle_d, settle_c, get_z, get_s, set_z, set_s, ka_n, ka_s, re_n, re_s, seqOf_t, seqOf_l, asgT, asgTs, Option.bind_some, ↓reduceIte, List.length_cons, List.length_nil]); (try with_reducible exact rfl); done) | ((with_reducible apply v_opx); exact Rf.mk rfl) | with_reducible apply v_fr | with_reducible apply v_mvc | with_reducible apply v_o2 | with_reducible apply v_o1 | with_reducible apply v_call | with_reducible apply v_da | with_reducible apply v_opv | with_reducible apply v_lst | with_reducible apply v_tup | with_reducible apply ds_cons | with_reducible apply os_cons | with_reducible apply v_app | with_reducible apply v_not | with_reducible apply v_tor | with_reducible apply v_tand | with_reducible apply v_tnot | with_reducible apply v_te | with_reducible apply v_slice | with_reducible apply v_yesn | with_reducible apply v_chain | with_reducible apply v_seq | with_reducible apply v_r1 | with_reducible apply v_r1m | with_reducible apply v_enT | with_reducible apply v_enL | with_reducible apply v_ofl | with_reducible apply v_oftr | with_reducible apply v_oft | with_reducible apply o_mul | with_reducible apply o_sub | with_reducible apply o_mod | with_reducible apply o_div | with_reducible apply o_shr | with_reducible apply idx_nat | with_reducible apply q_idx2 | with_reducible apply q_idx3 | with_reducible apply q_idx4 | with_reducible apply q_idx5 | with_reducible apply q_idx6 | with_reducible apply q_idx7 | with_reducible apply q_repr | with_reducible apply idx_natL | with_reducible assumption | omega)) (by (repeat' first | exact Rf.mk rfl | (apply Rd.mk; (try dsimp only [vals_n, vals_x, vals_v, bk_c, bk_d, pb_x, pb_v, pb_n, view_x, view_v, viewV_d, viewV_c, settle_d, settle_c, get_z, get_s, set_z, set_s, ka_n, ka_s, re_n, re_s, seqOf_t, seqOf_l, asgT, asgTs, Option.bind_some, ↓reduceIte, List.length_cons, List.length_nil]); (try exact rfl); done) | with_reducible exact v_yesneg | with_reducible exact q_nes | with_reducible exact q_eqs | with_reducible exact v_nat | with_reducible exact v_neg | with_reducible exact v_bl | with_reducible exact v_non | with_reducible exact v_str | with_reducible exact ds_nil | with_reducible exact os_nil | with_reducible exact part_no | with_reducible exact q_net0 | with_reducible exact q_net1 | with_reducible exact o_add | with_reducible exact o_min | with_reducible exact o_max | with_reducible exact o_eq | with_reducible exact o_ne | with_reducible exact o_lt | with_reducible exact o_le | with_reducible exact o_gt | with_reducible exact o_ge | with_reducible exact q_lenN | with_reducible exact q_lenU | with_reducible exact q_lenS | with_reducible exact q_lenM | with_reducible exact q_lenMT | with_reducible exact q_lenL | with_reducible exact q_lenT | with_reducible exact q_tupN | with_reducible exact q_tupU | with_reducible exact q_lstN | with_reducible exact q_lstU | with_reducible exact q_tupL | with_reducible exact q_tupT | with_reducible exact q_lstL | with_reducible exact q_lstT | with_reducible exact q_int | with_reducible exact q_isT | ((with_reducible apply v_var); apply Rd.mk; (try dsimp only [vals_n, vals_x, vals_v, bk_c, bk_d, pb_x, pb_v, pb_n, view_x, view_v, viewV_d, viewV_c, settle_d, settle_c, get_z, get_s, set_z, set_s, ka_n, ka_s, re_n, re_s, seqOf_t, seqOf_l, asgT, asgTs, Option.bind_some, ↓reduceIte, List.length_cons, List.length_nil]); (try with_reducible exact rfl); done) | ((with_reducible apply v_mv); apply Rd.mk; (try dsimp only [vals_n, vals_x, vals_v, bk_c, bk_d, pb_x, pb_v, pb_n, view_x, view_v, viewV_d, viewV_c, settle_d, settle_c, get_z, get_s, set_z, set_s, ka_n, ka_s, re_n, re_s, seqOf_t, seqOf_l, asgT, asgTs, Option.bind_some, ↓reduceIte, List.length_cons, List.length_nil]); (try with_reducible exact rfl); done) | ((with_reducible apply v_opx); exact Rf.mk rfl) | with_reducible apply v_fr | with_reducible apply v_mvc | with_reducible apply v_o2 | with_reducible apply v_o1 | with_reducible apply v_call | with_reducible apply v_da | with_reducible apply v_opv | with_reducible apply v_lst | with_reducible apply v_tup | with_reducible apply ds_cons | with_reducible apply os_cons | with_reducible apply v_app | with_reducible apply v_not | with_reducible apply v_tor | with_reducible apply v_tand | with_reducible apply v_tnot | with_reducible apply v_te | with_reducible apply v_slice | with_reducible apply v_yesn | with_reducible apply v_chain | with_reducible apply v_seq | with_reducible apply v_r1 | with_reducible apply v_r1m | with_reducible apply v_enT | with_reducible apply v_enL | with_reducible apply v_ofl | with_reducible apply v_oftr | with_reducible apply v_oft | with_reducible apply o_mul | with_reducible apply o_sub | with_reducible apply o_mod | with_reducible apply o_div | with_reducible apply o_shr | with_reducible apply idx_nat | with_reducible apply q_idx2 | with_reducible apply q_idx3 | with_reducible apply q_idx4 | with_reducible apply q_idx5 | with_reducible apply q_idx6 | with_reducible apply q_idx7 | with_reducible apply q_repr | with_reducible apply idx_natL | with_reducible assumption | omega)) ?_
  obtain ⟨p, a7, c7, y7, h7, ip, _⟩ := order4_ok 9 hD hR a6 s c6 (m := k) (by omega) (by omega)
  have h7 : callF T 11 "_law_order" [.c (dk a6 s c6), .d (natD k)] = .ok (.d (.tuple (iD (toI p))), [.c (dk a7 s c7), y7]) := by rw [← natsD_iD]; exact h7
  refine wp_forL (fun L : List Int => .tuple (iD L)) (l := [L, L.reverse, toI p]) (by (repeat' first | exact Rf.mk rfl | (apply Rd.mk; (try dsimp only [vals_n, vals_x, vals_v, bk_c, bk_d, pb_x, pb_v, pb_n, view_x, view_v, viewV_d, viewV_c, settle_d, settle_c, get_z, get_s, set_z, set_s, ka_n, ka_s, re_n, re_s, seqOf_t, seqOf_l, asgT, asgTs, Option.bind_some, ↓reduceIte, List.length_cons, List.length_nil]); (try exact rfl); done) | with_reducible exact q_revI | with_reducible exact h7 | with_reducible exact v_yesneg | with_reducible exact q_nes | with_reducible exact q_eqs | with_reducible exact v_nat | with_reducible exact v_neg | with_reducible exact v_bl | with_reducible exact v_non | with_reducible exact v_str | with_reducible exact ds_nil | with_reducible exact os_nil | with_reducible exact part_no | with_reducible exact q_net0 | with_reducible exact q_net1 | with_reducible exact o_add | with_reducible exact o_min | with_reducible exact o_max | with_reducible exact o_eq | with_reducible exact o_ne | with_reducible exact o_lt | with_reducible exact o_le | with_reducible exact o_gt | with_reducible exact o_ge | with_reducible exact q_lenN | with_reducible exact q_lenU | with_reducible exact q_lenS | with_reducible exact q_lenM | with_reducible exact q_lenMT | with_reducible exact q_lenL | with_reducible exact q_lenT | with_reducible exact q_tupN | with_reducible exact q_tupU | with_reducible exact q_lstN | with_reducible exact q_lstU | with_reducible exact q_tupL | with_reducible exact q_tupT | with_reducible exact q_lstL | with_reducible exact q_lstT | with_reducible exact q_int | with_reducible exact q_isT | ((with_reducible apply v_var); apply Rd.mk; (try dsimp only [vals_n, vals_x, vals_v, bk_c, bk_d, pb_x, pb_v, pb_n, view_x, view_v, viewV_d, viewV_c, settle_d, settle_c, get_z, get_s, set_z, set_s, ka_n, ka_s, re_n, re_s, seqOf_t, seqOf_l, asgT, asgTs, Option.bind_some, ↓reduceIte, List.length_cons, List.length_nil]); (try with_reducible exact rfl); done) | ((with_reducible apply v_mv); apply Rd.mk; (try dsimp only [vals_n, vals_x, vals_v, bk_c, bk_d, pb_x, pb_v, pb_n, view_x, view_v, viewV_d, viewV_c, settle_d, settle_c, get_z, get_s, set_z, set_s, ka_n, ka_s, re_n, re_s, seqOf_t, seqOf_l, asgT, asgTs, Option.bind_some, ↓reduceIte, List.length_cons, List.length_nil]); (try with_reducible exact rfl); done) | ((with_reducible apply v_opx); exact Rf.mk rfl) | with_reducible apply v_fr | with_reducible apply v_mvc | with_reducible apply v_o2 | with_reducible apply v_o1 | with_reducible apply v_call | with_reducible apply v_da | with_reducible apply v_opv | with_reducible apply v_lst | with_reducible apply v_tup | with_reducible apply ds_cons | with_reducible apply os_cons | with_reducible apply v_app | with_reducible apply v_not | with_reducible apply v_tor | with_reducible apply v_tand | with_reducible apply v_tnot | with_reducible apply v_te | with_reducible apply v_slice | with_reducible apply v_yesn | with_reducible apply v_chain | with_reducible apply v_seq | with_reducible apply v_r1 | with_reducible apply v_r1m | with_reducible apply v_enT | with_reducible apply v_enL | with_reducible apply v_ofl | with_reducible apply v_oftr | with_reducible apply v_oft | with_reducible apply o_mul | with_reducible apply o_sub | with_reducible apply o_mod | with_reducible apply o_div | with_reducible apply o_shr | with_reducible apply idx_nat | with_reducible apply q_idx2 | with_reducible apply q_idx3 | with_reducible apply q_idx4 | with_reducible apply q_idx5 | with_reducible apply q_idx6 | with_reducible apply q_idx7 | with_reducible apply q_repr | with_reducible apply idx_natL | with_reducible assumption | omega)) (fun S e => e = [.d (.list (ns.map .int)), .d (natD m), .d (natD k), .d (netP k ss), .d (netP k ss), .d (natD j), .c (dk a7 s c7), .d (.tuple (iD L)), .u, .u]) ?_ (fun e he => ?_) fun S Z R e hl3 he => ?_
  · rfl
  · subst he
    exact wp_nil rfl
  subst he
  dsimp only [set_z, set_s]
  have hZ : Z.length = k ∧ ∀ x ∈ Z, x.natAbs < 10 ^ 40 := by
    have : Z ∈ [L, L.reverse, toI p] := by rw [hl3]; simp
    simp only [List.mem_cons, List.not_mem_nil, or_false] at this
    rcases this with rfl | rfl | rfl
    · exact ⟨hL, hLx⟩
    · exact ⟨by rw [List.length_reverse]; exact hL, fun x hx => hLx x (List.mem_reverse.mp hx)⟩
    · refine ⟨by rw [toI_len]; exact ip.len, fun x hx => ?_⟩
      obtain ⟨z, hz, rfl⟩ := List.mem_map.mp hx
      have := ip.lt hz
      have : (16 : Nat) < 10 ^ 40 := by decide
      show z < 10 ^ 40
      omega
  obtain ⟨x8, y8, h8⟩ := comp_ok hCm 10 gs hZ.1 (by omega) (by omega)
  refine u_asg (by (repeat' first | exact Rf.mk rfl | (apply Rd.mk; (try dsimp only [vals_n, vals_x, vals_v, bk_c, bk_d, pb_x, pb_v, pb_n, view_x, view_v, viewV_d, viewV_c, settle_d, settle_c, get_z, get_s, set_z, set_s, ka_n, ka_s, re_n, re_s, seqOf_t, seqOf_l, asgT, asgTs, Option.bind_some, ↓reduceIte, List.length_cons, List.length_nil]); (try exact rfl); done) | with_reducible exact h8 | with_reducible exact v_yesneg | with_reducible exact q_nes | with_reducible exact q_eqs | with_reducible exact v_nat | with_reducible exact v_neg | with_reducible exact v_bl | with_reducible exact v_non | with_reducible exact v_str | with_reducible exact ds_nil | with_reducible exact os_nil | with_reducible exact part_no | with_reducible exact q_net0 | with_reducible exact q_net1 | with_reducible exact o_add | with_reducible exact o_min | with_reducible exact o_max | with_reducible exact o_eq | with_reducible exact o_ne | with_reducible exact o_lt | with_reducible exact o_le | with_reducible exact o_gt | with_reducible exact o_ge | with_reducible exact q_lenN | with_reducible exact q_lenU | with_reducible exact q_lenS | with_reducible exact q_lenM | with_reducible exact q_lenMT | with_reducible exact q_lenL | with_reducible exact q_lenT | with_reducible exact q_tupN | with_reducible exact q_tupU | with_reducible exact q_lstN | with_reducible exact q_lstU | with_reducible exact q_tupL | with_reducible exact q_tupT | with_reducible exact q_lstL | with_reducible exact q_lstT | with_reducible exact q_int | with_reducible exact q_isT | ((with_reducible apply v_var); apply Rd.mk; (try dsimp only [vals_n, vals_x, vals_v, bk_c, bk_d, pb_x, pb_v, pb_n, view_x, view_v, viewV_d, viewV_c, settle_d, settle_c, get_z, get_s, set_z, set_s, ka_n, ka_s, re_n, re_s, seqOf_t, seqOf_l, asgT, asgTs, Option.bind_some, ↓reduceIte, List.length_cons, List.length_nil]); (try with_reducible exact rfl); done) | ((with_reducible apply v_mv); apply Rd.mk; (try dsimp only [vals_n, vals_x, vals_v, bk_c, bk_d, pb_x, pb_v, pb_n, view_x, view_v, viewV_d, viewV_c, settle_d, settle_c, get_z, get_s, set_z, set_s, ka_n, ka_s, re_n, re_s, seqOf_t, seqOf_l, asgT, asgTs, Option.bind_some, ↓reduceIte, List.length_cons, List.length_nil]); (try with_reducible exact rfl); done) | ((with_reducible apply v_opx); exact Rf.mk rfl) | with_reducible apply v_fr | with_reducible apply v_mvc | with_reducible apply v_o2 | with_reducible apply v_o1 | with_reducible apply v_call | with_reducible apply v_da | with_reducible apply v_opv | with_reducible apply v_lst | with_reducible apply v_tup | with_reducible apply ds_cons | with_reducible apply os_cons | with_reducible apply v_app | with_reducible apply v_not | with_reducible apply v_tor | with_reducible apply v_tand | with_reducible apply v_tnot | with_reducible apply v_te | with_reducible apply v_slice | with_reducible apply v_yesn | with_reducible apply v_chain | with_reducible apply v_seq | with_reducible apply v_r1 | with_reducible apply v_r1m | with_reducible apply v_enT | with_reducible apply v_enL | with_reducible apply v_ofl | with_reducible apply v_oftr | with_reducible apply v_oft | with_reducible apply o_mul | with_reducible apply o_sub | with_reducible apply o_mod | with_reducible apply o_div | with_reducible apply o_shr | with_reducible apply idx_nat | with_reducible apply q_idx2 | with_reducible apply q_idx3 | with_reducible apply q_idx4 | with_reducible apply q_idx5 | with_reducible apply q_idx6 | with_reducible apply q_idx7 | with_reducible apply q_repr | with_reducible apply idx_natL | with_reducible assumption | omega)) (by (repeat' first | exact Rf.mk rfl | (apply Rd.mk; (try dsimp only [vals_n, vals_x, vals_v, bk_c, bk_d, pb_x, pb_v, pb_n, view_x, view_v, viewV_d, viewV_c, settle_d, settle_c, get_z, get_s, set_z, set_s, ka_n, ka_s, re_n, re_s, seqOf_t, seqOf_l, asgT, asgTs, Option.bind_some, ↓reduceIte, List.length_cons, List.length_nil]); (try exact rfl); done) | with_reducible exact v_yesneg | with_reducible exact q_nes | with_reducible exact q_eqs | with_reducible exact v_nat | with_reducible exact v_neg | with_reducible exact v_bl | with_reducible exact v_non | with_reducible exact v_str | with_reducible exact ds_nil | with_reducible exact os_nil | with_reducible exact part_no | with_reducible exact q_net0 | with_reducible exact q_net1 | with_reducible exact o_add | with_reducible exact o_min | with_reducible exact o_max | with_reducible exact o_eq | with_reducible exact o_ne | with_reducible exact o_lt | with_reducible exact o_le | with_reducible exact o_gt | with_reducible exact o_ge | with_reducible exact q_lenN | with_reducible exact q_lenU | with_reducible exact q_lenS | with_reducible exact q_lenM | with_reducible exact q_lenMT | with_reducible exact q_lenL | with_reducible exact q_lenT | with_reducible exact q_tupN | with_reducible exact q_tupU | with_reducible exact q_lstN | with_reducible exact q_lstU | with_reducible exact q_tupL | with_reducible exact q_tupT | with_reducible exact q_lstL | with_reducible exact q_lstT | with_reducible exact q_int | with_reducible exact q_isT | ((with_reducible apply v_var); apply Rd.mk; (try dsimp only [vals_n, vals_x, vals_v, bk_c, bk_d, pb_x, pb_v, pb_n, view_x, view_v, viewV_d, viewV_c, settle_d, settle_c, get_z, get_s, set_z, set_s, ka_n, ka_s, re_n, re_s, seqOf_t, seqOf_l, asgT, asgTs, Option.bind_some, ↓reduceIte, List.length_cons, List.length_nil]); (try with_reducible exact rfl); done) | ((with_reducible apply v_mv); apply Rd.mk; (try dsimp only [vals_n, vals_x, vals_v, bk_c, bk_d, pb_x, pb_v, pb_n, view_x, view_v, viewV_d, viewV_c, settle_d, settle_c, get_z, get_s, set_z, set_s, ka_n, ka_s, re_n, re_s, seqOf_t, seqOf_l, asgT, asgTs, Option.bind_some, ↓reduceIte, List.length_cons, List.length_nil]); (try with_reducible exact rfl); done) | ((with_reducible apply v_opx); exact Rf.mk rfl) | with_reducible apply v_fr | with_reducible apply v_mvc | with_reducible apply v_o2 | with_reducible apply v_o1 | with_reducible apply v_call | with_reducible apply v_da | with_reducible apply v_opv | with_reducible apply v_lst | with_reducible apply v_tup | with_reducible apply ds_cons | with_reducible apply os_cons | with_reducible apply v_app | with_reducible apply v_not | with_reducible apply v_tor | with_reducible apply v_tand | with_reducible apply v_tnot | with_reducible apply v_te | with_reducible apply v_slice | with_reducible apply v_yesn | with_reducible apply v_chain | with_reducible apply v_seq | with_reducible apply v_r1 | with_reducible apply v_r1m | with_reducible apply v_enT | with_reducible apply v_enL | with_reducible apply v_ofl | with_reducible apply v_oftr | with_reducible apply v_oft | with_reducible apply o_mul | with_reducible apply o_sub | with_reducible apply o_mod | with_reducible apply o_div | with_reducible apply o_shr | with_reducible apply idx_nat | with_reducible apply q_idx2 | with_reducible apply q_idx3 | with_reducible apply q_idx4 | with_reducible apply q_idx5 | with_reducible apply q_idx6 | with_reducible apply q_idx7 | with_reducible apply q_repr | with_reducible apply idx_natL | with_reducible assumption | omega)) ?_
  obtain ⟨x9, y9, h9⟩ := lcomp_ok hLc 10 gs hZ.1 (by omega) (by omega)
  have okt := sg_told gs hZ.1 (by omega) (by omega) hZ.2
  have i1 : op2 .idx (told ss Z) (natD 0) = some (.d (.tuple (iD (nLs ss Z)))) := idx_tup (i := 0) rfl
  have st := q_sortT (L := Z)
  rw [← up_sort (srt Z hZ.1) (nLs_perm ss Z hZ.1 gs)] at st
  exact wp_no (t_or (x := false) (y := false) (by (repeat' first | exact Rf.mk rfl | (apply Rd.mk; (try dsimp only [vals_n, vals_x, vals_v, bk_c, bk_d, pb_x, pb_v, pb_n, view_x, view_v, viewV_d, viewV_c, settle_d, settle_c, get_z, get_s, set_z, set_s, ka_n, ka_s, re_n, re_s, seqOf_t, seqOf_l, asgT, asgTs, Option.bind_some, ↓reduceIte, List.length_cons, List.length_nil]); (try exact rfl); done) | with_reducible exact h9 | with_reducible exact q_repr okt | with_reducible exact v_yesneg | with_reducible exact q_nes | with_reducible exact q_eqs | with_reducible exact v_nat | with_reducible exact v_neg | with_reducible exact v_bl | with_reducible exact v_non | with_reducible exact v_str | with_reducible exact ds_nil | with_reducible exact os_nil | with_reducible exact part_no | with_reducible exact q_net0 | with_reducible exact q_net1 | with_reducible exact o_add | with_reducible exact o_min | with_reducible exact o_max | with_reducible exact o_eq | with_reducible exact o_ne | with_reducible exact o_lt | with_reducible exact o_le | with_reducible exact o_gt | with_reducible exact o_ge | with_reducible exact q_lenN | with_reducible exact q_lenU | with_reducible exact q_lenS | with_reducible exact q_lenM | with_reducible exact q_lenMT | with_reducible exact q_lenL | with_reducible exact q_lenT | with_reducible exact q_tupN | with_reducible exact q_tupU | with_reducible exact q_lstN | with_reducible exact q_lstU | with_reducible exact q_tupL | with_reducible exact q_tupT | with_reducible exact q_lstL | with_reducible exact q_lstT | with_reducible exact q_int | with_reducible exact q_isT | ((with_reducible apply v_var); apply Rd.mk; (try dsimp only [vals_n, vals_x, vals_v, bk_c, bk_d, pb_x, pb_v, pb_n, view_x, view_v, viewV_d, viewV_c, settle_d, settle_c, get_z, get_s, set_z, set_s, ka_n, ka_s, re_n, re_s, seqOf_t, seqOf_l, asgT, asgTs, Option.bind_some, ↓reduceIte, List.length_cons, List.length_nil]); (try with_reducible exact rfl); done) | ((with_reducible apply v_mv); apply Rd.mk; (try dsimp only [vals_n, vals_x, vals_v, bk_c, bk_d, pb_x, pb_v, pb_n, view_x, view_v, viewV_d, viewV_c, settle_d, settle_c, get_z, get_s, set_z, set_s, ka_n, ka_s, re_n, re_s, seqOf_t, seqOf_l, asgT, asgTs, Option.bind_some, ↓reduceIte, List.length_cons, List.length_nil]); (try with_reducible exact rfl); done) | ((with_reducible apply v_opx); exact Rf.mk rfl) | with_reducible apply v_fr | with_reducible apply v_mvc | with_reducible apply v_o2 | with_reducible apply v_o1 | with_reducible apply v_call | with_reducible apply v_da | with_reducible apply v_opv | with_reducible apply v_lst | with_reducible apply v_tup | with_reducible apply ds_cons | with_reducible apply os_cons | with_reducible apply v_app | with_reducible apply v_not | with_reducible apply v_tor | with_reducible apply v_tand | with_reducible apply v_tnot | with_reducible apply v_te | with_reducible apply v_slice | with_reducible apply v_yesn | with_reducible apply v_chain | with_reducible apply v_seq | with_reducible apply v_r1 | with_reducible apply v_r1m | with_reducible apply v_enT | with_reducible apply v_enL | with_reducible apply v_ofl | with_reducible apply v_oftr | with_reducible apply v_oft | with_reducible apply o_mul | with_reducible apply o_sub | with_reducible apply o_mod | with_reducible apply o_div | with_reducible apply o_shr | with_reducible apply idx_nat | with_reducible apply q_idx2 | with_reducible apply q_idx3 | with_reducible apply q_idx4 | with_reducible apply q_idx5 | with_reducible apply q_idx6 | with_reducible apply q_idx7 | with_reducible apply q_repr | with_reducible apply idx_natL | with_reducible assumption | omega)) (fun _ => by (repeat' first | exact Rf.mk rfl | (apply Rd.mk; (try dsimp only [vals_n, vals_x, vals_v, bk_c, bk_d, pb_x, pb_v, pb_n, view_x, view_v, viewV_d, viewV_c, settle_d, settle_c, get_z, get_s, set_z, set_s, ka_n, ka_s, re_n, re_s, seqOf_t, seqOf_l, asgT, asgTs, Option.bind_some, ↓reduceIte, List.length_cons, List.length_nil]); (try exact rfl); done) | with_reducible exact i1 | with_reducible exact st | with_reducible exact q_neI | with_reducible exact v_yesneg | with_reducible exact q_nes | with_reducible exact q_eqs | with_reducible exact v_nat | with_reducible exact v_neg | with_reducible exact v_bl | with_reducible exact v_non | with_reducible exact v_str | with_reducible exact ds_nil | with_reducible exact os_nil | with_reducible exact part_no | with_reducible exact q_net0 | with_reducible exact q_net1 | with_reducible exact o_add | with_reducible exact o_min | with_reducible exact o_max | with_reducible exact o_eq | with_reducible exact o_ne | with_reducible exact o_lt | with_reducible exact o_le | with_reducible exact o_gt | with_reducible exact o_ge | with_reducible exact q_lenN | with_reducible exact q_lenU | with_reducible exact q_lenS | with_reducible exact q_lenM | with_reducible exact q_lenMT | with_reducible exact q_lenL | with_reducible exact q_lenT | with_reducible exact q_tupN | with_reducible exact q_tupU | with_reducible exact q_lstN | with_reducible exact q_lstU | with_reducible exact q_tupL | with_reducible exact q_tupT | with_reducible exact q_lstL | with_reducible exact q_lstT | with_reducible exact q_int | with_reducible exact q_isT | ((with_reducible apply v_var); apply Rd.mk; (try dsimp only [vals_n, vals_x, vals_v, bk_c, bk_d, pb_x, pb_v, pb_n, view_x, view_v, viewV_d, viewV_c, settle_d, settle_c, get_z, get_s, set_z, set_s, ka_n, ka_s, re_n, re_s, seqOf_t, seqOf_l, asgT, asgTs, Option.bind_some, ↓reduceIte, List.length_cons, List.length_nil]); (try with_reducible exact rfl); done) | ((with_reducible apply v_mv); apply Rd.mk; (try dsimp only [vals_n, vals_x, vals_v, bk_c, bk_d, pb_x, pb_v, pb_n, view_x, view_v, viewV_d, viewV_c, settle_d, settle_c, get_z, get_s, set_z, set_s, ka_n, ka_s, re_n, re_s, seqOf_t, seqOf_l, asgT, asgTs, Option.bind_some, ↓reduceIte, List.length_cons, List.length_nil]); (try with_reducible exact rfl); done) | ((with_reducible apply v_opx); exact Rf.mk rfl) | with_reducible apply v_fr | with_reducible apply v_mvc | with_reducible apply v_o2 | with_reducible apply v_o1 | with_reducible apply v_call | with_reducible apply v_da | with_reducible apply v_opv | with_reducible apply v_lst | with_reducible apply v_tup | with_reducible apply ds_cons | with_reducible apply os_cons | with_reducible apply v_app | with_reducible apply v_not | with_reducible apply v_tor | with_reducible apply v_tand | with_reducible apply v_tnot | with_reducible apply v_te | with_reducible apply v_slice | with_reducible apply v_yesn | with_reducible apply v_chain | with_reducible apply v_seq | with_reducible apply v_r1 | with_reducible apply v_r1m | with_reducible apply v_enT | with_reducible apply v_enL | with_reducible apply v_ofl | with_reducible apply v_oftr | with_reducible apply v_oft | with_reducible apply o_mul | with_reducible apply o_sub | with_reducible apply o_mod | with_reducible apply o_div | with_reducible apply o_shr | with_reducible apply idx_nat | with_reducible apply q_idx2 | with_reducible apply q_idx3 | with_reducible apply q_idx4 | with_reducible apply q_idx5 | with_reducible apply q_idx6 | with_reducible apply q_idx7 | with_reducible apply q_repr | with_reducible apply idx_natL | with_reducible assumption | omega)) (fun h => by cases h)) (wp_nil rfl)
end K51
end T_P51
section T_LINK
set_option autoImplicit false
set_option linter.all false
set_option maxRecDepth 100000
set_option maxHeartbeats 2000000
namespace K51
open PySem L2 Sw
def top (i : Nat) : Stmt := PySem.Challenge.pw_switchrows_k51_sorters.main.body.getD i (.Pass ⟨0, 0, 0, 0⟩)
abbrev s_behind : Stmt := top 1
def n_behind : List Str := ["one", "other"]
def p_behind : List Str := ["one", "other"]
abbrev s_on_wires : Stmt := top 2
def n_on_wires : List Str := ["stage", "wires", "a", "b"]
def p_on_wires : List Str := ["stage", "wires"]
abbrev s_beside : Stmt := top 3
def n_beside : List Str := ["one", "other", "many", "wires", "stages", "k", "stage"]
def p_beside : List Str := ["one", "other"]
abbrev s_laid : Stmt := top 4
def n_laid : List Str := ["net", "wires", "many", "stage"]
def p_laid : List Str := ["net", "wires", "many"]
abbrev s_together : Stmt := top 7
def n_together : List Str := ["one", "other", "here", "there"]
def p_together : List Str := ["one", "other"]
abbrev s_merger : Stmt := top 8
def n_merger : List Str := ["m", "lesser", "many", "even", "odd", "last", "wire"]
def p_merger : List Str := ["m"]
abbrev s_sorter : Stmt := top 9
def n_sorter : List Str := ["m", "lesser"]
def p_sorter : List Str := ["m"]
abbrev s_compared : Stmt := top 11
def n_compared : List Str := ["net", "row", "things", "setting", "stage", "ways", "one", "other"]
def p_compared : List Str := ["net", "row"]
abbrev s_is_whole : Stmt := top 13
def n_is_whole : List Str := ["thing"]
def p_is_whole : List Str := ["thing"]
abbrev s_is_between : Stmt := top 14
def n_is_between : List Str := ["thing", "low", "high"]
def p_is_between : List Str := ["thing", "low", "high"]
abbrev s_is_switch : Stmt := top 15
def n_is_switch : List Str := ["many", "thing", "wire"]
def p_is_switch : List Str := ["many", "thing"]
abbrev s_is_stage : Stmt := top 16
def n_is_stage : List Str := ["many", "thing", "switch", "wires", "one", "other"]
def p_is_stage : List Str := ["many", "thing"]
abbrev s_is_net : Stmt := top 17
def n_is_net : List Str := ["thing", "many", "stage"]
def p_is_net : List Str := ["thing"]
abbrev s_law_deck : Stmt := top 19
def n_law_deck : List Str := ["_law_script", "_law_k", "_law_cell", "_law_digits"]
def p_law_deck : List Str := ["_law_script", "_law_k"]
abbrev s_law_draw : Stmt := top 20
def n_law_draw : List Str := ["_law_deck_here", "_law_many", "_law_got", "_law_turn", "_law_mixed"]
def p_law_draw : List Str := ["_law_deck_here", "_law_many"]
abbrev s_law_compared : Stmt := top 21
def n_law_compared : List Str := ["_law_net", "_law_row_here", "_law_things", "_law_setting", "_law_stage", "_law_ways", "_law_a", "_law_b"]
def p_law_compared : List Str := ["_law_net", "_law_row_here"]
abbrev s_law_row : Stmt := top 22
def n_law_row : List Str := ["_law_deck_here", "_law_many", "_law_way", "_law_found", "_law_wire", "_law_number", "_law_k"]
def p_law_row : List Str := ["_law_deck_here", "_law_many"]
abbrev s_law_merger : Stmt := top 23
def n_law_merger : List Str := ["_law_many", "_law_stages", "_law_row_here", "_law_a", "_law_b"]
def p_law_merger : List Str := ["_law_many"]
abbrev s_law_sorter : Stmt := top 24
def n_law_sorter : List Str := ["_law_many", "_law_half", "_law_stages", "_law_row_here", "_law_a", "_law_b"]
def p_law_sorter : List Str := ["_law_many"]
abbrev s_law_as_net : Stmt := top 25
def n_law_as_net : List Str := ["_law_many", "_law_stages", "_law_row_here"]
def p_law_as_net : List Str := ["_law_many", "_law_stages"]
abbrev s_law_order : Stmt := top 26
def n_law_order : List Str := ["_law_deck_here", "_law_many", "_law_left", "_law_wire"]
def p_law_order : List Str := ["_law_deck_here", "_law_many"]
abbrev s_law : Stmt := top 27
def n_law : List Str := ["_law_script", "_law_m", "_law_many", "_law_net", "_law_due", "_law_k", "_law_deck_here", "_law_row_here", "_law_other", "_law_told"]
def p_law : List Str := ["_law_script"]
theorem c_behind : cSs n_behind (defScope s_behind) (prF b_behind) b_behind.body (defBody s_behind) = true := by decide +kernel
theorem c_on_wires : cSs n_on_wires (defScope s_on_wires) (prF b_on_wires) b_on_wires.body (defBody s_on_wires) = true := by decide +kernel
theorem c_beside : cSs n_beside (defScope s_beside) (prF b_beside) b_beside.body (defBody s_beside) = true := by decide +kernel
theorem c_laid : cSs n_laid (defScope s_laid) (prF b_laid) b_laid.body (defBody s_laid) = true := by decide +kernel
theorem c_together : cSs n_together (defScope s_together) (prF b_together) b_together.body (defBody s_together) = true := by decide +kernel
theorem c_merger : cSs n_merger (defScope s_merger) (prF b_merger) b_merger.body (defBody s_merger) = true := by decide +kernel
theorem c_sorter : cSs n_sorter (defScope s_sorter) (prF b_sorter) b_sorter.body (defBody s_sorter) = true := by decide +kernel
theorem c_compared : cSs n_compared (defScope s_compared) (prF b_compared) b_compared.body (defBody s_compared) = true := by decide +kernel
theorem c_is_whole : cSs n_is_whole (defScope s_is_whole) (prF b_is_whole) b_is_whole.body (defBody s_is_whole) = true := by decide +kernel
theorem c_is_between : cSs n_is_between (defScope s_is_between) (prF b_is_between) b_is_between.body (defBody s_is_between) = true := by decide +kernel
theorem c_is_switch : cSs n_is_switch (defScope s_is_switch) (prF b_is_switch) b_is_switch.body (defBody s_is_switch) = true := by decide +kernel
theorem c_is_stage : cSs n_is_stage (defScope s_is_stage) (prF b_is_stage) b_is_stage.body (defBody s_is_stage) = true := by decide +kernel
theorem c_is_net : cSs n_is_net (defScope s_is_net) (prF b_is_net) b_is_net.body (defBody s_is_net) = true := by decide +kernel
theorem c_law_deck : cSs n_law_deck (defScope s_law_deck) (prF b_law_deck) b_law_deck.body (defBody s_law_deck) = true := by decide +kernel
theorem c_law_draw : cSs n_law_draw (defScope s_law_draw) (prF b_law_draw) b_law_draw.body (defBody s_law_draw) = true := by decide +kernel
theorem c_law_compared : cSs n_law_compared (defScope s_law_compared) (prF b_law_compared) b_law_compared.body (defBody s_law_compared) = true := by decide +kernel
theorem c_law_row : cSs n_law_row (defScope s_law_row) (prF b_law_row) b_law_row.body (defBody s_law_row) = true := by decide +kernel
theorem c_law_merger : cSs n_law_merger (defScope s_law_merger) (prF b_law_merger) b_law_merger.body (defBody s_law_merger) = true := by decide +kernel
theorem c_law_sorter : cSs n_law_sorter (defScope s_law_sorter) (prF b_law_sorter) b_law_sorter.body (defBody s_law_sorter) = true := by decide +kernel
theorem c_law_as_net : cSs n_law_as_net (defScope s_law_as_net) (prF b_law_as_net) b_law_as_net.body (defBody s_law_as_net) = true := by decide +kernel
theorem c_law_order : cSs n_law_order (defScope s_law_order) (prF b_law_order) b_law_order.body (defBody s_law_order) = true := by decide +kernel
theorem c_law : cSs n_law (defScope s_law) (prF b_law) b_law.body (defBody s_law) = true := by decide +kernel
theorem tab_mk {K : PySem.W.Frag} {h : Heap} {mg : Str → Option Value} (X : K.In h) (G : h.Ns mainGlobals mg)
    {f1 : Addr} {od1 an1 : Option Addr} {sl1 : Array (Option Value)} {oc1 kV1 dc1 pm1 cd1 ct1 : Value}
    {f2 : Addr} {od2 an2 : Option Addr} {sl2 : Array (Option Value)} {oc2 kV2 dc2 pm2 cd2 ct2 : Value}
    {f3 : Addr} {od3 an3 : Option Addr} {sl3 : Array (Option Value)} {oc3 kV3 dc3 pm3 cd3 ct3 : Value}
    {f4 : Addr} {od4 an4 : Option Addr} {sl4 : Array (Option Value)} {oc4 kV4 dc4 pm4 cd4 ct4 : Value}
    {f5 : Addr} {od5 an5 : Option Addr} {sl5 : Array (Option Value)} {oc5 kV5 dc5 pm5 cd5 ct5 : Value}
    {f6 : Addr} {od6 an6 : Option Addr} {sl6 : Array (Option Value)} {oc6 kV6 dc6 pm6 cd6 ct6 : Value}
    {f7 : Addr} {od7 an7 : Option Addr} {sl7 : Array (Option Value)} {oc7 kV7 dc7 pm7 cd7 ct7 : Value}
    {f8 : Addr} {od8 an8 : Option Addr} {sl8 : Array (Option Value)} {oc8 kV8 dc8 pm8 cd8 ct8 : Value}
    {f9 : Addr} {od9 an9 : Option Addr} {sl9 : Array (Option Value)} {oc9 kV9 dc9 pm9 cd9 ct9 : Value}
    {f10 : Addr} {od10 an10 : Option Addr} {sl10 : Array (Option Value)} {oc10 kV10 dc10 pm10 cd10 ct10 : Value}
    {f11 : Addr} {od11 an11 : Option Addr} {sl11 : Array (Option Value)} {oc11 kV11 dc11 pm11 cd11 ct11 : Value}
    {f12 : Addr} {od12 an12 : Option Addr} {sl12 : Array (Option Value)} {oc12 kV12 dc12 pm12 cd12 ct12 : Value}
    {f13 : Addr} {od13 an13 : Option Addr} {sl13 : Array (Option Value)} {oc13 kV13 dc13 pm13 cd13 ct13 : Value}
    {f14 : Addr} {od14 an14 : Option Addr} {sl14 : Array (Option Value)} {oc14 kV14 dc14 pm14 cd14 ct14 : Value}
    {f15 : Addr} {od15 an15 : Option Addr} {sl15 : Array (Option Value)} {oc15 kV15 dc15 pm15 cd15 ct15 : Value}
    {f16 : Addr} {od16 an16 : Option Addr} {sl16 : Array (Option Value)} {oc16 kV16 dc16 pm16 cd16 ct16 : Value}
    {f17 : Addr} {od17 an17 : Option Addr} {sl17 : Array (Option Value)} {oc17 kV17 dc17 pm17 cd17 ct17 : Value}
    {f18 : Addr} {od18 an18 : Option Addr} {sl18 : Array (Option Value)} {oc18 kV18 dc18 pm18 cd18 ct18 : Value}
    {f19 : Addr} {od19 an19 : Option Addr} {sl19 : Array (Option Value)} {oc19 kV19 dc19 pm19 cd19 ct19 : Value}
    {f20 : Addr} {od20 an20 : Option Addr} {sl20 : Array (Option Value)} {oc20 kV20 dc20 pm20 cd20 ct20 : Value}
    {f21 : Addr} {od21 an21 : Option Addr} {sl21 : Array (Option Value)} {oc21 kV21 dc21 pm21 cd21 ct21 : Value}
    {f22 : Addr} {od22 an22 : Option Addr} {sl22 : Array (Option Value)} {oc22 kV22 dc22 pm22 cd22 ct22 : Value}
    {kONE_SWITCH1 : Tok}
    {kONE_SWITCH5 : Tok}
    {kONE_SWITCH6 : Tok}
    {tONE_SWITCH4 : Addr} {nONE_SWITCH4 : Nat} {slONE_SWITCH4 : Array (Option Value)}
    {tONE_SWITCH3 : Addr} {nONE_SWITCH3 : Nat} {slONE_SWITCH3 : Array (Option Value)}
    {tONE_SWITCH2 : Addr} {nONE_SWITCH2 : Nat} {slONE_SWITCH2 : Array (Option Value)}
    {tONE_SWITCH0 : Addr} {nONE_SWITCH0 : Nat} {slONE_SWITCH0 : Array (Option Value)}
    (a1 : PySem.W.nsIn K mainGlobals "behind" = some (some (.ref f1))) (l1 : K.lookup f1 = some ⟨oc1, od1, .func (PySem.W.fnOf "behind" "behind" (defArgs s_behind) (defBody s_behind) (defScope s_behind) .none kV1 dc1 pm1 an1 cd1 ct1), sl1⟩) (c1 : PySem.W.codeIn K cd1 "behind" = true) (k1 : PySem.W.keepIn K (.ref f1) = true)
    (a2 : PySem.W.nsIn K mainGlobals "on_wires" = some (some (.ref f2))) (l2 : K.lookup f2 = some ⟨oc2, od2, .func (PySem.W.fnOf "on_wires" "on_wires" (defArgs s_on_wires) (defBody s_on_wires) (defScope s_on_wires) .none kV2 dc2 pm2 an2 cd2 ct2), sl2⟩) (c2 : PySem.W.codeIn K cd2 "on_wires" = true) (k2 : PySem.W.keepIn K (.ref f2) = true)
    (a3 : PySem.W.nsIn K mainGlobals "beside" = some (some (.ref f3))) (l3 : K.lookup f3 = some ⟨oc3, od3, .func (PySem.W.fnOf "beside" "beside" (defArgs s_beside) (defBody s_beside) (defScope s_beside) .none kV3 dc3 pm3 an3 cd3 ct3), sl3⟩) (c3 : PySem.W.codeIn K cd3 "beside" = true) (k3 : PySem.W.keepIn K (.ref f3) = true)
    (a4 : PySem.W.nsIn K mainGlobals "laid" = some (some (.ref f4))) (l4 : K.lookup f4 = some ⟨oc4, od4, .func (PySem.W.fnOf "laid" "laid" (defArgs s_laid) (defBody s_laid) (defScope s_laid) .none kV4 dc4 pm4 an4 cd4 ct4), sl4⟩) (c4 : PySem.W.codeIn K cd4 "laid" = true) (k4 : PySem.W.keepIn K (.ref f4) = true)
    (a5 : PySem.W.nsIn K mainGlobals "together" = some (some (.ref f5))) (l5 : K.lookup f5 = some ⟨oc5, od5, .func (PySem.W.fnOf "together" "together" (defArgs s_together) (defBody s_together) (defScope s_together) .none kV5 dc5 pm5 an5 cd5 ct5), sl5⟩) (c5 : PySem.W.codeIn K cd5 "together" = true) (k5 : PySem.W.keepIn K (.ref f5) = true)
    (a6 : PySem.W.nsIn K mainGlobals "merger" = some (some (.ref f6))) (l6 : K.lookup f6 = some ⟨oc6, od6, .func (PySem.W.fnOf "merger" "merger" (defArgs s_merger) (defBody s_merger) (defScope s_merger) .none kV6 dc6 pm6 an6 cd6 ct6), sl6⟩) (c6 : PySem.W.codeIn K cd6 "merger" = true) (k6 : PySem.W.keepIn K (.ref f6) = true)
    (a7 : PySem.W.nsIn K mainGlobals "sorter" = some (some (.ref f7))) (l7 : K.lookup f7 = some ⟨oc7, od7, .func (PySem.W.fnOf "sorter" "sorter" (defArgs s_sorter) (defBody s_sorter) (defScope s_sorter) .none kV7 dc7 pm7 an7 cd7 ct7), sl7⟩) (c7 : PySem.W.codeIn K cd7 "sorter" = true) (k7 : PySem.W.keepIn K (.ref f7) = true)
    (a8 : PySem.W.nsIn K mainGlobals "compared" = some (some (.ref f8))) (l8 : K.lookup f8 = some ⟨oc8, od8, .func (PySem.W.fnOf "compared" "compared" (defArgs s_compared) (defBody s_compared) (defScope s_compared) .none kV8 dc8 pm8 an8 cd8 ct8), sl8⟩) (c8 : PySem.W.codeIn K cd8 "compared" = true) (k8 : PySem.W.keepIn K (.ref f8) = true)
    (a9 : PySem.W.nsIn K mainGlobals "is_whole" = some (some (.ref f9))) (l9 : K.lookup f9 = some ⟨oc9, od9, .func (PySem.W.fnOf "is_whole" "is_whole" (defArgs s_is_whole) (defBody s_is_whole) (defScope s_is_whole) .none kV9 dc9 pm9 an9 cd9 ct9), sl9⟩) (c9 : PySem.W.codeIn K cd9 "is_whole" = true) (k9 : PySem.W.keepIn K (.ref f9) = true)
    (a10 : PySem.W.nsIn K mainGlobals "is_between" = some (some (.ref f10))) (l10 : K.lookup f10 = some ⟨oc10, od10, .func (PySem.W.fnOf "is_between" "is_between" (defArgs s_is_between) (defBody s_is_between) (defScope s_is_between) .none kV10 dc10 pm10 an10 cd10 ct10), sl10⟩) (c10 : PySem.W.codeIn K cd10 "is_between" = true) (k10 : PySem.W.keepIn K (.ref f10) = true)
    (a11 : PySem.W.nsIn K mainGlobals "is_switch" = some (some (.ref f11))) (l11 : K.lookup f11 = some ⟨oc11, od11, .func (PySem.W.fnOf "is_switch" "is_switch" (defArgs s_is_switch) (defBody s_is_switch) (defScope s_is_switch) .none kV11 dc11 pm11 an11 cd11 ct11), sl11⟩) (c11 : PySem.W.codeIn K cd11 "is_switch" = true) (k11 : PySem.W.keepIn K (.ref f11) = true)
    (a12 : PySem.W.nsIn K mainGlobals "is_stage" = some (some (.ref f12))) (l12 : K.lookup f12 = some ⟨oc12, od12, .func (PySem.W.fnOf "is_stage" "is_stage" (defArgs s_is_stage) (defBody s_is_stage) (defScope s_is_stage) .none kV12 dc12 pm12 an12 cd12 ct12), sl12⟩) (c12 : PySem.W.codeIn K cd12 "is_stage" = true) (k12 : PySem.W.keepIn K (.ref f12) = true)
    (a13 : PySem.W.nsIn K mainGlobals "is_net" = some (some (.ref f13))) (l13 : K.lookup f13 = some ⟨oc13, od13, .func (PySem.W.fnOf "is_net" "is_net" (defArgs s_is_net) (defBody s_is_net) (defScope s_is_net) .none kV13 dc13 pm13 an13 cd13 ct13), sl13⟩) (c13 : PySem.W.codeIn K cd13 "is_net" = true) (k13 : PySem.W.keepIn K (.ref f13) = true)
    (a14 : PySem.W.nsIn K mainGlobals "_law_deck" = some (some (.ref f14))) (l14 : K.lookup f14 = some ⟨oc14, od14, .func (PySem.W.fnOf "_law_deck" "_law_deck" (defArgs s_law_deck) (defBody s_law_deck) (defScope s_law_deck) .none kV14 dc14 pm14 an14 cd14 ct14), sl14⟩) (c14 : PySem.W.codeIn K cd14 "_law_deck" = true) (k14 : PySem.W.keepIn K (.ref f14) = true)
    (a15 : PySem.W.nsIn K mainGlobals "_law_draw" = some (some (.ref f15))) (l15 : K.lookup f15 = some ⟨oc15, od15, .func (PySem.W.fnOf "_law_draw" "_law_draw" (defArgs s_law_draw) (defBody s_law_draw) (defScope s_law_draw) .none kV15 dc15 pm15 an15 cd15 ct15), sl15⟩) (c15 : PySem.W.codeIn K cd15 "_law_draw" = true) (k15 : PySem.W.keepIn K (.ref f15) = true)
    (a16 : PySem.W.nsIn K mainGlobals "_law_compared" = some (some (.ref f16))) (l16 : K.lookup f16 = some ⟨oc16, od16, .func (PySem.W.fnOf "_law_compared" "_law_compared" (defArgs s_law_compared) (defBody s_law_compared) (defScope s_law_compared) .none kV16 dc16 pm16 an16 cd16 ct16), sl16⟩) (c16 : PySem.W.codeIn K cd16 "_law_compared" = true) (k16 : PySem.W.keepIn K (.ref f16) = true)
    (a17 : PySem.W.nsIn K mainGlobals "_law_row" = some (some (.ref f17))) (l17 : K.lookup f17 = some ⟨oc17, od17, .func (PySem.W.fnOf "_law_row" "_law_row" (defArgs s_law_row) (defBody s_law_row) (defScope s_law_row) .none kV17 dc17 pm17 an17 cd17 ct17), sl17⟩) (c17 : PySem.W.codeIn K cd17 "_law_row" = true) (k17 : PySem.W.keepIn K (.ref f17) = true)
    (a18 : PySem.W.nsIn K mainGlobals "_law_merger" = some (some (.ref f18))) (l18 : K.lookup f18 = some ⟨oc18, od18, .func (PySem.W.fnOf "_law_merger" "_law_merger" (defArgs s_law_merger) (defBody s_law_merger) (defScope s_law_merger) .none kV18 dc18 pm18 an18 cd18 ct18), sl18⟩) (c18 : PySem.W.codeIn K cd18 "_law_merger" = true) (k18 : PySem.W.keepIn K (.ref f18) = true)
    (a19 : PySem.W.nsIn K mainGlobals "_law_sorter" = some (some (.ref f19))) (l19 : K.lookup f19 = some ⟨oc19, od19, .func (PySem.W.fnOf "_law_sorter" "_law_sorter" (defArgs s_law_sorter) (defBody s_law_sorter) (defScope s_law_sorter) .none kV19 dc19 pm19 an19 cd19 ct19), sl19⟩) (c19 : PySem.W.codeIn K cd19 "_law_sorter" = true) (k19 : PySem.W.keepIn K (.ref f19) = true)
    (a20 : PySem.W.nsIn K mainGlobals "_law_as_net" = some (some (.ref f20))) (l20 : K.lookup f20 = some ⟨oc20, od20, .func (PySem.W.fnOf "_law_as_net" "_law_as_net" (defArgs s_law_as_net) (defBody s_law_as_net) (defScope s_law_as_net) .none kV20 dc20 pm20 an20 cd20 ct20), sl20⟩) (c20 : PySem.W.codeIn K cd20 "_law_as_net" = true) (k20 : PySem.W.keepIn K (.ref f20) = true)
    (a21 : PySem.W.nsIn K mainGlobals "_law_order" = some (some (.ref f21))) (l21 : K.lookup f21 = some ⟨oc21, od21, .func (PySem.W.fnOf "_law_order" "_law_order" (defArgs s_law_order) (defBody s_law_order) (defScope s_law_order) .none kV21 dc21 pm21 an21 cd21 ct21), sl21⟩) (c21 : PySem.W.codeIn K cd21 "_law_order" = true) (k21 : PySem.W.keepIn K (.ref f21) = true)
    (a22 : PySem.W.nsIn K mainGlobals "law" = some (some (.ref f22))) (l22 : K.lookup f22 = some ⟨oc22, od22, .func (PySem.W.fnOf "law" "law" (defArgs s_law) (defBody s_law) (defScope s_law) .none kV22 dc22 pm22 an22 cd22 ct22), sl22⟩) (c22 : PySem.W.codeIn K cd22 "law" = true) (k22 : PySem.W.keepIn K (.ref f22) = true)
    (gONE_SWITCH : PySem.W.nsIn K mainGlobals "ONE_SWITCH" = some (some (.ref tONE_SWITCH0)))
    (oONE_SWITCH0 : K.lookup tONE_SWITCH0 = some ⟨.type "tuple", none, .seq #[.int 2 kONE_SWITCH1, .ref tONE_SWITCH2] nONE_SWITCH0, slONE_SWITCH0⟩)
    (oONE_SWITCH2 : K.lookup tONE_SWITCH2 = some ⟨.type "tuple", none, .seq #[.ref tONE_SWITCH3] nONE_SWITCH2, slONE_SWITCH2⟩)
    (oONE_SWITCH3 : K.lookup tONE_SWITCH3 = some ⟨.type "tuple", none, .seq #[.ref tONE_SWITCH4] nONE_SWITCH3, slONE_SWITCH3⟩)
    (oONE_SWITCH4 : K.lookup tONE_SWITCH4 = some ⟨.type "tuple", none, .seq #[.int 0 kONE_SWITCH5, .int 1 kONE_SWITCH6] nONE_SWITCH4, slONE_SWITCH4⟩)
    (z1 : PySem.W.nsIn K mainGlobals "len" = some none) (z2 : PySem.W.nsIn K mainGlobals "tuple" = some none) (z3 : PySem.W.nsIn K mainGlobals "list" = some none) (z4 : PySem.W.nsIn K mainGlobals "sorted" = some none) (z5 : PySem.W.nsIn K mainGlobals "sum" = some none) (z6 : PySem.W.nsIn K mainGlobals "min" = some none) (z7 : PySem.W.nsIn K mainGlobals "max" = some none) (z8 : PySem.W.nsIn K mainGlobals "all" = some none) (z9 : PySem.W.nsIn K mainGlobals "any" = some none) (z10 : PySem.W.nsIn K mainGlobals "repr" = some none) (z11 : PySem.W.nsIn K mainGlobals "str" = some none) (z12 : PySem.W.nsIn K mainGlobals "int" = some none) (z13 : PySem.W.nsIn K mainGlobals "set" = some none) (z14 : PySem.W.nsIn K mainGlobals "isinstance" = some none) (z15 : PySem.W.nsIn K mainGlobals "range" = some none) (z16 : PySem.W.nsIn K mainGlobals "zip" = some none) (z17 : PySem.W.nsIn K mainGlobals "enumerate" = some none) (z18 : PySem.W.nsIn K mainGlobals "bool" = some none) (z19 : PySem.W.nsIn K mainGlobals "reversed" = some none) (z20 : PySem.W.nsIn K mainGlobals "dict" = some none) :
    TabOk K mg T ∧ (∀ b ∈ blts, mg (Str.ofString b) = none) ∧ T "law" = some b_law ∧ ∃ fa FD, DefAt K mg "law" b_law s_law n_law ["_law_script"] fa FD ∧ ∀ (t : Shared) (u : Value), BindsTo t FD ⟨[u], []⟩ [("_law_script", u)] := by
  have D1 : DefAt K mg "behind" b_behind s_behind n_behind p_behind f1 _ := ⟨fun_mk l1 c1 k1, (fun_mk l1 c1 k1).binds (ps := p_behind) fun _ _ _ _ _ _ us hl => (match us, hl with | [_, _], _ => rfl), PySem.W.mg_of X G a1, ⟨rfl, rfl, rfl, by decide +kernel, rfl, by decide +kernel, by decide +kernel⟩, c_behind, rfl⟩
  have D2 : DefAt K mg "on_wires" b_on_wires s_on_wires n_on_wires p_on_wires f2 _ := ⟨fun_mk l2 c2 k2, (fun_mk l2 c2 k2).binds (ps := p_on_wires) fun _ _ _ _ _ _ us hl => (match us, hl with | [_, _], _ => rfl), PySem.W.mg_of X G a2, ⟨rfl, rfl, rfl, by decide +kernel, rfl, by decide +kernel, by decide +kernel⟩, c_on_wires, rfl⟩
  have D3 : DefAt K mg "beside" b_beside s_beside n_beside p_beside f3 _ := ⟨fun_mk l3 c3 k3, (fun_mk l3 c3 k3).binds (ps := p_beside) fun _ _ _ _ _ _ us hl => (match us, hl with | [_, _], _ => rfl), PySem.W.mg_of X G a3, ⟨rfl, rfl, rfl, by decide +kernel, rfl, by decide +kernel, by decide +kernel⟩, c_beside, rfl⟩
  have D4 : DefAt K mg "laid" b_laid s_laid n_laid p_laid f4 _ := ⟨fun_mk l4 c4 k4, (fun_mk l4 c4 k4).binds (ps := p_laid) fun _ _ _ _ _ _ us hl => (match us, hl with | [_, _, _], _ => rfl), PySem.W.mg_of X G a4, ⟨rfl, rfl, rfl, by decide +kernel, rfl, by decide +kernel, by decide +kernel⟩, c_laid, rfl⟩
  have D5 : DefAt K mg "together" b_together s_together n_together p_together f5 _ := ⟨fun_mk l5 c5 k5, (fun_mk l5 c5 k5).binds (ps := p_together) fun _ _ _ _ _ _ us hl => (match us, hl with | [_, _], _ => rfl), PySem.W.mg_of X G a5, ⟨rfl, rfl, rfl, by decide +kernel, rfl, by decide +kernel, by decide +kernel⟩, c_together, rfl⟩
  have D6 : DefAt K mg "merger" b_merger s_merger n_merger p_merger f6 _ := ⟨fun_mk l6 c6 k6, (fun_mk l6 c6 k6).binds (ps := p_merger) fun _ _ _ _ _ _ us hl => (match us, hl with | [_], _ => rfl), PySem.W.mg_of X G a6, ⟨rfl, rfl, rfl, by decide +kernel, rfl, by decide +kernel, by decide +kernel⟩, c_merger, rfl⟩
  have D7 : DefAt K mg "sorter" b_sorter s_sorter n_sorter p_sorter f7 _ := ⟨fun_mk l7 c7 k7, (fun_mk l7 c7 k7).binds (ps := p_sorter) fun _ _ _ _ _ _ us hl => (match us, hl with | [_], _ => rfl), PySem.W.mg_of X G a7, ⟨rfl, rfl, rfl, by decide +kernel, rfl, by decide +kernel, by decide +kernel⟩, c_sorter, rfl⟩
  have D8 : DefAt K mg "compared" b_compared s_compared n_compared p_compared f8 _ := ⟨fun_mk l8 c8 k8, (fun_mk l8 c8 k8).binds (ps := p_compared) fun _ _ _ _ _ _ us hl => (match us, hl with | [_, _], _ => rfl), PySem.W.mg_of X G a8, ⟨rfl, rfl, rfl, by decide +kernel, rfl, by decide +kernel, by decide +kernel⟩, c_compared, rfl⟩
  have D9 : DefAt K mg "is_whole" b_is_whole s_is_whole n_is_whole p_is_whole f9 _ := ⟨fun_mk l9 c9 k9, (fun_mk l9 c9 k9).binds (ps := p_is_whole) fun _ _ _ _ _ _ us hl => (match us, hl with | [_], _ => rfl), PySem.W.mg_of X G a9, ⟨rfl, rfl, rfl, by decide +kernel, rfl, by decide +kernel, by decide +kernel⟩, c_is_whole, rfl⟩
  have D10 : DefAt K mg "is_between" b_is_between s_is_between n_is_between p_is_between f10 _ := ⟨fun_mk l10 c10 k10, (fun_mk l10 c10 k10).binds (ps := p_is_between) fun _ _ _ _ _ _ us hl => (match us, hl with | [_, _, _], _ => rfl), PySem.W.mg_of X G a10, ⟨rfl, rfl, rfl, by decide +kernel, rfl, by decide +kernel, by decide +kernel⟩, c_is_between, rfl⟩
  have D11 : DefAt K mg "is_switch" b_is_switch s_is_switch n_is_switch p_is_switch f11 _ := ⟨fun_mk l11 c11 k11, (fun_mk l11 c11 k11).binds (ps := p_is_switch) fun _ _ _ _ _ _ us hl => (match us, hl with | [_, _], _ => rfl), PySem.W.mg_of X G a11, ⟨rfl, rfl, rfl, by decide +kernel, rfl, by decide +kernel, by decide +kernel⟩, c_is_switch, rfl⟩
  have D12 : DefAt K mg "is_stage" b_is_stage s_is_stage n_is_stage p_is_stage f12 _ := ⟨fun_mk l12 c12 k12, (fun_mk l12 c12 k12).binds (ps := p_is_stage) fun _ _ _ _ _ _ us hl => (match us, hl with | [_, _], _ => rfl), PySem.W.mg_of X G a12, ⟨rfl, rfl, rfl, by decide +kernel, rfl, by decide +kernel, by decide +kernel⟩, c_is_stage, rfl⟩
  have D13 : DefAt K mg "is_net" b_is_net s_is_net n_is_net p_is_net f13 _ := ⟨fun_mk l13 c13 k13, (fun_mk l13 c13 k13).binds (ps := p_is_net) fun _ _ _ _ _ _ us hl => (match us, hl with | [_], _ => rfl), PySem.W.mg_of X G a13, ⟨rfl, rfl, rfl, by decide +kernel, rfl, by decide +kernel, by decide +kernel⟩, c_is_net, rfl⟩
  have D14 : DefAt K mg "_law_deck" b_law_deck s_law_deck n_law_deck p_law_deck f14 _ := ⟨fun_mk l14 c14 k14, (fun_mk l14 c14 k14).binds (ps := p_law_deck) fun _ _ _ _ _ _ us hl => (match us, hl with | [_, _], _ => rfl), PySem.W.mg_of X G a14, ⟨rfl, rfl, rfl, by decide +kernel, rfl, by decide +kernel, by decide +kernel⟩, c_law_deck, rfl⟩
  have D15 : DefAt K mg "_law_draw" b_law_draw s_law_draw n_law_draw p_law_draw f15 _ := ⟨fun_mk l15 c15 k15, (fun_mk l15 c15 k15).binds (ps := p_law_draw) fun _ _ _ _ _ _ us hl => (match us, hl with | [_, _], _ => rfl), PySem.W.mg_of X G a15, ⟨rfl, rfl, rfl, by decide +kernel, rfl, by decide +kernel, by decide +kernel⟩, c_law_draw, rfl⟩
  have D16 : DefAt K mg "_law_compared" b_law_compared s_law_compared n_law_compared p_law_compared f16 _ := ⟨fun_mk l16 c16 k16, (fun_mk l16 c16 k16).binds (ps := p_law_compared) fun _ _ _ _ _ _ us hl => (match us, hl with | [_, _], _ => rfl), PySem.W.mg_of X G a16, ⟨rfl, rfl, rfl, by decide +kernel, rfl, by decide +kernel, by decide +kernel⟩, c_law_compared, rfl⟩
  have D17 : DefAt K mg "_law_row" b_law_row s_law_row n_law_row p_law_row f17 _ := ⟨fun_mk l17 c17 k17, (fun_mk l17 c17 k17).binds (ps := p_law_row) fun _ _ _ _ _ _ us hl => (match us, hl with | [_, _], _ => rfl), PySem.W.mg_of X G a17, ⟨rfl, rfl, rfl, by decide +kernel, rfl, by decide +kernel, by decide +kernel⟩, c_law_row, rfl⟩
  have D18 : DefAt K mg "_law_merger" b_law_merger s_law_merger n_law_merger p_law_merger f18 _ := ⟨fun_mk l18 c18 k18, (fun_mk l18 c18 k18).binds (ps := p_law_merger) fun _ _ _ _ _ _ us hl => (match us, hl with | [_], _ => rfl), PySem.W.mg_of X G a18, ⟨rfl, rfl, rfl, by decide +kernel, rfl, by decide +kernel, by decide +kernel⟩, c_law_merger, rfl⟩
  have D19 : DefAt K mg "_law_sorter" b_law_sorter s_law_sorter n_law_sorter p_law_sorter f19 _ := ⟨fun_mk l19 c19 k19, (fun_mk l19 c19 k19).binds (ps := p_law_sorter) fun _ _ _ _ _ _ us hl => (match us, hl with | [_], _ => rfl), PySem.W.mg_of X G a19, ⟨rfl, rfl, rfl, by decide +kernel, rfl, by decide +kernel, by decide +kernel⟩, c_law_sorter, rfl⟩
  have D20 : DefAt K mg "_law_as_net" b_law_as_net s_law_as_net n_law_as_net p_law_as_net f20 _ := ⟨fun_mk l20 c20 k20, (fun_mk l20 c20 k20).binds (ps := p_law_as_net) fun _ _ _ _ _ _ us hl => (match us, hl with | [_, _], _ => rfl), PySem.W.mg_of X G a20, ⟨rfl, rfl, rfl, by decide +kernel, rfl, by decide +kernel, by decide +kernel⟩, c_law_as_net, rfl⟩
  have D21 : DefAt K mg "_law_order" b_law_order s_law_order n_law_order p_law_order f21 _ := ⟨fun_mk l21 c21 k21, (fun_mk l21 c21 k21).binds (ps := p_law_order) fun _ _ _ _ _ _ us hl => (match us, hl with | [_, _], _ => rfl), PySem.W.mg_of X G a21, ⟨rfl, rfl, rfl, by decide +kernel, rfl, by decide +kernel, by decide +kernel⟩, c_law_order, rfl⟩
  have D22 : DefAt K mg "law" b_law s_law n_law p_law f22 _ := ⟨fun_mk l22 c22 k22, (fun_mk l22 c22 k22).binds (ps := p_law) fun _ _ _ _ _ _ us hl => (match us, hl with | [_], _ => rfl), PySem.W.mg_of X G a22, ⟨rfl, rfl, rfl, by decide +kernel, rfl, by decide +kernel, by decide +kernel⟩, c_law, rfl⟩
  refine ⟨fun f fd hf => ?_, fun b hb => ?_, rfl, _, _, D22, fun t u => .of_eq rfl⟩
  · unfold T at hf
    split at hf
    · cases hf; exact ⟨fun _ => ⟨_, _, _, _, _, D1⟩, not_con (by decide)⟩
    · cases hf; exact ⟨fun _ => ⟨_, _, _, _, _, D2⟩, not_con (by decide)⟩
    · cases hf; exact ⟨fun _ => ⟨_, _, _, _, _, D3⟩, not_con (by decide)⟩
    · cases hf; exact ⟨fun _ => ⟨_, _, _, _, _, D4⟩, not_con (by decide)⟩
    · cases hf; exact ⟨fun _ => ⟨_, _, _, _, _, D5⟩, not_con (by decide)⟩
    · cases hf; exact ⟨fun _ => ⟨_, _, _, _, _, D6⟩, not_con (by decide)⟩
    · cases hf; exact ⟨fun _ => ⟨_, _, _, _, _, D7⟩, not_con (by decide)⟩
    · cases hf; exact ⟨fun _ => ⟨_, _, _, _, _, D8⟩, not_con (by decide)⟩
    · cases hf; exact ⟨fun _ => ⟨_, _, _, _, _, D9⟩, not_con (by decide)⟩
    · cases hf; exact ⟨fun _ => ⟨_, _, _, _, _, D10⟩, not_con (by decide)⟩
    · cases hf; exact ⟨fun _ => ⟨_, _, _, _, _, D11⟩, not_con (by decide)⟩
    · cases hf; exact ⟨fun _ => ⟨_, _, _, _, _, D12⟩, not_con (by decide)⟩
    · cases hf; exact ⟨fun _ => ⟨_, _, _, _, _, D13⟩, not_con (by decide)⟩
    · cases hf; exact ⟨fun _ => ⟨_, _, _, _, _, D14⟩, not_con (by decide)⟩
    · cases hf; exact ⟨fun _ => ⟨_, _, _, _, _, D15⟩, not_con (by decide)⟩
    · cases hf; exact ⟨fun _ => ⟨_, _, _, _, _, D16⟩, not_con (by decide)⟩
    · cases hf; exact ⟨fun _ => ⟨_, _, _, _, _, D17⟩, not_con (by decide)⟩
    · cases hf; exact ⟨fun _ => ⟨_, _, _, _, _, D18⟩, not_con (by decide)⟩
    · cases hf; exact ⟨fun _ => ⟨_, _, _, _, _, D19⟩, not_con (by decide)⟩
    · cases hf; exact ⟨fun _ => ⟨_, _, _, _, _, D20⟩, not_con (by decide)⟩
    · cases hf; exact ⟨fun _ => ⟨_, _, _, _, _, D21⟩, not_con (by decide)⟩
    · cases hf; exact ⟨fun _ => ⟨_, _, _, _, _, D22⟩, not_con (by decide)⟩
    · cases hf; exact ⟨fun z => absurd z (by decide), con_at (s := "ONE_SWITCH") (by decide) ⟨.tuple [.int 2, .tuple [.tuple [.tuple [.int 0, .int 1]]]], .ref tONE_SWITCH0, _, (fun m args p h => con_val (d := .tuple [.int 2, .tuple [.tuple [.tuple [.int 0, .int 1]]]]) rfl rfl (fun _ => rfl) h), PySem.W.mg_of X G gONE_SWITCH, rfl, fun _ => .tup (.inr ⟨_, _, _, oONE_SWITCH0, rfl, rfl, rfl, (show (2 : Nat) ≤ sizeLine by rw [sizeLine_eq]; decide), (show Vals [(.int 2), (.ref tONE_SWITCH2)] _ from .cons ⟨_, rfl⟩ (.cons rfl (.nil)))⟩) (.cons (.int _) (.cons (.tup (.inr ⟨_, _, _, oONE_SWITCH2, rfl, rfl, rfl, (show (1 : Nat) ≤ sizeLine by rw [sizeLine_eq]; decide), (show Vals [(.ref tONE_SWITCH3)] _ from .cons rfl (.nil))⟩) (.cons (.tup (.inr ⟨_, _, _, oONE_SWITCH3, rfl, rfl, rfl, (show (1 : Nat) ≤ sizeLine by rw [sizeLine_eq]; decide), (show Vals [(.ref tONE_SWITCH4)] _ from .cons rfl (.nil))⟩) (.cons (.tup (.inr ⟨_, _, _, oONE_SWITCH4, rfl, rfl, rfl, (show (2 : Nat) ≤ sizeLine by rw [sizeLine_eq]; decide), (show Vals [(.int 0), (.int 1)] _ from .cons ⟨_, rfl⟩ (.cons ⟨_, rfl⟩ (.nil)))⟩) (.cons (.int _) (.cons (.int _) .nil))) .nil)) .nil)) .nil))⟩⟩
    · cases hf
  · simp only [blts, List.mem_cons, List.not_mem_nil, or_false] at hb
    rcases hb with rfl | rfl | rfl | rfl | rfl | rfl | rfl | rfl | rfl | rfl | rfl | rfl | rfl | rfl | rfl | rfl | rfl | rfl | rfl | rfl
    · exact PySem.W.mg_none_of X G z1
    · exact PySem.W.mg_none_of X G z2
    · exact PySem.W.mg_none_of X G z3
    · exact PySem.W.mg_none_of X G z4
    · exact PySem.W.mg_none_of X G z5
    · exact PySem.W.mg_none_of X G z6
    · exact PySem.W.mg_none_of X G z7
    · exact PySem.W.mg_none_of X G z8
    · exact PySem.W.mg_none_of X G z9
    · exact PySem.W.mg_none_of X G z10
    · exact PySem.W.mg_none_of X G z11
    · exact PySem.W.mg_none_of X G z12
    · exact PySem.W.mg_none_of X G z13
    · exact PySem.W.mg_none_of X G z14
    · exact PySem.W.mg_none_of X G z15
    · exact PySem.W.mg_none_of X G z16
    · exact PySem.W.mg_none_of X G z17
    · exact PySem.W.mg_none_of X G z18
    · exact PySem.W.mg_none_of X G z19
    · exact PySem.W.mg_none_of X G z20

end K51
open PySem PySem.W PyProof.Rows
set_option maxHeartbeats 0 in
theorem PySem.Challenge.cw_switchrows_k51_sorters_holds : PySem.Challenge.rw_switchrows_k51_sorters.Holds := by
  w_on; o_law; k_head; (case hw => w_witness2)
  k_fill
  refine Sw.end_walk (l := PySem.Challenge.rw_switchrows_k51_sorters) (n := 63) (k := K51.lvl) (T := K51.T) (lawD := K51.b_law) (lawS := K51.s_law) (NL := K51.n_law) (x := "_law_script") rfl (by decide) rfl (by decide) (fun w h Y => PySem.W.kIn_of Y) rfl ?tab K51.law_val
  case tab =>
    intro w mg h KX G
    refine' K51.tab_mk KX G ?a1 ?l1 ?c1 ?k1 ?a2 ?l2 ?c2 ?k2 ?a3 ?l3 ?c3 ?k3 ?a4 ?l4 ?c4 ?k4 ?a5 ?l5 ?c5 ?k5 ?a6 ?l6 ?c6 ?k6 ?a7 ?l7 ?c7 ?k7 ?a8 ?l8 ?c8 ?k8 ?a9 ?l9 ?c9 ?k9 ?a10 ?l10 ?c10 ?k10 ?a11 ?l11 ?c11 ?k11 ?a12 ?l12 ?c12 ?k12 ?a13 ?l13 ?c13 ?k13 ?a14 ?l14 ?c14 ?k14 ?a15 ?l15 ?c15 ?k15 ?a16 ?l16 ?c16 ?k16 ?a17 ?l17 ?c17 ?k17 ?a18 ?l18 ?c18 ?k18 ?a19 ?l19 ?c19 ?k19 ?a20 ?l20 ?c20 ?k20 ?a21 ?l21 ?c21 ?k21 ?a22 ?l22 ?c22 ?k22 ?gONE_SWITCH ?oONE_SWITCH0 ?oONE_SWITCH2 ?oONE_SWITCH3 ?oONE_SWITCH4 ?z1 ?z2 ?z3 ?z4 ?z5 ?z6 ?z7 ?z8 ?z9 ?z10 ?z11 ?z12 ?z13 ?z14 ?z15 ?z16 ?z17 ?z18 ?z19 ?z20
    (case a1 => k_is)
    (case l1 => k_is)
    (case c1 => k_is)
    (case k1 => k_is)
    (case a2 => k_is)
    (case l2 => k_is)
    (case c2 => k_is)
    (case k2 => k_is)
    (case a3 => k_is)
    (case l3 => k_is)
    (case c3 => k_is)
    (case k3 => k_is)
    (case a4 => k_is)
    (case l4 => k_is)
    (case c4 => k_is)
    (case k4 => k_is)
    (case a5 => k_is)
    (case l5 => k_is)
    (case c5 => k_is)
    (case k5 => k_is)
    (case a6 => k_is)
    (case l6 => k_is)
    (case c6 => k_is)
    (case k6 => k_is)
    (case a7 => k_is)
    (case l7 => k_is)
    (case c7 => k_is)
    (case k7 => k_is)
    (case a8 => k_is)
    (case l8 => k_is)
    (case c8 => k_is)
    (case k8 => k_is)
    (case a9 => k_is)
    (case l9 => k_is)
    (case c9 => k_is)
    (case k9 => k_is)
    (case a10 => k_is)
    (case l10 => k_is)
    (case c10 => k_is)
    (case k10 => k_is)
    (case a11 => k_is)
    (case l11 => k_is)
    (case c11 => k_is)
    (case k11 => k_is)
    (case a12 => k_is)
    (case l12 => k_is)
    (case c12 => k_is)
    (case k12 => k_is)
    (case a13 => k_is)
    (case l13 => k_is)
    (case c13 => k_is)
    (case k13 => k_is)
    (case a14 => k_is)
    (case l14 => k_is)
    (case c14 => k_is)
    (case k14 => k_is)
    (case a15 => k_is)
    (case l15 => k_is)
    (case c15 => k_is)
    (case k15 => k_is)
    (case a16 => k_is)
    (case l16 => k_is)
    (case c16 => k_is)
    (case k16 => k_is)
    (case a17 => k_is)
    (case l17 => k_is)
    (case c17 => k_is)
    (case k17 => k_is)
    (case a18 => k_is)
    (case l18 => k_is)
    (case c18 => k_is)
    (case k18 => k_is)
    (case a19 => k_is)
    (case l19 => k_is)
    (case c19 => k_is)
    (case k19 => k_is)
    (case a20 => k_is)
    (case l20 => k_is)
    (case c20 => k_is)
    (case k20 => k_is)
    (case a21 => k_is)
    (case l21 => k_is)
    (case c21 => k_is)
    (case k21 => k_is)
    (case a22 => k_is)
    (case l22 => k_is)
    (case c22 => k_is)
    (case k22 => k_is)
    (case gONE_SWITCH => k_is)
    (case oONE_SWITCH0 => k_is)
    (case oONE_SWITCH2 => k_is)
    (case oONE_SWITCH3 => k_is)
    (case oONE_SWITCH4 => k_is)
    (case z1 => k_is)
    (case z2 => k_is)
    (case z3 => k_is)
    (case z4 => k_is)
    (case z5 => k_is)
    (case z6 => k_is)
    (case z7 => k_is)
    (case z8 => k_is)
    (case z9 => k_is)
    (case z10 => k_is)
    (case z11 => k_is)
    (case z12 => k_is)
    (case z13 => k_is)
    (case z14 => k_is)
    (case z15 => k_is)
    (case z16 => k_is)
    (case z17 => k_is)
    (case z18 => k_is)
    (case z19 => k_is)
    (case z20 => k_is)
end T_LINK
