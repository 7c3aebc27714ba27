import PyProof.Rows.All
import Wide.All
import OpenK.AllK
import Wide.FinOn
import HandS.ForMost
import HandS.Walk
import HandS.Flow
import HandS.Style
import HandS.Wide
import HandS.Deep
import HandS.TupAny
import HandS.Conv
import HandS.SortInts
import HandS.Zip
import PyProof.P3Statements
import PyProof.ReprReads
import PyProof.RangeIter
import PyProof.ReprLen
import HandS.TupMul
import HandS.Strs
import HandS.TryOnly
import KE.GoesEnum
import HandS.IsInst
import HandS.WideBits
import HandS.SetKeys
import HandS.More
import KE.KDictLaws
import HandS.RevTup
import HandS.Rev
import KE.DataMinMax
import HandS.Ends
import HandS.Words
import PySem.Challenge.RW_switchrows_k12_nets_about
set_option Elab.async false
section T_SwA
set_option autoImplicit false
set_option linter.all false
/-! SwA: the core language, and what it computes. Values are PyData. -/
namespace Sw
open PySem
abbrev D := PyData
/-- a slot of a frame: forgotten, data, a list of one's own, a dict of one's own (keys whole numbers), one of lists of one's own, one whose keys are tuples of whole numbers -/
inductive V where
  | u
  | d (x : D)
  | c (xs : List D)
  | k (kvs : List (Int × D))
  | g (gs : List (Int × List D))
  | t (kts : List (List Int × D))
abbrev Env := List V
inductive R (α : Type) where
  | ok (a : α)
  | exc (c : String)
  | bad
namespace R
def bind {α β : Type} (r : R α) (f : α → R β) : R β := match r with | ok a => f a | exc c => exc c | bad => bad
def ofO {α : Type} : Option α → R α | some a => ok a | none => bad
@[simp] theorem bind_ok {α β : Type} (a : α) (f : α → R β) : bind (ok a) f = f a := rfl
@[simp] theorem bind_exc {α β : Type} (c : String) (f : α → R β) : bind (exc c) f = exc c := rfl
@[simp] theorem bind_bad {α β : Type} (f : α → R β) : bind bad f = bad := rfl
@[simp] theorem ofO_some {α : Type} (a : α) : ofO (some a) = ok a := rfl
@[simp] theorem ofO_none {α : Type} : ofO (none : Option α) = bad := rfl
end R
/-- how a statement ends -/
inductive SR where
  | nx (e : Env)
  | rt (v : V) (e : Env)
  | bk (e : Env)
  | ct (e : Env)
  | exc (c : String)
  | bad
def SR.seq (r : SR) (f : Env → SR) : SR := match r with | nx e => f e | r => r
@[simp] theorem SR.seq_nx (e : Env) (f : Env → SR) : SR.seq (.nx e) f = f e := rfl
@[simp] theorem SR.seq_rt (v : V) (e : Env) (f : Env → SR) : SR.seq (.rt v e) f = .rt v e := rfl
@[simp] theorem SR.seq_bk (e : Env) (f : Env → SR) : SR.seq (.bk e) f = .bk e := rfl
@[simp] theorem SR.seq_ct (e : Env) (f : Env → SR) : SR.seq (.ct e) f = .ct e := rfl
@[simp] theorem SR.seq_exc (c : String) (f : Env → SR) : SR.seq (.exc c) f = .exc c := rfl
@[simp] theorem SR.seq_bad (f : Env → SR) : SR.seq .bad f = .bad := rfl
def SR.ofR {α : Type} (r : R α) (f : α → SR) : SR := match r with | .ok a => f a | .exc c => .exc c | .bad => .bad
@[simp] theorem SR.ofR_ok {α : Type} (a : α) (f : α → SR) : SR.ofR (.ok a) f = f a := rfl
@[simp] theorem SR.ofR_exc {α : Type} (c : String) (f : α → SR) : SR.ofR (.exc c) f = .exc c := rfl
@[simp] theorem SR.ofR_bad {α : Type} (f : α → SR) : SR.ofR .bad f = .bad := rfl
/-! ### operators -/
inductive O1 where
  | neg | len | tupleOf | listOf | sorted | sum | minOf | maxOf | all | any | repr | strOf | intOf | lenSet | rev | bits | revT | minT
  | isNone (b : Bool)            -- is None (true), is not None (false)
  | isBool (x b : Bool)          -- is x (b = true), is not x
  | isi (t : String)             -- isinstance of a built-in class
  deriving DecidableEq
inductive O2 where
  | add | sub | mul | fdiv | mod | pow | shl | shr | band | bxor
  | eq | ne | lt | le | gt | ge | inn | notin
  | idx | min2 | max2
  deriving DecidableEq
def lim : Nat := 16777216
def b2i (b : Bool) : Int := if b then 1 else 0
def truth : D → Option Bool
  | .none => some false
  | .bool b => some b
  | .int i => some (i != 0)
  | .str s => if s.length ≤ lim then some (s.length != 0) else none
  | .list xs => some (!xs.isEmpty)
  | .tuple xs => some (!xs.isEmpty)
  | .dict _ => none
def intsOf : List D → Option (List Int)
  | [] => some []
  | .int i :: r => (intsOf r).map (i :: ·)
  | _ :: _ => none
def boolsOf : List D → Option (List Bool)
  | [] => some []
  | .bool b :: r => (boolsOf r).map (b :: ·)
  | _ :: _ => none
/-- the order of tuples of intsOf -/
def lexB : List Int → List Int → Bool
  | [], [] => false
  | [], _ :: _ => true
  | _ :: _, [] => false
  | x :: xs, y :: ys => if x = y then lexB xs ys else decide (x < y)
def insI (x : Int) : List Int → List Int
  | [] => [x]
  | y :: r => if y < x then y :: insI x r else x :: y :: r
def sortI : List Int → List Int
  | [] => []
  | x :: r => insI x (sortI r)
/-- pairs of ints -/
def pairD (p : Int × Int) : D := .tuple [.int p.1, .int p.2]
def pairI : D → Option (Int × Int)
  | .tuple [.int i, .int j] => some (i, j)
  | _ => none
def pairsI : List D → Option (List (Int × Int))
  | [] => some []
  | x :: r => (pairI x).bind fun a => (pairsI r).map (a :: ·)
def ltP (p q : Int × Int) : Bool := if p.1 = q.1 then decide (p.2 < q.2) else decide (p.1 < q.1)
def insP (x : Int × Int) : List (Int × Int) → List (Int × Int)
  | [] => [x]
  | y :: r => if ltP y x then y :: insP x r else x :: y :: r
def sortP : List (Int × Int) → List (Int × Int)
  | [] => []
  | x :: r => insP x (sortP r)
def sortD (xs : List D) : Option (List D) :=
  match intsOf xs with
  | some ns => some ((sortI ns).map .int)
  | none => (pairsI xs).map fun l => (sortP l).map pairD
def seqOf : D → Option (List D)
  | .list xs => some xs
  | .tuple xs => some xs
  | _ => none
/-- the place that an index means -/
def ixN (n : Nat) (i : Int) : Option Nat :=
  if 0 ≤ i then if i < (n : Int) then some i.toNat else none
  else if 0 ≤ i + (n : Int) then some (i + n).toNat else none
def atI (xs : List D) (i : Int) : Option D := (ixN xs.length i).bind fun j => xs[j]?
def isiD (t : String) : D → Bool
  | .none => t == "NoneType"
  | .bool _ => t == "bool" || t == "int"
  | .int _ => t == "int"
  | .str _ => t == "str"
  | .list _ => t == "list"
  | .tuple _ => t == "tuple"
  | .dict _ => t == "dict"
def isiOk (t : String) : Bool := t == "bool" || t == "int" || t == "str" || t == "tuple"
def minL : List Int → Option Int
  | [] => none
  | n :: r => some (r.foldl (fun a b => if b < a then b else a) n)
def maxL : List Int → Option Int
  | [] => none
  | n :: r => some (r.foldl (fun a b => if a < b then b else a) n)
/-- the unlike ones, in the order in which they come -/
def metL (ns : List Int) : List Int := ns.foldl (fun acc x => if acc.any (· == x) then acc else acc ++ [x]) []
def tupsI : List D → Option (List (List Int))
  | [] => some []
  | .tuple ks :: r => (intsOf ks).bind fun k => (tupsI r).map (k :: ·)
  | _ :: _ => none
def minTs : List (List Int) → Option (List Int)
  | [] => none
  | n :: r => some (r.foldl (fun a b => if lexB b a then b else a) n)
def shapedB (d : D) : Bool := d.canLay0 && decide (d.depth ≤ 64)
/-- what repr is known to show -/
def okRepr (x : D) : Bool := x.showable && decide (x.depth ≤ 40) && x.canLay0 && (decide (x.weight ≤ 1048576) && x.intsShort 13 || decide (x.weight ≤ 20000) && x.intsShort 60)
def op1 (o : O1) (x : D) : Option V :=
  match o with
  | .neg => match x with | .int i => some (.d (.int (-i))) | _ => none
  | .len => match x with
    | .list xs => some (.d (.int xs.length)) | .tuple xs => some (.d (.int xs.length))
    | .str s => if s.length ≤ lim then some (.d (.int s.length)) else none
    | _ => none
  | .tupleOf => (seqOf x).map fun xs => .d (.tuple xs)
  | .listOf => (seqOf x).map fun xs => .c xs
  | .sorted => (seqOf x).bind fun xs => (sortD xs).map .c
  | .sum => match x with | .list xs => (intsOf xs).map fun ns => .d (.int ns.sum) | .tuple xs => (intsOf xs).map fun ns => .d (.int ns.sum) | _ => none
  | .minOf => match x with | .list xs => (intsOf xs).bind fun ns => (minL ns).map fun n => .d (.int n) | _ => none
  | .maxOf => match x with | .list xs => (intsOf xs).bind fun ns => (maxL ns).map fun n => .d (.int n) | _ => none
  | .all => match x with | .list xs => (boolsOf xs).map fun bs => .d (.bool (bs.all id)) | _ => none
  | .any => match x with | .list xs => (boolsOf xs).map fun bs => .d (.bool (bs.any id)) | _ => none
  | .repr => if okRepr x then some (.d (.str x.shown)) else none
  | .strOf => match x with | .int i => if i.natAbs.log2 < 1920 then some (.d (.str (toString i))) else none | _ => none
  | .intOf => match x with | .int i => some (.d (.int i)) | .bool b => some (.d (.int (b2i b))) | _ => none
  | .lenSet => match x with | .list xs => (intsOf xs).bind fun ns => if ns.length ≤ 4000 ∧ ns.Nodup then some (.d (.int ns.length)) else if ns.length ≤ 4000 then some (.d (.int (metL ns).length)) else none | _ => none
  | .revT => match x with | .tuple xs => some (.d (.tuple xs.reverse)) | _ => none
  | .minT => match x with | .list xs => (tupsI xs).bind fun ts => (minTs ts).map fun t => .d (.tuple (t.map .int)) | _ => none
  | .rev => match x with | .tuple xs => some (.d (.tuple xs.reverse)) | .list xs => some (.c xs.reverse) | _ => none
  | .bits => match x with | .int i => some (.d (.int ((Builtin.Int.intBits i : Nat) : Int))) | _ => none
  | .isNone b => match x with | .none => some (.d (.bool b)) | _ => some (.d (.bool (!b)))
  | .isBool y b => match x with | .bool z => some (.d (.bool ((z == y) == b))) | _ => none
  | .isi t => if isiOk t then some (.d (.bool (isiD t x))) else none
def intMul (i j : Int) : Option V :=
  if i.natAbs < 2 ^ 64 ∨ j.natAbs < 2 ^ 64 ∨ i.natAbs.log2 + j.natAbs.log2 < 1000000 then some (.d (.int (i * j))) else none
def addD (x y : D) : Option V :=
  match x, y with
  | .int i, .int j => some (.d (.int (i + j)))
  | .int i, .bool b => some (.d (.int (i + b2i b)))
  | .str a, .str b => if a.length + b.length ≤ lim then some (.d (.str (a ++ b))) else none
  | .tuple a, .tuple b => if a.length + b.length ≤ lim then some (.d (.tuple (a ++ b))) else none
  | .list a, .list b => if a.length + b.length ≤ lim then some (.c (a ++ b)) else none
  | _, _ => none
def mulD (x y : D) : Option V :=
  match x, y with
  | .int i, .int j => intMul i j
  | .tuple xs, .int j => if 0 ≤ j ∧ j ≤ 1000 ∧ xs.length ≤ 1000 then some (.d (.tuple (List.replicate j.toNat xs).flatten)) else none
  | _, _ => none
def int2 (x y : D) (C : Int → Int → Bool) (f : Int → Int → D) : Option V :=
  match x, y with
  | .int i, .int j => if C i j then some (.d (f i j)) else none
  | _, _ => none
def cmpD (x y : D) (f : Int → Int → Bool) (g : List Int → List Int → Option Bool) : Option V :=
  match x, y with
  | .int i, .int j => some (.d (.bool (f i j)))
  | .tuple a, .tuple b => (intsOf a).bind fun na => (intsOf b).bind fun nb => (g na nb).map fun r => .d (.bool r)
  | _, _ => none
/-- lists of unlike lengths -/
def uneven (x y : D) : Bool :=
  match x, y with
  | .list a, .list b => decide (a.length ≠ b.length)
  | _, _ => false
def eqD (x y : D) : Option Bool :=
  match x, y with
  | .int i, .int j => some (i == j)
  | .bool i, .bool j => some (i == j)
  | .str i, .str j => some (i == j)
  | x, y => if shapedB x && shapedB y then some (x.eqv y) else if uneven x y then some false else none
def inD (x y : D) : Option Bool :=
  match y with
  | .list ys => if shapedB x && shapedB y then some (ys.any fun z => z.eqv x) else none
  | .tuple ys => if shapedB x && shapedB y then some (ys.any fun z => z.eqv x) else none
  | _ => none
/-- the first place of x -/
def find (x : D) : List D → Nat → Option Nat
  | [], _ => none
  | y :: r, j => if y.eqv x then some j else find x r (j + 1)
def op2 (o : O2) (x y : D) : Option V :=
  match o with
  | .add => addD x y
  | .sub => int2 x y (fun _ _ => true) fun i j => .int (i - j)
  | .mul => mulD x y
  | .fdiv => int2 x y (fun _ j => decide (0 < j ∧ (j < 18446744073709551616 ∨ j.natAbs.log2 < 9000))) fun i j => .int (i / j)
  | .mod => int2 x y (fun _ j => decide (0 < j)) fun i j => .int (i % j)
  | .pow => int2 x y (fun i j => decide (0 ≤ j ∧ j ≤ 1000000 ∧ i.natAbs < 2 ^ 64)) fun i j => .int (i ^ j.toNat)
  | .shl => int2 x y (fun i j => decide (0 ≤ j ∧ j ≤ 1000000 ∧ i.natAbs < 2 ^ 64)) fun i j => .int (i * 2 ^ j.toNat)
  | .shr => int2 x y (fun _ j => decide (0 ≤ j)) fun i j => .int (i / 2 ^ j.toNat)
  | .band => int2 x y (fun _ _ => true) fun i j => .int (Builtin.bitAnd i j)
  | .bxor => int2 x y (fun _ _ => true) fun i j => .int (Builtin.bitXor i j)
  | .eq => (eqD x y).map fun b => .d (.bool b)
  | .ne => (eqD x y).map fun b => .d (.bool (!b))
  | .lt => cmpD x y (fun i j => decide (i < j)) fun a b => some (lexB a b)
  | .le => cmpD x y (fun i j => decide (i ≤ j)) fun _ _ => none
  | .gt => cmpD x y (fun i j => decide (j < i)) fun _ _ => none
  | .ge => cmpD x y (fun i j => decide (j ≤ i)) fun _ _ => none
  | .inn => (inD x y).map fun b => .d (.bool b)
  | .notin => (inD x y).map fun b => .d (.bool (!b))
  | .idx => match y with | .int i => (seqOf x).bind fun xs => (atI xs i).map .d | _ => none
  | .min2 => int2 x y (fun _ _ => true) fun i j => .int (if j < i then j else i)
  | .max2 => int2 x y (fun _ _ => true) fun i j => .int (if j > i then j else i)
/-- the part of a slice -/
def cutIx (n d : Nat) : Option Int → Nat
  | none => d
  | some v => if v < 0 then (v + n).toNat else min v.toNat n
def cut {α : Type} (xs : List α) (lo hi : Option Int) : List α := (xs.drop (cutIx xs.length 0 lo)).take (cutIx xs.length xs.length hi - cutIx xs.length 0 lo)
/-- every k-th from i on -/
def pickK {α : Type} (xs : List α) (i k : Nat) : List α := (List.range ((xs.length - i + k - 1) / k)).filterMap fun j => xs[i + j * k]?
def isL : D → Bool
  | .list _ => true
  | _ => false
def indexD (x y : D) : Option V := (seqOf x).bind fun xs => if shapedB x && shapedB y then (find y xs 0).map fun (j : Nat) => .d (.int (j : Int)) else none
def countD (x y : D) : Option V := match x with
  | .list xs => if shapedB x && shapedB y then some (.d (.int ((xs.countP fun z => z.eqv y : Nat) : Int))) else none
  | _ => none
def sliceD (x : D) (lo hi : Option Int) : Option V :=
  match x with
  | .list xs => some (.c (cut xs lo hi))
  | .tuple xs => some (.d (.tuple (cut xs lo hi)))
  | _ => none
/-! ### the language -/
inductive T where
  | n (i : Nat)
  | p (ts : List T)
mutual
inductive E where
  | var (i : Nat)
  | mv (i : Nat)
  | non | bl (b : Bool) | int (i : Int) | str (s : String)
  | tup (es : Es) | lst (es : Es)
  | rep (tp : Bool) (es : Es) (a : E)     -- [..] * n, (..) * n
  | o1 (o : O1) (a : E)
  | o2 (o : O2) (a b : E)
  | slice (a : E) (lo hi : Eo)
  | index (a b : E)
  | count (a b : E)                       -- x.count(a) of a list
  | chain (o o' : O2) (a b c : E)
  | not (a : Te) | and (a b : E) | or (a b : E)
  | ite (t : Te) (a b : E)
  | call (f : String) (as : Es)
  | comp (own : List Nat) (t : T) (s : Src) (cond : Co) (elt : E)
  | ofSrc (tup : Bool) (s : Src)          -- list(range(..)), tuple(range(..)), ..
  | pop (i : Nat) (a : E) | popl (i : Nat)
  | app (i : Nat) (a : E) | ext (i : Nat) (a : E)
  | dnew | dof (a : E)                    -- {}, dict([..])
  | dlit (j x : Int)                      -- {j: x}
  | din (b : Bool) (i : Nat) (a : E)      -- a in x (true), a not in x
  | dget (i : Nat) (a : E) | dgtd (i : Nat) (a b : E) | dsetd (i : Nat) (a b : E)
  | dupd (i : Nat) (a : E) | dsort (i : Nat)
  | gapp (i : Nat) (a : E) (j : Nat)      -- x.setdefault(a, []).append(y)
  | sstep (a lo : E) (k : Nat)            -- x[lo::k] of a list
  | tnew                                  -- {} of tuples
  | tin (b : Bool) (i : Nat) (a : E) | tget (i : Nat) (a : E) | tgtd (i : Nat) (a b : E)
inductive Es where
  | nil
  | cons (e : E) (es : Es)
inductive Eo where
  | no
  | yes (e : E)
/-- a test -/
inductive Te where
  | e (a : E)
  | not (a : Te) | and (a b : Te) | or (a b : Te)
  | ite (t a b : Te)
inductive Co where
  | no
  | yes (t : Te)
inductive Src where
  | seq (a : E)
  | rng1 (a : E) | rng2 (a b : E) | rng3 (a b c : E)
  | zip2 (a b : E)
  | enum (a : E)
end
mutual
inductive S where
  | asg (i : Nat) (e : E)
  | asgT (t : T) (e : E)
  | aug (i : Nat) (o : O2) (e : E)
  | st (i : Nat) (ix e : E)                       -- x[ix] = e
  | st2 (i : Nat) (ix : E) (j : Nat) (jx : E) (a b : E)   -- x[ix], y[jx] = a, b
  | dst (i : Nat) (ix e : E)                      -- x[ix] = e of a dict
  | tst (i : Nat) (ix e : E)                      -- x[ix] = e of a dict whose keys are tuples
  | ex (e : E)
  | ret (e : E) | retN
  | iff (t : Te) (a b : Ss)
  | forr (t : T) (s : Src) (b : Ss) (kill : List Nat)
  | whil (t : Te) (b : Ss) (kill : List Nat)
  | forv (t : T) (i : Nat) (b : Ss) (kill : List Nat)   -- for t in x.values(): (x is forgotten, no return within)
  | zext (j i : Nat) (a b : E)                    -- for y in zip(a, b): x.extend(y)
  | pass | brk | cnt
  | raise (c : String)
inductive Ss where
  | nil
  | cons (s : S) (r : Ss)
end
def Es.of : List E → Es
  | [] => .nil
  | e :: r => .cons e (Es.of r)
def Ss.of : List S → Ss
  | [] => .nil
  | e :: r => .cons e (Ss.of r)
/-! ### frames -/
def get (e : Env) (i : Nat) : V := e.getD i .u
def killAll : List Nat → Env → Env
  | [], e => e
  | i :: r, e => (killAll r e).set i .u
def restore (old : Env) : List Nat → Env → Env
  | [], e => e
  | i :: r, e => (restore old r e).set i (get old i)
def viewV : V → Option D
  | .d x => some x
  | .c xs => some (.list xs)
  | _ => none
/-- an operand: a name (read when it is used), a value -/
inductive Opd where
  | x (i : Nat)
  | v (w : V)
def view (o : Opd) (e : Env) : Option D := match o with | .x i => viewV (get e i) | .v w => viewV w
def val (o : Opd) (e : Env) : V := match o with | .x i => get e i | .v w => w
/-- frozen -/
def settle : V → Option D
  | .d x => some x
  | .c xs => some (.list xs)
  | .k kvs => some (.dict (kvs.map fun p => (.int p.1, p.2)))
  | _ => none
mutual
def asgT : T → D → Env → Option Env
  | .n i, x, e => some (e.set i (.d x))
  | .p ts, x, e => match x with
    | .tuple xs => if xs.length = ts.length then asgTs ts xs e else none
    | .list xs => if xs.length = ts.length then asgTs ts xs e else none
    | _ => none
def asgTs : List T → List D → Env → Option Env
  | [], _, e => some e
  | t :: ts, x :: xs, e => (asgT t x e).bind fun e1 => asgTs ts xs e1
  | _ :: _, [], _ => none
end
def compL (f : D → Env → R (Option D × Env)) (own : List Nat) : List D → Env → R (List D × Env)
  | [], e => .ok ([], e)
  | x :: xs, e => (f x e).bind fun p => (compL f own xs (killAll own p.2)).bind fun q => .ok (p.1.toList ++ q.1, q.2)
def forL (f : D → Env → SR) (kill : List Nat) : List D → Env → SR
  | [], e => .nx e
  | x :: xs, e => match f x e with
    | .nx e1 => forL f kill xs (killAll kill e1)
    | .ct e1 => forL f kill xs (killAll kill e1)
    | .bk e1 => .nx (killAll kill e1)
    | .rt v e1 => .rt v e1
    | .exc c => .exc c
    | .bad => .bad
def whileL (t : Env → R (Bool × Env)) (f : Env → SR) (kill : List Nat) : Nat → Env → SR
  | 0, _ => .bad
  | n + 1, e => SR.ofR (t e) fun p => if p.1 then (match f p.2 with
    | .nx e1 => whileL t f kill n (killAll kill e1)
    | .ct e1 => whileL t f kill n (killAll kill e1)
    | .bk e1 => .nx (killAll kill e1)
    | .rt v e1 => .rt v e1
    | .exc c => .exc c
    | .bad => .bad) else .nx p.2
def rangeD (a : Int) (n : Nat) (c : Int) : List D := (List.range n).map fun (i : Nat) => .int (a + (i : Int) * c)
def rgOk (a b : Int) : Bool := decide (-(2 ^ 62) ≤ a ∧ a < 2 ^ 62 ∧ -(2 ^ 62) ≤ b ∧ b < 2 ^ 62)
def range2 (a b : D) : Option (List D) :=
  match a, b with
  | .int i, .int j => if rgOk i j && decide ((j - i).toNat ≤ lim) then some (rangeD i (j - i).toNat 1) else none
  | _, _ => none
def range3 (a b c : D) : Option (List D) :=
  match a, b, c with
  | .int i, .int j, .int k => if decide (k ≠ 0 ∧ k.natAbs < 1073741824) && Builtin.Range.small i j k && decide (0 ≤ Builtin.Range.rangeSize i j k ∧ (Builtin.Range.rangeSize i j k).toNat ≤ lim) then some (rangeD i (Builtin.Range.rangeSize i j k).toNat k) else none
  | _, _, _ => none
def zipD (a b : D) : Option (List D) := (seqOf a).bind fun xs => (seqOf b).map fun ys => List.zipWith (fun x y => .tuple [x, y]) xs ys
def enumFrom (n : Nat) : List D → List D
  | [] => []
  | x :: r => .tuple [.int n, x] :: enumFrom (n + 1) r
def enumD (a : D) : Option (List D) := (seqOf a).map (enumFrom 0)
/-! ### dicts whose keys are whole numbers -/
def dGet : List (Int × D) → Int → Option D
  | [], _ => none
  | p :: r, j => if p.1 = j then some p.2 else dGet r j
def dPut (kvs : List (Int × D)) (j : Int) (x : D) : List (Int × D) := if (dGet kvs j).isSome then kvs.map (fun p => if p.1 = j then (p.1, x) else p) else kvs ++ [(j, x)]
def pairKV : D → Option (Int × D)
  | .tuple [.int k, v] => some (k, v)
  | _ => none
def pairsKV : List D → Option (List (Int × D))
  | [] => some []
  | x :: r => (pairKV x).bind fun a => (pairsKV r).map (a :: ·)
def dMerge (kvs more : List (Int × D)) : List (Int × D) := more.foldl (fun acc p => dPut acc p.1 p.2) kvs
def isKd : V → Bool | .k _ => true | _ => false
/-- dicts of lists -/
def gHas : List (Int × List D) → Int → Bool
  | [], _ => false
  | p :: r, j => decide (p.1 = j) || gHas r j
def gApp : List (Int × List D) → Int → D → List (Int × List D)
  | [], j, x => [(j, [x])]
  | p :: r, j, x => if p.1 = j then (p.1, p.2 ++ [x]) :: r else p :: gApp r j x
def asG : V → Option (List (Int × List D))
  | .k [] => some []
  | .g gs => some gs
  | _ => none
/-- a dict of lists stays as it is from here on -/
def sealE (e : List V) (i : Nat) : List V := match e.getD i .u with
  | .g gs => e.set i (.k (gs.map fun p => (p.1, .list p.2)))
  | _ => e
/-! ### dicts whose keys are tuples of whole numbers -/
def tGet : List (List Int × D) → List Int → Option D
  | [], _ => none
  | p :: r, j => if p.1 = j then some p.2 else tGet r j
def tPut (kvs : List (List Int × D)) (j : List Int) (x : D) : List (List Int × D) := if (tGet kvs j).isSome then kvs.map (fun p => if p.1 = j then (p.1, x) else p) else kvs ++ [(j, x)]
def tAt (v : V) (x : D) : Option (List (List Int × D) × List Int) :=
  match v, x with
  | .t kts, .tuple ks => (intsOf ks).map fun k => (kts, k)
  | _, _ => none
/-- a slot's dict, and a key -/
def dAt (v : V) (x : D) : Option (List (Int × D) × Int) :=
  match v, x with
  | .k kvs, .int j => some (kvs, j)
  | _, _ => none
/-! ### calls -/
/-- the names of the module's own constants, as the table of defs has them -/
def isCon (f : String) : Option String := if f = "const ONE_SWITCH" then some "ONE_SWITCH" else none
abbrev Orc := String → List V → R (V × List V)
/-- no list of one's own is handed in twice -/
def isOwn : V → Bool | .c _ => true | .k _ => true | .g _ => true | .t _ => true | _ => false
def isG : V → Bool | .g _ => true | _ => false
def isC : V → Bool | .c _ => true | _ => false
@[simp] theorem isG_d (x : D) : isG (.d x) = false := rfl
@[simp] theorem isG_c (x : List D) : isG (.c x) = false := rfl
@[simp] theorem isG_k (x : List (Int × D)) : isG (.k x) = false := rfl
@[simp] theorem isG_u : isG .u = false := rfl
@[simp] theorem isG_t (x : List (List Int × D)) : isG (.t x) = false := rfl
def isTd : V → Bool | .t _ => true | _ => false
def isU : V → Bool | .u => true | .g _ => true | _ => false
def apart (e : Env) : List Opd → Bool
  | [] => true
  | .x i :: r => (!isOwn (get e i) || !r.any fun o => match o with | .x j => i == j | _ => false) && apart e r
  | .v _ :: r => apart e r
def putBack (e0 : Env) : List Opd → List V → Env → Env
  | .x i :: r, o :: os, e => putBack e0 r os (if isOwn (get e0 i) then e.set i o else e)
  | .v _ :: r, _ :: os, e => putBack e0 r os e
  | _, _, e => e
/-- a dict handed in by name does not come back as a dict of lists -/
def okOuts (e : Env) : List Opd → List V → Bool
  | .x i :: r, o :: os => (!isOwn (get e i) || !isG o) && okOuts e r os
  | .v _ :: r, _ :: os => okOuts e r os
  | _, _ => true
def okL (e : Env) (os : List Opd) (outs : List V) : Bool := Nat.beq outs.length os.length && okOuts e os outs
theorem okL_inv {e : Env} {os : List Opd} {outs : List V} (h : okL e os outs = true) : outs.length = os.length ∧ okOuts e os outs = true := by
  unfold okL at h
  rw [Bool.and_eq_true] at h
  exact ⟨Nat.eq_of_beq_eq_true h.1, h.2⟩
def callE (φ : Orc) (f : String) (os : List Opd) (e : Env) : R (V × Env) :=
  if apart e os && !(os.any fun o => isU (val o e)) then (φ f (os.map (val · e))).bind fun p => if okL e os p.2 = true then .ok (p.1, putBack e os p.2 e) else .bad else .bad
def popAt (xs : List D) (i : Int) : Option (D × List D) :=
  if -(2 ^ 63) ≤ i ∧ i < 2 ^ 63 then (ixN xs.length i).bind fun j => (xs[j]?).map fun x => (x, xs.eraseIdx j) else none
def ret1 (o : Option V) (e : Env) : R (V × Env) := match o with | some v => .ok (v, e) | none => .bad
/-- an operand: a name is looked up when it is used -/
def opW (r : Env → R (V × Env)) (a : E) (e : Env) : R (Opd × Env) :=
  match a with
  | .var i => if isU (get e i) then .bad else .ok (.x i, e)
  | _ => (r e).bind fun p => .ok (.v p.1, p.2)
/-- a datum that stays -/
def daW (r : Env → R (V × Env)) (e : Env) : R (D × Env) := (r e).bind fun p => (R.ofO (settle p.1)).bind fun x => .ok (x, p.2)
def repOk (n : Nat) (j : Int) : Bool := decide (n ≤ lim ∧ -(2 ^ 63) ≤ j ∧ j < 2 ^ 63 ∧ n * j.toNat ≤ lim)
def repR (tp : Bool) (xs : List D) (y : D) (e : Env) : R (V × Env) := match y with
  | .int j => if repOk xs.length j then (if tp then .bad else .ok (.c (List.replicate j.toNat xs).flatten, e)) else .bad
  | _ => .bad
mutual
def evalE (φ : Orc) : E → Env → R (V × Env)
  | .var i, e => match get e i with
    | .d x => .ok (.d x, e)
    | .c xs => .ok (.d (.list xs), e.set i (.d (.list xs)))
    | _ => .bad
  | .mv i, e => match get e i with
    | .d x => .ok (.d x, e)
    | .c xs => .ok (.c xs, e.set i .u)
    | _ => .bad
  | .non, e => .ok (.d .none, e)
  | .bl b, e => .ok (.d (.bool b), e)
  | .int i, e => .ok (.d (.int i), e)
  | .str s, e => .ok (.d (.str (Str.ofString s)), e)
  | .tup es, e => (evalDs φ es e).bind fun p => if p.1.length ≤ lim then .ok (.d (.tuple p.1), p.2) else .bad
  | .lst es, e => (evalDs φ es e).bind fun p => if p.1.length ≤ lim then .ok (.c p.1, p.2) else .bad
  | .rep tp es a, e => (evalDs φ es e).bind fun p => (opW (evalE φ a) a p.2).bind fun q => (R.ofO (view q.1 q.2)).bind fun y => repR tp p.1 y q.2
  | .o1 o a, e => (opW (evalE φ a) a e).bind fun p => (R.ofO (view p.1 p.2)).bind fun x => ret1 (op1 o x) p.2
  | .o2 o a b, e => (opW (evalE φ a) a e).bind fun p => (opW (evalE φ b) b p.2).bind fun q => (R.ofO (view p.1 q.2)).bind fun x => (R.ofO (view q.1 q.2)).bind fun y => ret1 (op2 o x y) q.2
  | .slice a lo hi, e => (opW (evalE φ a) a e).bind fun p => (evalPart φ lo p.2).bind fun q => (evalPart φ hi q.2).bind fun r =>
      (R.ofO (view p.1 r.2)).bind fun x => ret1 (sliceD x q.1 r.1) r.2
  | .index a b, e => (opW (evalE φ a) a e).bind fun p => (R.ofO (view p.1 p.2)).bind fun x0 => (R.ofO (seqOf x0)).bind fun _ => (opW (evalE φ b) b p.2).bind fun q =>
      (R.ofO (view p.1 q.2)).bind fun x => (R.ofO (view q.1 q.2)).bind fun y => if isL x0 = isL x then ret1 (indexD x y) q.2 else .bad
  | .count a b, e => (opW (evalE φ a) a e).bind fun p => (R.ofO (view p.1 p.2)).bind fun x0 => (opW (evalE φ b) b p.2).bind fun q =>
      (R.ofO (view p.1 q.2)).bind fun x => (R.ofO (view q.1 q.2)).bind fun y => if isL x0 = true ∧ isL x = true then ret1 (countD x y) q.2 else .bad
  | .chain o o' a b c, e => (opW (evalE φ a) a e).bind fun p => (opW (evalE φ b) b p.2).bind fun q => (R.ofO (view p.1 q.2)).bind fun x => (R.ofO (view q.1 q.2)).bind fun y =>
      match op2 o x y with
      | some (.d (.bool true)) => (opW (evalE φ c) c q.2).bind fun r => (R.ofO (view q.1 r.2)).bind fun y1 => (R.ofO (view r.1 r.2)).bind fun z => ret1 (op2 o' y1 z) r.2
      | some (.d (.bool false)) => .ok (.d (.bool false), q.2)
      | _ => .bad
  | .not a, e => (evalT φ a e).bind fun p => .ok (.d (.bool (!p.1)), p.2)
  | .and a b, e => (daW (evalE φ a) e).bind fun p => match truth p.1 with | some true => evalE φ b p.2 | some false => .ok (.d p.1, p.2) | none => .bad
  | .or a b, e => (daW (evalE φ a) e).bind fun p => match truth p.1 with | some true => .ok (.d p.1, p.2) | some false => evalE φ b p.2 | none => .bad
  | .ite t a b, e => (evalT φ t e).bind fun p => if p.1 then evalE φ a p.2 else evalE φ b p.2
  | .call f as, e => (evalOs φ as e).bind fun p => callE φ f p.1 p.2
  | .comp own t s cond elt, e => (evalSrc φ s e).bind fun p => if lim < p.1.length then .bad else
      (compL (fun x e1 => (R.ofO (asgT t x e1)).bind fun e2 => (evalC φ cond e2).bind fun q => if q.1 then (daW (evalE φ elt) q.2).bind fun r => .ok (some r.1, r.2) else .ok (none, q.2))
        own p.1 (killAll own p.2)).bind fun q => .ok (.c q.1, restore p.2 own q.2)
  | .ofSrc tup s, e => (evalSrc φ s e).bind fun p => if tup then .ok (.d (.tuple p.1), p.2) else .ok (.c p.1, p.2)
  | .pop i a, e => if isC (get e i) then (opW (evalE φ a) a e).bind fun p => (R.ofO (view p.1 p.2)).bind fun x => (match get p.2 i, x with
    | .c xs, .int j => (match popAt xs j with | some r => .ok (.d r.1, p.2.set i (.c r.2)) | none => .bad)
    | _, _ => .bad) else .bad
  | .popl i, e => match get e i with
    | .c xs => (match xs[xs.length - 1]? with | some x => .ok (.d x, e.set i (.c xs.dropLast)) | none => .bad)
    | _ => .bad
  | .app i a, e => if isC (get e i) then (daW (evalE φ a) e).bind fun p => (match get p.2 i with
    | .c xs => if xs.length < lim then .ok (.d .none, p.2.set i (.c (xs ++ [p.1]))) else .bad
    | _ => .bad) else .bad
  | .ext i a, e => if isC (get e i) then (opW (evalE φ a) a e).bind fun p => (R.ofO (view p.1 p.2)).bind fun x => (match get p.2 i, x with
    | .c xs, .list ys => if xs.length + ys.length ≤ lim then .ok (.d .none, p.2.set i (.c (xs ++ ys))) else .bad
    | .c xs, .tuple ys => if xs.length + ys.length ≤ lim then .ok (.d .none, p.2.set i (.c (xs ++ ys))) else .bad
    | _, _ => .bad) else .bad
  | .dnew, e => .ok (.k [], e)
  | .dlit j x, e => .ok (.k [(j, .int x)], e)
  | .dof a, e => (daW (evalE φ a) e).bind fun p => match p.1 with
    | .list xs => (match pairsKV xs with | some kvs => .ok (.k (dMerge [] kvs), p.2) | none => .bad)
    | _ => .bad
  | .din b i a, e => (daW (evalE φ a) e).bind fun p => match dAt (get p.2 i) p.1 with
    | some q => .ok (.d (.bool ((dGet q.1 q.2).isSome == b)), p.2)
    | none => .bad
  | .dget i a, e0 => let e := sealE e0 i; if isKd (get e i) then (daW (evalE φ a) e).bind fun p => (match dAt (get p.2 i) p.1 with
    | some q => (match dGet q.1 q.2 with | some x => .ok (.d x, p.2) | none => .bad)
    | none => .bad) else .bad
  | .dgtd i a b, e => if isKd (get e i) then (daW (evalE φ a) e).bind fun p => (daW (evalE φ b) p.2).bind fun r => (match dAt (get r.2 i) p.1 with
    | some q => .ok (.d ((dGet q.1 q.2).getD r.1), r.2)
    | none => .bad) else .bad
  | .dsetd i a b, e => if isKd (get e i) then (daW (evalE φ a) e).bind fun p => (daW (evalE φ b) p.2).bind fun r => (match dAt (get r.2 i) p.1 with
    | some q => if q.1.length < lim then (match dGet q.1 q.2 with
      | some x => .ok (.d x, r.2)
      | none => .ok (.d r.1, r.2.set i (.k (dPut q.1 q.2 r.1)))) else .bad
    | none => .bad) else .bad
  | .dupd i a, e => if isKd (get e i) then (evalE φ a e).bind fun p => (match get p.2 i, p.1 with
    | .k kvs, .k more => if kvs.length + more.length ≤ lim then .ok (.d .none, p.2.set i (.k (dMerge kvs more))) else .bad
    | _, _ => .bad) else .bad
  | .gapp i a j, e => match asG (get e i) with
    | some _ => (daW (evalE φ a) e).bind fun p => (match asG (get p.2 i), p.1, get p.2 j with
      | some gs, .int k, .d x => if gs.length < 100000 ∧ (gs.all fun q => decide (q.2.length < 100000)) = true ∧ i ≠ j then .ok (.d .none, p.2.set i (.g (gApp gs k x))) else .bad
      | _, _, _ => .bad)
    | none => .bad
  | .dsort i, e => match get e i with
    | .k kvs => if kvs.length < 64 then .ok (.c ((sortI (kvs.map (·.1))).map .int), e) else .bad
    | _ => .bad
  | .sstep a lo k, e => (opW (evalE φ a) a e).bind fun p => (daW (evalE φ lo) p.2).bind fun q => (R.ofO (view p.1 q.2)).bind fun x => match x, q.1 with
    | .list xs, .int i => if 0 ≤ i ∧ i ≤ (xs.length : Int) ∧ 0 < k then .ok (.c (pickK xs i.toNat k), q.2) else .bad
    | _, _ => .bad
  | .tnew, e => .ok (.t [], e)
  | .tin b i a, e => if isTd (get e i) then (daW (evalE φ a) e).bind fun p => match tAt (get p.2 i) p.1 with
    | some q => .ok (.d (.bool ((tGet q.1 q.2).isSome == b)), p.2)
    | none => .bad else .bad
  | .tget i a, e => if isTd (get e i) then (daW (evalE φ a) e).bind fun p => (match tAt (get p.2 i) p.1 with
    | some q => (match tGet q.1 q.2 with | some x => .ok (.d x, p.2) | none => .bad)
    | none => .bad) else .bad
  | .tgtd i a b, e => if isTd (get e i) then (daW (evalE φ a) e).bind fun p => (daW (evalE φ b) p.2).bind fun r => (match tAt (get r.2 i) p.1 with
    | some q => .ok (.d ((tGet q.1 q.2).getD r.1), r.2)
    | none => .bad) else .bad
def evalT (φ : Orc) : Te → Env → R (Bool × Env)
  | .not a, e => (evalT φ a e).bind fun p => .ok (!p.1, p.2)
  | .and a b, e => (evalT φ a e).bind fun p => if p.1 then evalT φ b p.2 else .ok (false, p.2)
  | .or a b, e => (evalT φ a e).bind fun p => if p.1 then .ok (true, p.2) else evalT φ b p.2
  | .ite t a b, e => (evalT φ t e).bind fun p => if p.1 then evalT φ a p.2 else evalT φ b p.2
  | .e a, e => (opW (evalE φ a) a e).bind fun p => (R.ofO (view p.1 p.2)).bind fun x => (R.ofO (truth x)).bind fun b => .ok (b, p.2)
def evalC (φ : Orc) : Co → Env → R (Bool × Env)
  | .no, e => .ok (true, e)
  | .yes a, e => evalT φ a e
def evalPart (φ : Orc) : Eo → Env → R (Option Int × Env)
  | .no, e => .ok (none, e)
  | .yes a, e => (daW (evalE φ a) e).bind fun p => match p.1 with | .int i => .ok (some i, p.2) | _ => .bad
def evalDs (φ : Orc) : Es → Env → R (List D × Env)
  | .nil, e => .ok ([], e)
  | .cons a r, e => (daW (evalE φ a) e).bind fun p => (evalDs φ r p.2).bind fun q => .ok (p.1 :: q.1, q.2)
def evalOs (φ : Orc) : Es → Env → R (List Opd × Env)
  | .nil, e => .ok ([], e)
  | .cons a r, e => (opW (evalE φ a) a e).bind fun p => (evalOs φ r p.2).bind fun q => .ok (p.1 :: q.1, q.2)
def evalSrc (φ : Orc) : Src → Env → R (List D × Env)
  | .seq a, e => (daW (evalE φ a) e).bind fun p => (R.ofO (seqOf p.1)).bind fun xs => .ok (xs, p.2)
  | .rng1 a, e => (daW (evalE φ a) e).bind fun p => (R.ofO (range2 (.int 0) p.1)).bind fun xs => .ok (xs, p.2)
  | .rng2 a b, e => (daW (evalE φ a) e).bind fun p => (daW (evalE φ b) p.2).bind fun q => (R.ofO (range2 p.1 q.1)).bind fun xs => .ok (xs, q.2)
  | .rng3 a b c, e => (daW (evalE φ a) e).bind fun p => (daW (evalE φ b) p.2).bind fun q => (daW (evalE φ c) q.2).bind fun r => (R.ofO (range3 p.1 q.1 r.1)).bind fun xs => .ok (xs, r.2)
  | .zip2 a b, e => (daW (evalE φ a) e).bind fun p => (daW (evalE φ b) p.2).bind fun q => (R.ofO (zipD p.1 q.1)).bind fun xs => .ok (xs, q.2)
  | .enum a, e => (daW (evalE φ a) e).bind fun p => (R.ofO (enumD p.1)).bind fun xs => .ok (xs, p.2)
end
/-! ### the loop of a comprehension -/
def stepC (φ : Orc) (t : T) (cond : Co) (a : E) : D → Env → R (Option D × Env) := fun x e1 => (R.ofO (asgT t x e1)).bind fun e2 => (evalC φ cond e2).bind fun q => if q.1 then (daW (evalE φ a) q.2).bind fun r => .ok (some r.1, r.2) else .ok (none, q.2)
theorem evalE_comp {φ : Orc} {own : List Nat} {t : T} {s : Src} {cond : Co} {a : E} {e : Env} : evalE φ (.comp own t s cond a) e = (evalSrc φ s e).bind fun p => if lim < p.1.length then .bad else (compL (stepC φ t cond a) own p.1 (killAll own p.2)).bind fun q => .ok (.c q.1, restore p.2 own q.2) := by
  simp only [evalE]
  rfl
def fuel : Nat := 1000000000
def itemsT : D → List D
  | .tuple xs => xs
  | _ => []
def setC (e : Env) (i : Nat) (x v : D) : Option Env :=
  match get e i, x with
  | .c xs, .int k => (ixN xs.length k).map fun j => e.set i (.c (xs.set j v))
  | _, _ => none
/-- goes on, or nothing -/
def SR.noRt : SR → SR
  | .nx e => .nx e
  | _ => .bad
mutual
def exec (φ : Orc) : S → Env → SR
  | .asg i a, e => SR.ofR (evalE φ a e) fun p => .nx (p.2.set i p.1)
  | .asgT t a, e => SR.ofR (daW (evalE φ a) e) fun p => match asgT t p.1 p.2 with | some e1 => .nx e1 | none => .bad
  | .aug i o a, e => match get e i with
    | .d (.int x) => SR.ofR (daW (evalE φ a) e) fun p => (match p.1 with | .int y => if o = .add then .nx (p.2.set i (.d (.int (x + y)))) else .bad | _ => .bad)
    | _ => .bad
  | .st i ix a, e => SR.ofR (daW (evalE φ a) e) fun p => if isC (get p.2 i) then SR.ofR (daW (evalE φ ix) p.2) fun q => (match setC q.2 i q.1 p.1 with | some e1 => .nx e1 | none => .bad) else .bad
  | .st2 i ix j jx a b, e => SR.ofR (daW (evalE φ a) e) fun p => SR.ofR (daW (evalE φ b) p.2) fun q => if isC (get q.2 i) then SR.ofR (daW (evalE φ ix) q.2) fun r => (match setC r.2 i r.1 p.1 with
    | some e1 => if isC (get e1 j) then SR.ofR (daW (evalE φ jx) e1) fun s => (match setC s.2 j s.1 q.1 with | some e2 => .nx e2 | none => .bad) else .bad
    | none => .bad) else .bad
  | .dst i ix a, e => SR.ofR (daW (evalE φ a) e) fun p => if isKd (get p.2 i) then SR.ofR (daW (evalE φ ix) p.2) fun r => (match dAt (get r.2 i) r.1 with
    | some q => if q.1.length < lim then .nx (r.2.set i (.k (dPut q.1 q.2 p.1))) else .bad
    | none => .bad) else .bad
  | .tst i ix a, e => SR.ofR (daW (evalE φ a) e) fun p => if isTd (get p.2 i) then SR.ofR (daW (evalE φ ix) p.2) fun r => (match tAt (get r.2 i) r.1 with
    | some q => if q.1.length < lim then .nx (r.2.set i (.t (tPut q.1 q.2 p.1))) else .bad
    | none => .bad) else .bad
  | .ex a, e => SR.ofR (evalE φ a e) fun p => .nx p.2
  | .ret a, e => SR.ofR (evalE φ a e) fun p => .rt p.1 p.2
  | .retN, e => .rt (.d .none) e
  | .iff t a b, e => SR.ofR (evalT φ t e) fun p => if p.1 then execs φ a p.2 else execs φ b p.2
  | .forr t s b kill, e => SR.ofR (evalSrc φ s e) fun p => forL (fun x e1 => match asgT t x e1 with | some e2 => execs φ b e2 | none => .bad) kill p.1 p.2
  | .whil t b kill, e => whileL (evalT φ t) (execs φ b) kill fuel e
  | .forv t i b kill, e => match get (sealE e i) i with
    | .k kvs => (forL (fun x e1 => match asgT t x e1 with | some e2 => execs φ b e2 | none => .bad) kill (kvs.map (·.2)) ((sealE e i).set i .u)).noRt
    | _ => .bad
  | .zext j i a b, e => SR.ofR (evalSrc φ (.zip2 a b) e) fun p => match get p.2 i with
    | .c ys => if i ≠ j ∧ ys.length + (p.1.flatMap itemsT).length ≤ lim then .nx ((p.2.set i (.c (ys ++ p.1.flatMap itemsT))).set j .u) else .bad
    | _ => .bad
  | .pass, e => .nx e
  | .brk, e => .bk e
  | .cnt, e => .ct e
  | .raise c, _ => .exc c
def execs (φ : Orc) : Ss → Env → SR
  | .nil, e => .nx e
  | .cons s r, e => (exec φ s e).seq (execs φ r)
end
/-! ### defs -/
structure FDef where
  np : Nat
  nv : Nat
  /-- the parameters that the body stores anew -/
  wp : List Nat
  body : Ss
abbrev Tab := String → Option FDef
def endF (fd : FDef) : SR → R (V × List V)
  | .rt v e => .ok (v, killAll fd.wp (e.take fd.np))
  | .nx e => .ok (.d .none, killAll fd.wp (e.take fd.np))
  | .exc c => .exc c
  | _ => .bad
def callF (T : Tab) : Nat → Orc
  | 0, _, _ => .bad
  | n + 1, f, as => match T f with
    | some fd => if as.length = fd.np then endF fd (execs (callF T n) fd.body (as ++ List.replicate (fd.nv - fd.np) .u)) else .bad
    | none => .bad
end Sw
end T_SwA
section T_SwB
set_option autoImplicit false
set_option linter.all false
set_option Elab.async false
set_option maxRecDepth 100000
/-! SwB: what a frame of the core says of the model's state. -/
namespace Sw
open PySem L2
abbrev Frag := PySem.W.Frag
/-- a tuple whose object is known, and has no dict -/
def TupX (K : Frag) (H : Hp) (a : Addr) (xs : List L2.V) : Prop :=
  (∃ o, H a = some (.frz o (.tup xs)) ∧ o.dict = none) ∨
    ∃ (o : Obj) (its : Array Value) (n : Nat), K.lookup a = some o ∧ o.cls = .type "tuple" ∧ o.dict = none ∧ o.data = .seq its n ∧ its.size ≤ sizeLine ∧ Vals xs its.toList
theorem TupX.sq {K : Frag} {H : Hp} {a : Addr} {xs : List L2.V} (h : TupX K H a xs) : SqT K H a xs := by
  rcases h with ⟨o, h, _⟩ | ⟨o, its, n, h1, h2, _, h3, h4, h5⟩
  · exact .inl (.inr ⟨o, h⟩)
  · exact .inr ⟨o, its, n, h1, h2, h3, h4, h5⟩
mutual
/-- a value stands for a datum -/
inductive Rp (K : Frag) (H : Hp) : L2.V → D → Prop
  | non : Rp K H .non .none
  | bl (b : Bool) : Rp K H (.bl b) (.bool b)
  | int (i : Int) : Rp K H (.int i) (.int i)
  | str (x : Str) : Rp K H (.str x) (.str x)
  | lst {a : Addr} {vs : List L2.V} {ds : List D} : SqL K H a vs → RpAll K H vs ds → Rp K H (.ref a) (.list ds)
  | tup {a : Addr} {vs : List L2.V} {ds : List D} : TupX K H a vs → RpAll K H vs ds → Rp K H (.ref a) (.tuple ds)
  | dct {a : Addr} {kv : List (Key × L2.V)} {ds : List (D × D)} : H a = some (.dK kv) → Rp K H (.ref a) (.dict ds)
inductive RpAll (K : Frag) (H : Hp) : List L2.V → List D → Prop
  | nil : RpAll K H [] []
  | cons {v : L2.V} {vs : List L2.V} {d : D} {ds : List D} : Rp K H v d → RpAll K H vs ds → RpAll K H (v :: vs) (d :: ds)
end
section
variable {K : Frag} {H : Hp}
mutual
theorem Rp.dp : ∀ (d : D) (v : L2.V), d.canLay0 = true → Rp K H v d → L2.Dp K H v d
  | .none, _, _, r => by cases r; exact .non
  | .bool b, _, _, r => by cases r; exact .bl b
  | .int i, _, _, r => by cases r; exact .int i
  | .str x, _, _, r => by cases r; exact .str x
  | .list ds, _, h, r => by cases r with | lst h1 h2 => exact .lst h1 (Rp.dps ds _ h h2)
  | .tuple ds, _, h, r => by cases r with | tup h1 h2 => exact .tup h1.sq (Rp.dps ds _ h h2)
  | .dict _, _, h, _ => by cases h
theorem Rp.dps : ∀ (ds : List D) (vs : List L2.V), PyData.canLayAll0 ds = true → RpAll K H vs ds → L2.DpAll K H vs ds
  | [], _, _, r => by cases r; exact .nil
  | d :: ds, _, h, r => by
    have h : (d.canLay0 && PyData.canLayAll0 ds) = true := h
    rw [Bool.and_eq_true] at h
    cases r with | cons h1 h2 => exact .cons (Rp.dp d _ h.1 h1) (Rp.dps ds _ h.2 h2)
end
end
theorem lay_of {d : D} (h : shapedB d = true) : d.canLay0 = true := by
  unfold shapedB at h
  rw [Bool.and_eq_true] at h
  exact h.1
theorem lim_eq : sizeLine = lim := rfl
/-! ### more of the heap -/
def Sub (F H : Hp) : Prop := ∀ a o, F a = some o → H a = some o
theorem Sub.refl (F : Hp) : Sub F F := fun _ _ h => h
theorem Sub.trans {F G H : Hp} (h1 : Sub F G) (h2 : Sub G H) : Sub F H := fun a o h => h2 a o (h1 a o h)
theorem Sub.rd {F H : Hp} (h : Sub F H) {a : Addr} {u : HO} (r : Rd F a u) : Rd H a u := by
  rcases r with r | ⟨o, r⟩
  · exact .inl (h _ _ r)
  · exact .inr ⟨o, h _ _ r⟩
theorem Sub.sqL {K : Frag} {F H : Hp} (h : Sub F H) {a : Addr} {xs : List L2.V} (r : SqL K F a xs) : SqL K H a xs := by
  rcases r with r | r
  · exact .inl (h.rd r)
  · exact .inr r
theorem Sub.sqT {K : Frag} {F H : Hp} (h : Sub F H) {a : Addr} {xs : List L2.V} (r : SqT K F a xs) : SqT K H a xs := by
  rcases r with r | r
  · exact .inl (h.rd r)
  · exact .inr r
theorem Sub.tupX {K : Frag} {F H : Hp} (h : Sub F H) {a : Addr} {xs : List L2.V} (r : TupX K F a xs) : TupX K H a xs := by
  rcases r with ⟨o, r, d⟩ | r
  · exact .inl ⟨o, h _ _ r, d⟩
  · exact .inr r
section
variable {K : Frag} {F H : Hp}
mutual
theorem Sub.rp (h : Sub F H) : ∀ (d : D) (v : L2.V), Rp K F v d → Rp K H v d
  | .none, _, r => by cases r; exact .non
  | .bool b, _, r => by cases r; exact .bl b
  | .int i, _, r => by cases r; exact .int i
  | .str x, _, r => by cases r; exact .str x
  | .list ds, _, r => by
    cases r with
    | lst h1 h2 => exact .lst (h.sqL h1) (Sub.rpAll h ds _ h2)
  | .tuple ds, _, r => by
    cases r with
    | tup h1 h2 => exact .tup (h.tupX h1) (Sub.rpAll h ds _ h2)
  | .dict _, _, r => by
    cases r with
    | dct h1 => exact .dct (h _ _ h1)
theorem Sub.rpAll (h : Sub F H) : ∀ (ds : List D) (vs : List L2.V), RpAll K F vs ds → RpAll K H vs ds
  | [], _, r => by cases r; exact .nil
  | d :: ds, _, r => by
    cases r with
    | cons h1 h2 => exact .cons (Sub.rp h d _ h1) (Sub.rpAll h ds _ h2)
end
end
section
variable {K : Frag} {F : Hp}
theorem rpAll_len {vs : List L2.V} {ds : List D} (h : RpAll K F vs ds) : vs.length = ds.length := by
  induction ds generalizing vs with
  | nil => cases h; rfl
  | cons d ds ih => cases h with | cons h1 h2 => simp [ih h2]
theorem rpAll_get {vs : List L2.V} {ds : List D} (h : RpAll K F vs ds) : ∀ {i : Nat} {d : D}, ds[i]? = some d → ∃ v, vs[i]? = some v ∧ Rp K F v d := by
  induction ds generalizing vs with
  | nil => intro i d e; simp at e
  | cons d ds ih =>
    cases h with
    | cons h1 h2 =>
      intro i d e
      cases i with
      | zero => simp at e; subst e; exact ⟨_, rfl, h1⟩
      | succ i => simpa using ih h2 (by simpa using e)
theorem rpAll_get' {vs : List L2.V} {ds : List D} (h : RpAll K F vs ds) {i : Nat} {v : L2.V} (e : vs[i]? = some v) : ∃ d, ds[i]? = some d ∧ Rp K F v d := by
  have hl := rpAll_len h
  have hi : i < ds.length := by rw [← hl]; exact (List.getElem?_eq_some_iff.mp e).1
  obtain ⟨v', e', r⟩ := rpAll_get h (List.getElem?_eq_getElem hi)
  rw [e] at e'; cases e'
  exact ⟨_, List.getElem?_eq_getElem hi, r⟩
theorem rpAll_app {vs ws : List L2.V} {ds es : List D} (h : RpAll K F vs ds) (g : RpAll K F ws es) : RpAll K F (vs ++ ws) (ds ++ es) := by
  induction ds generalizing vs with
  | nil => cases h; exact g
  | cons d ds ih => cases h with | cons h1 h2 => exact .cons h1 (ih h2)
theorem rpAll_of {vs : List L2.V} {ds : List D} (hl : vs.length = ds.length) (h : ∀ (i : Nat) (v : L2.V) (d : D), vs[i]? = some v → ds[i]? = some d → Rp K F v d) : RpAll K F vs ds := by
  induction ds generalizing vs with
  | nil => cases vs with | nil => exact .nil | cons _ _ => simp at hl
  | cons d ds ih =>
    cases vs with
    | nil => simp at hl
    | cons v vs => exact .cons (h 0 v d rfl rfl) (ih (by simpa using hl) fun i w e h1 h2 => h (i + 1) w e (by simpa using h1) (by simpa using h2))
theorem rpAll_ints {ns : List Int} : RpAll K F (ns.map L2.V.int) (ns.map PyData.int) := by
  induction ns with
  | nil => exact .nil
  | cons n ns ih => exact .cons (.int n) ih
theorem ints_eq : ∀ {ds : List D} {ns : List Int}, intsOf ds = some ns → ds = ns.map .int
  | [], _, h => by simp [intsOf] at h; subst h; rfl
  | .int i :: r, _, h => by
    simp only [intsOf, Option.map_eq_some_iff] at h
    obtain ⟨a, h1, rfl⟩ := h
    rw [ints_eq h1]; rfl
  | .none :: _, _, h => by simp [intsOf] at h
  | .bool _ :: _, _, h => by simp [intsOf] at h
  | .str _ :: _, _, h => by simp [intsOf] at h
  | .list _ :: _, _, h => by simp [intsOf] at h
  | .tuple _ :: _, _, h => by simp [intsOf] at h
  | .dict _ :: _, _, h => by simp [intsOf] at h
theorem vs_ints {vs : List L2.V} {ns : List Int} (h : RpAll K F vs (ns.map .int)) : vs = ns.map L2.V.int := by
  induction ns generalizing vs with
  | nil => cases h; rfl
  | cons n ns ih => cases h with | cons h1 h2 => cases h1; rw [ih h2]; rfl
theorem bools_eq : ∀ {ds : List D} {bs : List Bool}, boolsOf ds = some bs → ds = bs.map .bool
  | [], _, h => by simp [boolsOf] at h; subst h; rfl
  | .bool i :: r, _, h => by
    simp only [boolsOf, Option.map_eq_some_iff] at h
    obtain ⟨a, h1, rfl⟩ := h
    rw [bools_eq h1]; rfl
  | .none :: _, _, h => by simp [boolsOf] at h
  | .int _ :: _, _, h => by simp [boolsOf] at h
  | .str _ :: _, _, h => by simp [boolsOf] at h
  | .list _ :: _, _, h => by simp [boolsOf] at h
  | .tuple _ :: _, _, h => by simp [boolsOf] at h
  | .dict _ :: _, _, h => by simp [boolsOf] at h
theorem vs_bools {vs : List L2.V} {ns : List Bool} (h : RpAll K F vs (ns.map .bool)) : vs = ns.map L2.V.bl := by
  induction ns generalizing vs with
  | nil => cases h; rfl
  | cons n ns ih => cases h with | cons h1 h2 => cases h1; rw [ih h2]; rfl
end
/-! ### a dict's items -/
inductive DkR (K : Frag) (F : Hp) : List (Key × L2.V) → List (Int × D) → Prop
  | nil : DkR K F [] []
  | cons {j : Int} {v : L2.V} {x : D} {kv : List (Key × L2.V)} {kvs : List (Int × D)} : Rp K F v x → DkR K F kv kvs → DkR K F ((.inl j, v) :: kv) ((j, x) :: kvs)
theorem Sub.dk {K : Frag} {F H : Hp} (h : Sub F H) {kv : List (Key × L2.V)} {kvs : List (Int × D)} (r : DkR K F kv kvs) : DkR K H kv kvs := by
  induction r with
  | nil => exact .nil
  | cons h1 _ ih => exact .cons (h.rp _ _ h1) ih
/-! ### a dict whose keys are tuples -/
def tH (ks : List Int) : Int := reduceHash (Builtin.Tuple.tupleHashOf (ks.map hashInt))
def TDat (xs : List (List Int × Addr × Value)) (a : Addr) (h : Heap) : Prop := ∃ o es ep, h.get? a = some o ∧ o.ExactDict ∧ o.data = .dict es ep ∧ es.toList = xs.map fun x => ⟨tH x.1, .ref x.2.1, x.2.2⟩
inductive TkR (K : Frag) (F : Hp) : List (List Int × Addr × Value) → List (List Int × D) → Prop
  | nil : TkR K F [] []
  | cons {ks : List Int} {b : Addr} {u : Value} {v : L2.V} {x : D} {xs : List (List Int × Addr × Value)} {kts : List (List Int × D)} : TupX K F b (ks.map L2.V.int) → RelV v u → Rp K F v x → TkR K F xs kts → TkR K F ((ks, b, u) :: xs) ((ks, x) :: kts)
theorem Sub.tk {K : Frag} {F H : Hp} (h : Sub F H) {xs : List (List Int × Addr × Value)} {kts : List (List Int × D)} (r : TkR K F xs kts) : TkR K H xs kts := by
  induction r with
  | nil => exact .nil
  | cons h1 h2 h3 _ ih => exact .cons (h.tupX h1) h2 (h.rp _ _ h3) ih
def TkOk (a : Addr) (kts : List (List Int × D)) : Prop := (a == sysModules) = false ∧ (kts.map (·.1)).Nodup
/-! ### frames -/
theorem get_set {e : Env} {i j : Nat} {v : V} : get (e.set i v) j = if j = i ∧ i < e.length then v else get e j := by
  unfold get
  rw [List.getD_eq_getElem?_getD, List.getD_eq_getElem?_getD, List.getElem?_set]
  by_cases h : i = j
  · subst h
    by_cases hl : i < e.length
    · simp [hl]
    · simp [hl]
  · have h' : ¬ (j = i ∧ i < e.length) := fun q => h q.1.symm
    simp [h, h']
theorem get_ge {e : Env} {i : Nat} (h : e.length ≤ i) : get e i = .u := by
  unfold get
  rw [List.getD_eq_getElem?_getD, List.getElem?_eq_none h]; rfl
/-! ### dicts of lists -/
inductive GkR (K : Frag) (F H : Hp) : List (Key × L2.V) → List (Int × List D) → Prop
  | nil : GkR K F H [] []
  | cons {j : Int} {b : Addr} {vs : List L2.V} {ds : List D} {kv : List (Key × L2.V)} {gs : List (Int × List D)} : H b = some (.lst vs) → F b = none → RpAll K F vs ds → (∀ k, (k, L2.V.ref b) ∉ kv) → GkR K F H kv gs → GkR K F H ((.inl j, .ref b) :: kv) ((j, ds) :: gs)
theorem GkR.mem {K : Frag} {F H : Hp} {kv : List (Key × L2.V)} {gs : List (Int × List D)} (r : GkR K F H kv gs) {k : Key} {b : Addr} (h : (k, L2.V.ref b) ∈ kv) : F b = none ∧ ∃ u, H b = some u := by
  induction r with
  | nil => cases h
  | cons h1 h2 _ _ _ ih =>
    rcases List.mem_cons.mp h with z | z
    · cases z; exact ⟨h2, _, h1⟩
    · exact ih z
theorem GkR.move {K : Frag} {F H F' H' : Hp} {kv : List (Key × L2.V)} {gs : List (Int × List D)} (r : GkR K F H kv gs) (g : Sub F F') (kH : ∀ b u k, (k, L2.V.ref b) ∈ kv → H b = some u → H' b = some u) (kF : ∀ b k, (k, L2.V.ref b) ∈ kv → F b = none → F' b = none) : GkR K F' H' kv gs := by
  induction r with
  | nil => exact .nil
  | cons h1 h2 h3 h4 _ ih => exact .cons (kH _ _ _ List.mem_cons_self h1) (kF _ _ List.mem_cons_self h2) (g.rpAll _ _ h3) h4 (ih (fun b u k h => kH b u k (List.mem_cons_of_mem _ h)) fun b k h => kF b k (List.mem_cons_of_mem _ h))
/-- an address that a slot holds for its own -/
def HasV (H : Hp) (v : V) (o : Option (Option L2.V)) (a : Addr) : Prop :=
  (isOwn v = true ∧ o = some (some (.ref a))) ∨ (isG v = true ∧ ∃ c kv k, o = some (some (.ref c)) ∧ H c = some (.dK kv) ∧ (k, L2.V.ref a) ∈ kv)
/-- an address is the frame's own -/
def Own (H : Hp) (σ : L2.St) (e : Env) (a : Addr) : Prop := ∃ i, HasV H (get e i) σ[i]? a
def SlotR (K : Frag) (F H : Hp) : V → Option (Option L2.V) → Prop
  | .u, _ => True
  | .d x, o => ∃ v, o = some (some v) ∧ Rp K F v x
  | .c xs, o => ∃ a vs, o = some (some (.ref a)) ∧ H a = some (.lst vs) ∧ F a = none ∧ RpAll K F vs xs
  | .k kvs, o => ∃ a kv, o = some (some (.ref a)) ∧ H a = some (.dK kv) ∧ F a = none ∧ DkR K F kv kvs
  | .g gs, o => ∃ a kv, o = some (some (.ref a)) ∧ H a = some (.dK kv) ∧ F a = none ∧ GkR K F H kv gs
  | .t kts, o => ∃ a xs, o = some (some (.ref a)) ∧ H a = some (.ext (TDat xs a)) ∧ F a = none ∧ TkR K F xs kts ∧ TkOk a kts
theorem HasV.not {H : Hp} {v : V} {o : Option (Option L2.V)} {a : Addr} (hv : isOwn v = false) : ¬ HasV H v o a := by
  rintro (⟨h, _⟩ | ⟨h, _⟩)
  · rw [hv] at h; cases h
  · cases v <;> first | (cases h; done) | (cases hv; done)
theorem SlotR.has {K : Frag} {F H : Hp} {v : V} {o : Option (Option L2.V)} (s : SlotR K F H v o) {a : Addr} (h : HasV H v o a) : F a = none ∧ ∃ u, H a = some u := by
  cases v with
  | u => exact absurd h (HasV.not rfl)
  | d x => exact absurd h (HasV.not rfl)
  | c xs =>
    obtain ⟨b, vs, h1, h2, h3, _⟩ := s
    rcases h with ⟨_, h⟩ | ⟨h, _⟩
    · rw [h1] at h; cases h; exact ⟨h3, _, h2⟩
    · cases h
  | k xs =>
    obtain ⟨b, vs, h1, h2, h3, _⟩ := s
    rcases h with ⟨_, h⟩ | ⟨h, _⟩
    · rw [h1] at h; cases h; exact ⟨h3, _, h2⟩
    · cases h
  | t xs =>
    obtain ⟨b, vs, h1, h2, h3, _⟩ := s
    rcases h with ⟨_, h⟩ | ⟨h, _⟩
    · rw [h1] at h; cases h; exact ⟨h3, _, h2⟩
    · cases h
  | g gs =>
    obtain ⟨b, vs, h1, h2, h3, h4⟩ := s
    rcases h with ⟨_, h⟩ | ⟨_, c, kv, k, g1, g2, g3⟩
    · rw [h1] at h; cases h; exact ⟨h3, _, h2⟩
    · rw [h1] at g1; cases g1
      rw [h2] at g2; cases g2
      exact h4.mem g3
theorem SlotR.move {K : Frag} {F H F' H' : Hp} {v : V} {o : Option (Option L2.V)} (s : SlotR K F H v o) (g : Sub F F') (kH : ∀ a u, HasV H v o a → H a = some u → H' a = some u) (kF : ∀ a, HasV H v o a → F a = none → F' a = none) : SlotR K F' H' v o := by
  cases v with
  | u => trivial
  | d x => obtain ⟨v, h1, h2⟩ := s; exact ⟨v, h1, g.rp _ _ h2⟩
  | c xs =>
    obtain ⟨b, vs, h1, h2, h3, h4⟩ := s
    have hb : HasV H (.c xs) o b := .inl ⟨rfl, h1⟩
    exact ⟨b, vs, h1, kH b _ hb h2, kF b hb h3, g.rpAll _ _ h4⟩
  | k xs =>
    obtain ⟨b, vs, h1, h2, h3, h4⟩ := s
    have hb : HasV H (.k xs) o b := .inl ⟨rfl, h1⟩
    exact ⟨b, vs, h1, kH b _ hb h2, kF b hb h3, g.dk h4⟩
  | t xs =>
    obtain ⟨b, vs, h1, h2, h3, h4, h5⟩ := s
    have hb : HasV H (.t xs) o b := .inl ⟨rfl, h1⟩
    exact ⟨b, vs, h1, kH b _ hb h2, kF b hb h3, g.tk h4, h5⟩
  | g gs =>
    obtain ⟨b, vs, h1, h2, h3, h4⟩ := s
    have hb : HasV H (.g gs) o b := .inl ⟨rfl, h1⟩
    have hn : ∀ c k, (k, L2.V.ref c) ∈ vs → HasV H (.g gs) o c := fun c k h => .inr ⟨rfl, b, vs, k, h1, h2, h⟩
    exact ⟨b, vs, h1, kH b _ hb h2, kF b hb h3, h4.move g (fun c u k h hu => kH c u (hn c k h) hu) fun c k h hu => kF c (hn c k h) hu⟩
theorem HasV.back {K : Frag} {F H H' : Hp} {v : V} {o : Option (Option L2.V)} {a : Addr} (s : SlotR K F H v o) (kH : ∀ a u, HasV H v o a → H a = some u → H' a = some u) (h : HasV H' v o a) : HasV H v o a := by
  rcases h with h | ⟨hg, c, kv, k, g1, g2, g3⟩
  · exact .inl h
  · cases v <;> first | (cases hg; done) | skip
    rename_i gs
    obtain ⟨b, vs, h1, h2, h3, h4⟩ := s
    rw [h1] at g1; cases g1
    have := kH _ _ (.inl ⟨rfl, h1⟩) h2
    rw [g2] at this; cases this
    exact .inr ⟨rfl, _, kv, k, h1, h2, g3⟩
structure Rel (K : Frag) (F H : Hp) (σ : L2.St) (e : Env) : Prop where
  sub : Sub F H
  slot : ∀ i, SlotR K F H (get e i) σ[i]?
  sep : ∀ i j a, HasV H (get e i) σ[i]? a → HasV H (get e j) σ[j]? a → i = j
theorem Rel.own {K : Frag} {F H : Hp} {σ : L2.St} {e : Env} (r : Rel K F H σ e) {a : Addr} (h : Own H σ e a) : F a = none ∧ ∃ o, H a = some o := by
  obtain ⟨i, h⟩ := h
  exact (r.slot i).has h
/-- the frame's own stays -/
theorem Rel.moved {K : Frag} {F H F' H' : Hp} {σ : L2.St} {e : Env} (r : Rel K F H σ e) (sb : Sub F' H') (g : Sub F F') (kH : ∀ a u, Own H σ e a → H a = some u → H' a = some u) (kF : ∀ a, Own H σ e a → F a = none → F' a = none) : Rel K F' H' σ e where
  sub := sb
  slot := fun i => (r.slot i).move g (fun a u h => kH a u ⟨i, h⟩) fun a h => kF a ⟨i, h⟩
  sep := fun i j a h1 h2 => r.sep i j a (h1.back (r.slot i) fun a u h => kH a u ⟨i, h⟩) (h2.back (r.slot j) fun a u h => kH a u ⟨j, h⟩)
theorem Rel.own_back {K : Frag} {F H H' : Hp} {σ : L2.St} {e : Env} (r : Rel K F H σ e) (kH : ∀ a u, Own H σ e a → H a = some u → H' a = some u) {a : Addr} (h : Own H' σ e a) : Own H σ e a := by
  obtain ⟨i, h⟩ := h
  exact ⟨i, h.back (r.slot i) fun a u h => kH a u ⟨i, h⟩⟩
theorem HasV.set {H : Hp} {σ : L2.St} {e : Env} {i j : Nat} {w : V} {a : Addr} (hi : i < e.length) (hw : isOwn w = false) (h : HasV H (get (e.set i w) j) σ[j]? a) : j ≠ i ∧ HasV H (get e j) σ[j]? a := by
  rw [get_set] at h
  split at h
  · exact absurd h (HasV.not hw)
  · rename_i z
    exact ⟨fun q => z ⟨q, hi⟩, h⟩
/-- what a step leaves -/
structure Post (K : Frag) (F H : Hp) (σ : L2.St) (e : Env) (F' H' : Hp) (σ' : L2.St) (e' : Env) : Prop where
  grow : Sub F F'
  rel : Rel K F' H' σ' e'
  keep : ∀ a o, H a = some o → ¬ Own H σ e a → H' a = some o
  new : ∀ a, F' a ≠ none → F a ≠ none ∨ H a = none ∨ Own H σ e a
  dom : ∀ a, H' a = none → H a = none
  own : ∀ a, Own H' σ' e' a → Own H σ e a ∨ H a = none
section
variable {K : Frag} {F H F1 H1 F2 H2 : Hp} {σ σ1 σ2 : L2.St} {e e1 e2 : Env}
theorem Post.refl (r : Rel K F H σ e) : Post K F H σ e F H σ e := ⟨Sub.refl _, r, fun _ _ h _ => h, fun _ h => .inl h, fun _ h => h, fun _ h => .inl h⟩
theorem Post.trans (p : Post K F H σ e F1 H1 σ1 e1) (q : Post K F1 H1 σ1 e1 F2 H2 σ2 e2) : Post K F H σ e F2 H2 σ2 e2 where
  grow := p.grow.trans q.grow
  rel := q.rel
  keep := fun a o h n => by
    refine q.keep a o (p.keep a o h n) fun h1 => ?_
    rcases p.own a h1 with z | z
    · exact n z
    · rw [h] at z; cases z
  new := fun a h => by
    rcases q.new a h with z | z | z
    · exact p.new a z
    · exact .inr (.inl (p.dom a z))
    · rcases p.own a z with z | z
      · exact .inr (.inr z)
      · exact .inr (.inl z)
  dom := fun a h => p.dom a (q.dom a h)
  own := fun a h => by
    rcases q.own a h with z | z
    · exact p.own a z
    · exact .inr (p.dom a z)
/-- a new object, not frozen -/
theorem Rel.fresh (r : Rel K F H σ e) {p : Addr} (hp : H p = none) (o : HO) : Rel K F (upd H p o) σ e :=
  r.moved (fun a u h => by rw [upd_ne (ne_of_none (r.sub a u h) hp)]; exact r.sub a u h) (Sub.refl _) (fun a u _ h => by rw [upd_ne (ne_of_none h hp)]; exact h) fun _ _ h => h
theorem Rel.fresh_not (r : Rel K F H σ e) {p : Addr} (hp : H p = none) (o : HO) : ¬ Own (upd H p o) σ e p := fun h => by
  have h := r.own_back (fun a u _ h => by rw [upd_ne (ne_of_none h hp)]; exact h) h
  obtain ⟨_, u, hu⟩ := r.own h
  rw [hp] at hu; cases hu
theorem Post.fresh (r : Rel K F H σ e) {p : Addr} (hp : H p = none) (o : HO) : Post K F H σ e F (upd H p o) σ e where
  grow := Sub.refl _
  rel := r.fresh hp o
  keep := fun a u h _ => by rw [upd_ne (ne_of_none h hp)]; exact h
  new := fun a h => .inl h
  dom := fun a h => by
    by_cases z : a = p
    · subst z; exact hp
    · rw [upd_ne z] at h; exact h
  own := fun a h => .inl (r.own_back (fun a u _ h => by rw [upd_ne (ne_of_none h hp)]; exact h) h)
theorem sub_upd {p : Addr} (hp : F p = none) (o : HO) : Sub F (upd F p o) := fun a u h => by rw [upd_ne (ne_of_none h hp)]; exact h
/-- a new object that stays as it is -/
theorem Post.data (r : Rel K F H σ e) {p : Addr} (hp : H p = none) (o : HO) : Post K F H σ e (upd F p o) (upd H p o) σ e := by
  have hF : F p = none := by
    cases q : F p with
    | none => rfl
    | some u => have := r.sub p u q; rw [hp] at this; cases this
  have kH : ∀ a u, Own H σ e a → H a = some u → upd H p o a = some u := fun a u _ h => by rw [upd_ne (ne_of_none h hp)]; exact h
  refine ⟨sub_upd hF o, r.moved (fun a u h => ?_) (sub_upd hF o) kH fun a h hu => ?_, fun a u h _ => ?_, fun a h => ?_, fun a h => ?_, fun a h => .inl (r.own_back kH h)⟩
  · by_cases z : a = p
    · subst z; rw [upd_same] at h ⊢; exact h
    · rw [upd_ne z] at h ⊢; exact r.sub a u h
  · obtain ⟨_, u, hu2⟩ := r.own h
    rw [upd_ne (ne_of_none hu2 hp)]; exact hu
  · rw [upd_ne (ne_of_none h hp)]; exact h
  · by_cases z : a = p
    · subst z; exact .inr (.inl hp)
    · rw [upd_ne z] at h; exact .inl h
  · by_cases z : a = p
    · subst z; exact hp
    · rw [upd_ne z] at h; exact h
/-- a thing that is nobody's own stays as it is from here on -/
theorem Rel.froze (r : Rel K F H σ e) {a : Addr} {o : HO} (hH : H a = some o) (hF : F a = none) (hn : ¬ Own H σ e a) : Rel K (upd F a o) H σ e :=
  r.moved (fun b u q => by
    by_cases z : b = a
    · subst z; rw [upd_same] at q; cases q; exact hH
    · rw [upd_ne z] at q; exact r.sub b u q) (sub_upd hF o) (fun _ _ _ h => h) fun b h hu => by
      rw [upd_ne (fun z => hn (by rw [← z]; exact h))]; exact hu
/-- a value that an expression hands on: data, or a list that nobody else reaches -/
def ResR (K : Frag) (F H : Hp) (σ : L2.St) (e : Env) : V → L2.V → Prop
  | .d x, v => Rp K F v x
  | .c xs, v => ∃ a vs, v = .ref a ∧ H a = some (.lst vs) ∧ F a = none ∧ RpAll K F vs xs ∧ ¬ Own H σ e a
  | .k kvs, v => ∃ a kv, v = .ref a ∧ H a = some (.dK kv) ∧ F a = none ∧ DkR K F kv kvs ∧ ¬ Own H σ e a
  | .t kts, v => ∃ a xs, v = .ref a ∧ H a = some (.ext (TDat xs a)) ∧ F a = none ∧ (TkR K F xs kts ∧ TkOk a kts) ∧ ¬ Own H σ e a
  | _, _ => False
/-- where it comes from: new, or given up -/
def From (H : Hp) (σ : L2.St) (e : Env) : V → L2.V → Prop
  | .c _, v => ∀ a, v = .ref a → H a = none ∨ Own H σ e a
  | .k _, v => ∀ a, v = .ref a → H a = none ∨ Own H σ e a
  | .t _, v => ∀ a, v = .ref a → H a = none ∨ Own H σ e a
  | .g _, _ => False
  | _, _ => True
theorem From.trans (p : Post K F H σ e F1 H1 σ1 e1) {w : V} {v : L2.V} (h : From H1 σ1 e1 w v) : From H σ e w v := by
  cases w with
  | c xs =>
    intro a ha
    rcases h a ha with z | z
    · exact .inl (p.dom a z)
    · rcases p.own a z with z | z
      · exact .inr z
      · exact .inl z
  | k xs =>
    intro a ha
    rcases h a ha with z | z
    · exact .inl (p.dom a z)
    · rcases p.own a z with z | z
      · exact .inr z
      · exact .inl z
  | t xs =>
    intro a ha
    rcases h a ha with z | z
    · exact .inl (p.dom a z)
    · rcases p.own a z with z | z
      · exact .inr z
      · exact .inl z
  | g _ => exact h
  | u => trivial
  | d _ => trivial
/-- it stays over what comes then -/
theorem ResR.stay {w : V} {v : L2.V} (h : ResR K F H σ e w v) (p : Post K F H σ e F1 H1 σ1 e1) : ResR K F1 H1 σ1 e1 w v := by
  cases w with
  | u => exact h
  | g _ => exact h
  | d x => exact p.grow.rp _ _ h
  | k xs =>
    obtain ⟨a, vs, h1, h2, h3, h4, h5⟩ := h
    refine ⟨a, vs, h1, p.keep a _ h2 h5, ?_, p.grow.dk h4, fun z => ?_⟩
    · cases q : F1 a with
      | none => rfl
      | some u =>
        rcases p.new a (by rw [q]; simp) with z | z | z
        · exact absurd h3 z
        · rw [h2] at z; cases z
        · exact absurd z h5
    · rcases p.own a z with z | z
      · exact h5 z
      · rw [h2] at z; cases z
  | t xs =>
    obtain ⟨a, vs, h1, h2, h3, h4, h5⟩ := h
    refine ⟨a, vs, h1, p.keep a _ h2 h5, ?_, ⟨p.grow.tk h4.1, h4.2⟩, fun z => ?_⟩
    · cases q : F1 a with
      | none => rfl
      | some u =>
        rcases p.new a (by rw [q]; simp) with z | z | z
        · exact absurd h3 z
        · rw [h2] at z; cases z
        · exact absurd z h5
    · rcases p.own a z with z | z
      · exact h5 z
      · rw [h2] at z; cases z
  | c xs =>
    obtain ⟨a, vs, h1, h2, h3, h4, h5⟩ := h
    refine ⟨a, vs, h1, p.keep a _ h2 h5, ?_, p.grow.rpAll _ _ h4, fun z => ?_⟩
    · cases q : F1 a with
      | none => rfl
      | some u =>
        rcases p.new a (by rw [q]; simp) with z | z | z
        · exact absurd h3 z
        · rw [h2] at z; cases z
        · exact absurd z h5
    · rcases p.own a z with z | z
      · exact h5 z
      · rw [h2] at z; cases z
/-- a list of one's own becomes data -/
theorem settle_ok (p : Post K F H σ e F1 H1 σ1 e1) {w : V} {v : L2.V} {x : D} (h : ResR K F1 H1 σ1 e1 w v) (hs : settle w = some x) (hw : From H σ e w v) :
    ∃ F', Post K F H σ e F' H1 σ1 e1 ∧ Rp K F' v x := by
  cases w with
  | u => cases hs
  | g _ => cases hs
  | d y => cases hs; exact ⟨F1, p, h⟩
  | c xs =>
    cases hs
    obtain ⟨a, vs, h1, h2, h3, h4, h5⟩ := h
    subst h1
    have up := sub_upd h3 (.lst vs)
    refine ⟨upd F1 a (.lst vs), ⟨p.grow.trans up, p.rel.froze h2 h3 h5, p.keep, fun b q => ?_, p.dom, p.own⟩, .lst (SqL.of upd_same) (up.rpAll _ _ h4)⟩
    by_cases z : b = a
    · subst z; exact .inr (hw b rfl)
    · rw [upd_ne z] at q; exact p.new b q
  | t xs => cases hs
  | k xs =>
    cases hs
    obtain ⟨a, vs, h1, h2, h3, h4, h5⟩ := h
    subst h1
    have up := sub_upd h3 (.dK vs)
    refine ⟨upd F1 a (.dK vs), ⟨p.grow.trans up, p.rel.froze h2 h3 h5, p.keep, fun b q => ?_, p.dom, p.own⟩, .dct upd_same⟩
    by_cases z : b = a
    · subst z; exact .inr (hw b rfl)
    · rw [upd_ne z] at q; exact p.new b q
theorem own_v {w : V} {v : L2.V} (h : ResR K F H σ e w v) (ho : isOwn w = true) : ∃ a o, v = .ref a ∧ H a = some o ∧ ¬ Own H σ e a := by
  cases w with
  | c xs => obtain ⟨a, vs, h1, h2, _, _, h5⟩ := h; exact ⟨a, _, h1, h2, h5⟩
  | u => cases ho
  | d _ => cases ho
  | g _ => exact False.elim h
  | k _ => obtain ⟨a, vs, h1, h2, _, _, h5⟩ := h; exact ⟨a, _, h1, h2, h5⟩
  | t _ => obtain ⟨a, vs, h1, h2, _, _, h5⟩ := h; exact ⟨a, _, h1, h2, h5⟩
theorem own_from {w : V} {v : L2.V} (h : From H σ e w v) (ho : isOwn w = true) : ∀ a, v = .ref a → H a = none ∨ Own H σ e a := by
  cases w with
  | c xs => exact h
  | u => cases ho
  | d _ => cases ho
  | g _ => exact False.elim h
  | k _ => exact h
  | t _ => exact h
/-- a slot forgotten -/
theorem lt_of_own {i : Nat} {a : Addr} (h : HasV H (get e i) σ[i]? a) : i < e.length := by
  by_cases z : i < e.length
  · exact z
  · rw [get_ge (Nat.le_of_not_lt z)] at h; exact absurd h (HasV.not rfl)
theorem Post.drop (r : Rel K F H σ e) {i : Nat} (hi : i < e.length) : Post K F H σ e F H σ (e.set i .u) := by
  refine ⟨Sub.refl _, ⟨r.sub, fun j => ?_, fun j l b h1 h2 => r.sep j l b (h1.set hi rfl).2 (h2.set hi rfl).2⟩, fun _ _ g _ => g, fun b g => .inl g, fun _ g => g, fun b ⟨j, h1⟩ => .inl ⟨j, (h1.set hi rfl).2⟩⟩
  rw [get_set]
  split
  · trivial
  · exact r.slot j
theorem Rel.dropped (r : Rel K F H σ e) {i : Nat} {a : Addr} (h : HasV H (get e i) σ[i]? a) : ¬ Own H σ (e.set i .u) a := fun ⟨j, h1⟩ => by
  obtain ⟨z1, z2⟩ := h1.set (lt_of_own h) rfl
  exact z1 (r.sep j i a z2 h)
theorem Post.setD {i : Nat} (r : Rel K F H σ (e.set i .u)) {v : L2.V} {x : D} (hi : i < e.length) (hσ : σ[i]? = some (some v)) (d : Rp K F v x) : Post K F H σ (e.set i .u) F H σ (e.set i (.d x)) := by
  have old : ∀ j a, HasV H (get (e.set i (.d x)) j) σ[j]? a → HasV H (get (e.set i .u) j) σ[j]? a := fun j a h => by
    obtain ⟨z1, z2⟩ := h.set hi rfl
    rw [get_set, if_neg (fun q => z1 q.1)]; exact z2
  refine ⟨Sub.refl _, ⟨r.sub, fun j => ?_, fun j l b h1 h2 => r.sep j l b (old j b h1) (old l b h2)⟩, fun _ _ g _ => g, fun b g => .inl g, fun _ g => g, fun b ⟨j, h1⟩ => .inl ⟨j, old j b h1⟩⟩
  rw [get_set]
  split
  · rename_i z
    rw [z.1]
    exact ⟨v, hσ, d⟩
  · rename_i z
    have := r.slot j
    rw [get_set, if_neg z] at this
    exact this
/-- a slot filled anew -/
theorem Rel.put {i : Nat} {w : V} (r : Rel K F H σ (e.set i .u)) (hi : i < e.length) (s : SlotR K F H w σ[i]?) (hn : ∀ b, HasV H w σ[i]? b → ¬ Own H σ (e.set i .u) b) : Rel K F H σ (e.set i w) := by
  have old : ∀ j a, HasV H (get (e.set i w) j) σ[j]? a → (j = i ∧ HasV H w σ[i]? a) ∨ (j ≠ i ∧ HasV H (get (e.set i .u) j) σ[j]? a) := fun j a h => by
    rw [get_set] at h
    split at h
    · rename_i z
      rw [z.1] at h
      exact .inl ⟨z.1, h⟩
    · rename_i z
      have hj : j ≠ i := fun q => z ⟨q, hi⟩
      exact .inr ⟨hj, by rw [get_set, if_neg z]; exact h⟩
  refine ⟨r.sub, fun j => ?_, fun j l b h1 h2 => ?_⟩
  · rw [get_set]
    split
    · rename_i z
      rw [z.1]; exact s
    · rename_i z
      have := r.slot j
      rw [get_set, if_neg z] at this
      exact this
  · rcases old j b h1 with ⟨rfl, o1⟩ | ⟨n1, o1⟩
    · rcases old l b h2 with ⟨rfl, _⟩ | ⟨n2, o2⟩
      · rfl
      · exact absurd ⟨l, o2⟩ (hn b o1)
    · rcases old l b h2 with ⟨rfl, o2⟩ | ⟨n2, o2⟩
      · exact absurd ⟨j, o1⟩ (hn b o2)
      · exact r.sep j l b o1 o2
theorem GkR.memL {kv : List (Key × L2.V)} {gs : List (Int × List D)} (r : GkR K F H kv gs) {k : Key} {b : Addr} (h : (k, L2.V.ref b) ∈ kv) : ∃ vs, H b = some (.lst vs) := by
  induction r with
  | nil => cases h
  | cons h1 _ _ _ _ ih =>
    rcases List.mem_cons.mp h with z | z
    · cases z; exact ⟨_, h1⟩
    · exact ih z
/-- the lists of a dict of lists stay as they are from here on -/
theorem GkR.seal {kv : List (Key × L2.V)} {gs : List (Int × List D)} (g : GkR K F H kv gs) : ∀ {F1 : Hp}, Rel K F1 H σ e → (∀ k b, (k, L2.V.ref b) ∈ kv → ¬ Own H σ e b) → Sub F F1 → (∀ k b, (k, L2.V.ref b) ∈ kv → F1 b = none) →
    ∃ F2, Sub F1 F2 ∧ Rel K F2 H σ e ∧ DkR K F2 kv (gs.map fun p => (p.1, .list p.2)) ∧ ∀ a, F2 a ≠ none → F1 a ≠ none ∨ ∃ k, (k, L2.V.ref a) ∈ kv := by
  induction g with
  | nil => exact fun {F1} r _ _ _ => ⟨F1, Sub.refl _, r, .nil, fun a h => .inl h⟩
  | @cons j b vs ds kv gs h1 h2 h3 h4 h5 ih =>
    intro F1 r hn sb hf
    have f1 := hf _ b List.mem_cons_self
    have r1 := r.froze h1 f1 (hn _ b List.mem_cons_self)
    have up := sub_upd f1 (.lst vs)
    obtain ⟨F2, g1, g2, g3, g4⟩ := ih r1 (fun k c h => hn k c (List.mem_cons_of_mem _ h)) (sb.trans up) fun k c h => by
      rw [upd_ne (fun z => h4 k (by rw [← z]; exact h))]; exact hf k c (List.mem_cons_of_mem _ h)
    refine ⟨F2, up.trans g1, g2, .cons (.lst (SqL.of (g1 _ _ upd_same)) ((sb.trans (up.trans g1)).rpAll _ _ h3)) g3, fun a ha => ?_⟩
    rcases g4 a ha with z | ⟨k, z⟩
    · by_cases y : a = b
      · subst y; exact .inr ⟨_, List.mem_cons_self⟩
      · rw [upd_ne y] at z; exact .inl z
    · exact .inr ⟨k, List.mem_cons_of_mem _ z⟩
theorem seal_ok (rel : Rel K F H σ e) (i : Nat) : ∃ F', Post K F H σ e F' H σ (sealE e i) := by
  unfold sealE
  split
  case h_2 => exact ⟨F, Post.refl rel⟩
  rename_i gs hg
  have g : get e i = .g gs := hg
  have q := rel.slot i
  rw [g] at q
  obtain ⟨c, kv, q1, q2, q3, q4⟩ := q
  have hc : HasV H (get e i) σ[i]? c := by rw [g]; exact .inl ⟨rfl, q1⟩
  have hb : ∀ k b, (k, L2.V.ref b) ∈ kv → HasV H (get e i) σ[i]? b := fun k b h => by rw [g]; exact .inr ⟨rfl, c, kv, k, q1, q2, h⟩
  have hi := lt_of_own hc
  have p1 := Post.drop rel hi
  obtain ⟨F2, s1, s2, s3, s4⟩ := q4.seal p1.rel (fun k b h => rel.dropped (hb k b h)) (Sub.refl _) fun k b h => (q4.mem h).1
  have fc : F2 c = none := by
    cases z : F2 c with
    | none => rfl
    | some u =>
      rcases s4 c (by rw [z]; simp) with y | ⟨k, y⟩
      · exact absurd q3 y
      · obtain ⟨vs, hv⟩ := q4.memL y
        rw [q2] at hv; cases hv
  refine ⟨F2, ⟨s1, s2.put hi ⟨c, kv, q1, q2, fc, s3⟩ fun b h => ?_, fun _ _ h _ => h, fun a h => ?_, fun _ h => h, fun a ⟨j, h⟩ => ?_⟩⟩
  · rcases h with ⟨_, h⟩ | ⟨h, _⟩
    · rw [q1] at h; cases h; exact rel.dropped hc
    · cases h
  · rcases s4 a h with y | ⟨k, y⟩
    · exact .inl y
    · exact .inr (.inr ⟨i, hb k a y⟩)
  · rw [get_set] at h
    split at h
    · rename_i z
      rw [z.1] at h
      rcases h with ⟨_, h⟩ | ⟨h, _⟩
      · rw [q1] at h; cases h; exact .inl ⟨i, hc⟩
      · cases h
    · exact .inl ⟨j, h⟩
/-- an operand's value -/
def OpdR (K : Frag) (F H : Hp) (σ : L2.St) (e : Env) : Opd → L2.V → Prop
  | .x i, v => σ[i]? = some (some v)
  | .v w, v => ResR K F H σ e w v
theorem OpdR.stay {o : Opd} {v : L2.V} (h : OpdR K F H σ e o v) (p : Post K F H σ e F1 H1 σ e1) : OpdR K F1 H1 σ e1 o v := by
  cases o with
  | x i => exact h
  | v w => exact ResR.stay h p
/-- an operand as it is seen: data, or a list whose items are data -/
def VwR (K : Frag) (F H : Hp) (v : L2.V) (x : D) : Prop := Rp K F v x ∨ ∃ a vs xs, v = .ref a ∧ x = .list xs ∧ H a = some (.lst vs) ∧ RpAll K F vs xs
theorem OpdR.view (r : Rel K F H σ e) {o : Opd} {v : L2.V} {x : D} (h : OpdR K F H σ e o v) (hv : view o e = some x) : VwR K F H v x := by
  cases o with
  | x i =>
    have q := r.slot i
    have h : σ[i]? = some (some v) := h
    have hv : viewV (get e i) = some x := hv
    revert q hv
    cases get e i with
    | u => intro _ z; cases z
    | g _ => intro _ z; cases z
    | k _ => intro _ z; cases z
    | t _ => intro _ z; cases z
    | d y =>
      rintro ⟨u, q1, q2⟩ z
      cases z
      rw [h] at q1; cases q1
      exact .inl q2
    | c xs =>
      rintro ⟨a, vs, q1, q2, _, q4⟩ z
      cases z
      rw [h] at q1; cases q1
      exact .inr ⟨a, vs, xs, rfl, rfl, q2, q4⟩
  | v w =>
    cases w with
    | u => cases hv
    | g _ => cases hv
    | k _ => cases hv
    | t _ => cases hv
    | d y => cases hv; exact .inl h
    | c xs =>
      cases hv
      obtain ⟨a, vs, h1, h2, _, h4, _⟩ := h
      exact .inr ⟨a, vs, xs, h1, rfl, h2, h4⟩
theorem VwR.rp (s : Sub F H) {v : L2.V} {x : D} (h : VwR K F H v x) : Rp K H v x := by
  rcases h with h | ⟨a, vs, xs, rfl, rfl, h1, h2⟩
  · exact s.rp _ _ h
  · exact .lst (SqL.of h1) (s.rpAll _ _ h2)
theorem VwR.dp (s : Sub F H) {v : L2.V} {x : D} (h : VwR K F H v x) (hl : x.canLay0 = true) : L2.Dp K H v x := (h.rp s).dp _ _ hl
theorem VwR.list (s : Sub F H) {v : L2.V} {xs : List D} (h : VwR K F H v (.list xs)) : ∃ a vs, v = .ref a ∧ SqL K H a vs ∧ RpAll K F vs xs := by
  rcases h with h | ⟨a, vs, ys, rfl, e, h1, h2⟩
  · cases h with | lst h1 h2 => exact ⟨_, _, rfl, s.sqL h1, h2⟩
  · cases e; exact ⟨a, vs, rfl, SqL.of h1, h2⟩
theorem VwR.tup (s : Sub F H) {v : L2.V} {xs : List D} (h : VwR K F H v (.tuple xs)) : ∃ a vs, v = .ref a ∧ TupX K F a vs ∧ RpAll K F vs xs := by
  rcases h with h | ⟨a, vs, ys, rfl, e, h1, h2⟩
  · cases h with | tup h1 h2 => exact ⟨_, _, rfl, h1, h2⟩
  · cases e
theorem VwR.int {v : L2.V} {i : Int} (h : VwR K F H v (.int i)) : v = .int i := by
  rcases h with h | ⟨a, vs, ys, rfl, e, h1, h2⟩
  · cases h; rfl
  · cases e
theorem VwR.bool {v : L2.V} {i : Bool} (h : VwR K F H v (.bool i)) : v = .bl i := by
  rcases h with h | ⟨a, vs, ys, rfl, e, h1, h2⟩
  · cases h; rfl
  · cases e
theorem VwR.str {v : L2.V} {i : Str} (h : VwR K F H v (.str i)) : v = .str i := by
  rcases h with h | ⟨a, vs, ys, rfl, e, h1, h2⟩
  · cases h; rfl
  · cases e
end
end Sw
end T_SwB
section T_SwC
set_option autoImplicit false
set_option linter.all false
set_option Elab.async false
set_option maxRecDepth 100000
/-! SwC: readings as they are; calls; the context; names, constants, lists of expressions. -/
namespace Sw
open PySem L2
/-! ### the weakest readings -/
def RE (X : Cx) (ex : Expr) : TE := fun σ H Q => ∀ pins s, Inv X pins σ H s → wpAny (model X.prog X.w) X.A (eval ex X.env) (EP X pins σ Q) X.xe s
def RT (X : Cx) (ex : Expr) : TT := fun σ H Q => ∀ pins s, Inv X pins σ H s → wpAny (model X.prog X.w) X.A (isTrue ex X.env (eval ex X.env)) (TP X pins σ Q) X.xe s
def RW (X : Cx) (ex : Expr) : TT := fun σ H Q => ∀ whole pins s, Inv X pins σ H s → wpAny (model X.prog X.w) X.A (isTrue ex X.env whole) (TP X pins σ Q) X.xe s
def RA (X : Cx) (es : List Expr) : TA := fun σ H Q => ∀ pos pins s, Inv X pins σ H s → wpAny (model X.prog X.w) X.A (spliced (backTo pos (starEach es X.env))) (AP X pins σ Q) X.xe s
def RS (X : Cx) (st : Stmt) : TS := fun Dn σ H => ∀ pins s, Inv X pins σ H s → wpAny (model X.prog X.w) X.A (PySem.exec st X.env) (SP X pins Dn) X.xe s
def RSs (X : Cx) (st : List Stmt) : TS := fun Dn σ H => ∀ pins s, Inv X pins σ H s → wpAny (model X.prog X.w) X.A (PySem.execs st X.env) (SP X pins Dn) X.xe s
section
variable {X : Cx} {ex : Expr} {es : List Expr} {st : Stmt} {sts : List Stmt} {σ : L2.St} {H : Hp}
theorem peE (ex : Expr) : PE X ex (RE X ex) := ⟨fun pins s σ H Q I h => h pins s I⟩
theorem ptT (ex : Expr) : PT X ex (RT X ex) := ⟨fun pins s σ H Q I h => h pins s I⟩
theorem paA (es : List Expr) : PA X es (RA X es) := ⟨fun pos pins s σ H Q I h => h pos pins s I⟩
theorem psS (st : Stmt) : PS X st (RS X st) := ⟨fun pins s σ H Dn I h => h pins s I⟩
theorem pssS (sts : List Stmt) : PSs X sts (RSs X sts) := ⟨fun pins s σ H Dn I h => h pins s I⟩
theorem RE.of {t : TE} {Q : VK} (h : PE X ex t) (q : t σ H Q) : RE X ex σ H Q := fun pins s I => h.run pins s σ H Q I q
theorem RT.of {t : TT} {Q : Bool → Hp → Prop} (h : PT X ex t) (q : t σ H Q) : RT X ex σ H Q := fun pins s I => h.run pins s σ H Q I q
theorem RA.of {t : TA} {Q : List L2.V → Hp → Prop} (h : PA X es t) (q : t σ H Q) : RA X es σ H Q := fun pos pins s I => h.run pos pins s σ H Q I q
theorem RS.of {t : TS} {Dn : Ends} (h : PS X st t) (q : t Dn σ H) : RS X st Dn σ H := fun pins s I => h.run pins s σ H Dn I q
theorem RSs.of {t : TS} {Dn : Ends} (h : PSs X sts t) (q : t Dn σ H) : RSs X sts Dn σ H := fun pins s I => h.run pins s σ H Dn I q
theorem RE.mono {Q Q' : VK} (h : RE X ex σ H Q) (f : ∀ v H', Q v H' → Q' v H') : RE X ex σ H Q' := fun pins s I =>
  thn (h pins s I) fun u s' ⟨v, H', I', r, q⟩ => ⟨v, H', I', r, f v H' q⟩
/-- what the state is may be used -/
def Live (X : Cx) (σ : L2.St) (H : Hp) : Prop := ∃ pins s, Inv X pins σ H s
theorem RE.post {Q : VK} (h : RE X ex σ H fun v H' => Live X σ H' → Q v H') : RE X ex σ H Q := fun pins s I =>
  thn (h pins s I) fun u s' ⟨v, H', I', r, q⟩ => ⟨v, H', I', r, q ⟨pins, s', I'⟩⟩
theorem RS.know {Dn : Ends} (h : Live X σ H → RS X st Dn σ H) : RS X st Dn σ H := fun pins s I => h ⟨pins, s, I⟩ pins s I
theorem Live.new (l : Live X σ H) : ∃ p, H p = none := by
  obtain ⟨pins, s, I⟩ := l
  exact ⟨_, I.hok.fresh (Nat.le_refl _)⟩
end
/-! ### defs that are called where no repr is under way -/
structure FnG (P : Program) (w : World) (K : Frag) (mg : Str → Option Value) (base : Heap) (CX : CXT) (k : Nat) (f : Addr) (fd : FuncData) (ps : List Str) (sp : Sp) : Prop where
  cnt : ∀ vs H Q E, sp vs H Q E → vs.length = ps.length
  go : ∀ (A : Around) (outer : List PySem.Env) (s : Shared) (H : Hp) (args : Args) (us : List Value) (vs : List L2.V) (Q : VK) (E : XK), A.guards = some [] → Room k A →
    Env0 P w K mg base A outer s H → BindsTo s fd args (ps.zip us) → Vals vs us → sp vs H Q E → codeAny (model P w) A (.call (.ref f) args) (CR CX outer P w H s Q E) s
theorem FnG.mono {P : Program} {w : World} {K : Frag} {mg : Str → Option Value} {base : Heap} {CX : CXT} {j k : Nat} {f : Addr} {fd : FuncData} {ps : List Str} {sp : Sp}
    (F : FnG P w K mg base CX j f fd ps sp) (h : j ≤ k) : FnG P w K mg base CX k f fd ps sp :=
  ⟨F.cnt, fun A outer s H args us vs Q E hg hr => F.go A outer s H args us vs Q E hg (hr.mono h)⟩
/-- what a call of f asks and hands back -/
def SpOf (K : Frag) (φ : Orc) (f : String) : Sp := fun vs H Q _ => ∃ args w outs F, φ f args = .ok (w, outs) ∧ vs.length = args.length ∧ Rel K F H (vs.map some) args ∧
  ∀ v F' H', Post K F H (vs.map some) args F' H' (vs.map some) outs → ResR K F' H' (vs.map some) outs w v → From H (vs.map some) args w v → Q v H'
/-- the built-ins that are used -/
def blts : List String := ["len", "tuple", "list", "sorted", "sum", "min", "max", "all", "any", "repr", "str", "int", "set", "isinstance", "range", "zip", "enumerate", "bool", "reversed", "dict"]
structure Good (N : List Str) (sc : Scope) (CX : CXT) (X : Cx) (φ : Orc) : Prop where
  hN : X.N = N
  nd : N.Nodup
  hsc : X.env.scope = sc
  calm : X.calm = true
  guards : X.A.guards = some []
  units : X.A.units + 200 < cLine
  blt : ∀ b ∈ blts, X.mg (Str.ofString b) = none
  cx : ∀ outer H s e s', ¬ CX outer H s (fun _ _ _ => False) e s'
  con : ∀ f s args p, isCon f = some s → φ f args = .ok p → ∃ d v u, p.1 = V.d d ∧ X.mg (Str.ofString s) = some u ∧ RelV v u ∧ ∀ F, Rp X.K F v d
  fn : ∀ f args p, isCon f = none → φ f args = .ok p → ∃ g fd ps k, FnG X.prog X.w X.K X.mg X.base CX k g fd ps (SpOf X.K φ f) ∧ Room k X.A ∧ X.mg (Str.ofString f) = some (.ref g) ∧
    PySem.W.keepIn X.K (.ref g) = true ∧ Binds X.K fd ps []
section
variable {N : List Str} {sc : Scope} {CX : CXT} {X : Cx} {φ : Orc}
theorem Good.gl (G : Good N sc CX X φ) {x : Str} (h : sc.names.lookup x = some .globalImplicit) : Gl X x := by
  show List.lookup x X.env.scope.names = _
  rw [G.hsc]; exact h
theorem Good.vis (G : Good N sc CX X φ) {x : Str} (h : sc.names.lookup x = some .local ∨ sc.names.lookup x = some .cell ∨ sc.names.lookup x = some .free) : Vis X.env.scope x := by
  show _ ∨ _ ∨ _
  rw [G.hsc]; exact h
theorem Good.hd (G : Good N sc CX X φ) {σ : L2.St} {H : Hp} (l : Live X σ H) : X.A.handled = none := by
  obtain ⟨_, _, I⟩ := l
  exact I.ok.hd G.calm
end
/-! ### soundness of an expression, an operand, a datum, a test -/
def FromO (H : Hp) (σ : L2.St) (e : Env) : Opd → L2.V → Prop
  | .x _, _ => True
  | .v w, v => From H σ e w v
def SE (N : List Str) (sc : Scope) (CX : CXT) (ex : Expr) (φ : Orc) (r : Env → R (V × Env)) : Prop :=
  ∀ X, Good N sc CX X φ → ∀ e w e', r e = .ok (w, e') → ∀ F H σ Q, Rel X.K F H σ e →
    (∀ v F' H', Post X.K F H σ e F' H' σ e' → ResR X.K F' H' σ e' w v → From H σ e w v → Q v H') → RE X ex σ H Q
def SO (N : List Str) (sc : Scope) (CX : CXT) (ex : Expr) (φ : Orc) (r : Env → R (Opd × Env)) : Prop :=
  ∀ X, Good N sc CX X φ → ∀ e w e', r e = .ok (w, e') → ∀ F H σ Q, Rel X.K F H σ e →
    (∀ v F' H', Post X.K F H σ e F' H' σ e' → OpdR X.K F' H' σ e' w v → FromO H σ e w v → Q v H') → RE X ex σ H Q
def SD (N : List Str) (sc : Scope) (CX : CXT) (ex : Expr) (φ : Orc) (r : Env → R (D × Env)) : Prop :=
  ∀ X, Good N sc CX X φ → ∀ e w e', r e = .ok (w, e') → ∀ F H σ Q, Rel X.K F H σ e →
    (∀ v F' H', Post X.K F H σ e F' H' σ e' → Rp X.K F' v w → Q v H') → RE X ex σ H Q
def ST (N : List Str) (sc : Scope) (CX : CXT) (ex : Expr) (φ : Orc) (r : Env → R (Bool × Env)) : Prop :=
  ∀ X, Good N sc CX X φ → ∀ e w e', r e = .ok (w, e') → ∀ F H σ Q, Rel X.K F H σ e →
    (∀ F' H', Post X.K F H σ e F' H' σ e' → Q w H') → RT X ex σ H Q
theorem bind_inv {α β : Type} {r : R α} {f : α → R β} {b : β} (h : r.bind f = .ok b) : ∃ a, r = .ok a ∧ f a = .ok b := by
  cases r with
  | ok a => exact ⟨a, rfl, h⟩
  | exc c => cases h
  | bad => cases h
theorem ofO_inv {α : Type} {o : Option α} {a : α} (h : R.ofO o = .ok a) : o = some a := by
  cases o with
  | none => cases h
  | some b => cases h; rfl
section
variable {N : List Str} {sc : Scope} {CX : CXT} {φ : Orc} {ex : Expr}
theorem sd_of {r : Env → R (V × Env)} (h : SE N sc CX ex φ r) : SD N sc CX ex φ (daW r) := by
  intro X G e x e' hr F H σ Q rel k
  obtain ⟨⟨w, e1⟩, h1, h2⟩ := bind_inv hr
  obtain ⟨y, h3, h4⟩ := bind_inv h2
  have h3 := ofO_inv h3
  cases h4
  refine h X G e w e1 h1 F H σ Q rel fun v F' H' p r f => ?_
  obtain ⟨F2, p2, d⟩ := settle_ok p r h3 f
  exact k v F2 H' p2 d
theorem so_of {r : Env → R (V × Env)} {a : E} (h : SE N sc CX ex φ r) (hv : ∀ i, a = .var i → SO N sc CX ex φ (opW r a)) : SO N sc CX ex φ (opW r a) := by
  by_cases ha : ∃ i, a = .var i
  · obtain ⟨i, ha⟩ := ha
    exact hv i ha
  · intro X G e o e' hr F H σ Q rel k
    have e2 : opW r a e = (r e).bind fun p => .ok (.v p.1, p.2) := by
      unfold opW
      cases a <;> first | rfl | exact absurd ⟨_, rfl⟩ ha
    rw [e2] at hr
    obtain ⟨⟨w, e1⟩, h1, h2⟩ := bind_inv hr
    cases h2
    exact h X G e w e1 h1 F H σ Q rel fun v F' H' p q f => k v F' H' p q f
/-! ### names and constants -/
def isVis (sc : Scope) (x : Str) : Bool := match sc.names.lookup x with | some .local => true | some .cell => true | some .free => true | _ => false
theorem isVis_of {x : Str} (h : isVis sc x = true) : sc.names.lookup x = some .local ∨ sc.names.lookup x = some .cell ∨ sc.names.lookup x = some .free := by
  unfold isVis at h
  split at h
  · exact .inl (by assumption)
  · exact .inr (.inl (by assumption))
  · exact .inr (.inr (by assumption))
  · cases h
def plainName (x : Str) : Bool := !(x == ("__debug__" : Str)) && !(x == ("__classdict__" : Str))
theorem pe_name {X : Cx} {i : Nat} {x : Str} {pos : Pos} (G : Good N sc CX X φ) (hi : N[i]? = some x) (hv : isVis sc x = true) (hp : plainName x = true) : PE X (.Name x pos) (tVar i) := by
  unfold plainName at hp
  simp only [Bool.and_eq_true, Bool.not_eq_true'] at hp
  exact pe_var (by rw [G.hN]; exact hi) (G.vis (isVis_of hv)) hp.1 hp.2
theorem so_var {i : Nat} {x : Str} {pos : Pos} (hi : N[i]? = some x) (hv : isVis sc x = true) (hp : plainName x = true) (r : Env → R (V × Env)) : SO N sc CX (.Name x pos) φ (opW r (.var i)) := by
  intro X G e o e' hr F H σ Q rel k
  have e2 : opW r (.var i) e = if isU (get e i) then .bad else .ok (.x i, e) := rfl
  rw [e2] at hr
  have q := rel.slot i
  split at hr
  · cases hr
  · rename_i hu
    cases hr
    have : ∃ v, σ[i]? = some (some v) := by
      revert q hu
      cases get e i with
      | u => intro _ hu; exact absurd rfl hu
      | d y => rintro ⟨v, q, _⟩ _; exact ⟨v, q⟩
      | c xs => rintro ⟨a, vs, q, _⟩ _; exact ⟨_, q⟩
      | k _ => rintro ⟨a, vs, q, _⟩ _; exact ⟨_, q⟩
      | t _ => rintro ⟨a, vs, q, _⟩ _; exact ⟨_, q⟩
      | g _ => intro _ hu; exact absurd rfl hu
    obtain ⟨v, hv'⟩ := this
    exact RE.of (pe_name G hi hv hp) ⟨v, hv', k v F H (Post.refl rel) hv' trivial⟩
/-- a list of one's own, read so that it stays as it is -/
theorem frz_slot {K : Frag} {F H : Hp} {σ : L2.St} {e : Env} (rel : Rel K F H σ e) {i : Nat} {xs : List D} (h : get e i = .c xs) :
    ∃ a vs, σ[i]? = some (some (.ref a)) ∧ Post K F H σ e (upd F a (.lst vs)) H σ (e.set i (.d (.list xs))) ∧ Rp K (upd F a (.lst vs)) (.ref a) (.list xs) := by
  have q := rel.slot i
  rw [h] at q
  obtain ⟨a, vs, q1, q2, q3, q4⟩ := q
  have hi : i < e.length := by
    by_cases z : i < e.length
    · exact z
    · rw [get_ge (Nat.le_of_not_lt z)] at h; cases h
  have up := sub_upd q3 (.lst vs)
  have dp : Rp K (upd F a (.lst vs)) (.ref a) (.list xs) := .lst (SqL.of upd_same) (up.rpAll _ _ q4)
  have ha : HasV H (get e i) σ[i]? a := by rw [h]; exact .inl ⟨rfl, q1⟩
  have p1 := Post.drop rel hi
  have hn := rel.dropped ha
  have p2 : Post K F H σ e (upd F a (.lst vs)) H σ (e.set i .u) := ⟨up, p1.rel.froze q2 q3 hn, p1.keep, fun b g => by
    by_cases z : b = a
    · subst z; exact .inr (.inr ⟨i, ha⟩)
    · rw [upd_ne z] at g; exact .inl g, p1.dom, p1.own⟩
  exact ⟨a, vs, q1, p2.trans (Post.setD p2.rel hi q1 dp), dp⟩
theorem se_var {i : Nat} {x : Str} {pos : Pos} (hi : N[i]? = some x) (hv : isVis sc x = true) (hp : plainName x = true) : SE N sc CX (.Name x pos) φ (evalE φ (.var i)) := by
  intro X G e w e' hr F H σ Q rel k
  simp only [evalE] at hr
  cases g : get e i with
  | u => rw [g] at hr; cases hr
  | g _ => rw [g] at hr; cases hr
  | k _ => rw [g] at hr; cases hr
  | t _ => rw [g] at hr; cases hr
  | d y =>
    rw [g] at hr
    cases hr
    have q := rel.slot i
    rw [g] at q
    obtain ⟨v, q1, q2⟩ := q
    exact RE.of (pe_name G hi hv hp) ⟨v, q1, k v F H (Post.refl rel) q2 trivial⟩
  | c xs =>
    rw [g] at hr
    cases hr
    obtain ⟨a, vs, q1, p, d⟩ := frz_slot rel g
    exact RE.of (pe_name G hi hv hp) ⟨_, q1, k _ _ H p d trivial⟩
theorem se_mv {i : Nat} {x : Str} {pos : Pos} (hi : N[i]? = some x) (hv : isVis sc x = true) (hp : plainName x = true) : SE N sc CX (.Name x pos) φ (evalE φ (.mv i)) := by
  intro X G e w e' hr F H σ Q rel k
  simp only [evalE] at hr
  cases g : get e i with
  | u => rw [g] at hr; cases hr
  | g _ => rw [g] at hr; cases hr
  | k _ => rw [g] at hr; cases hr
  | t _ => rw [g] at hr; cases hr
  | d y =>
    rw [g] at hr
    cases hr
    have q := rel.slot i
    rw [g] at q
    obtain ⟨v, q1, q2⟩ := q
    exact RE.of (pe_name G hi hv hp) ⟨v, q1, k v F H (Post.refl rel) q2 trivial⟩
  | c xs =>
    rw [g] at hr
    cases hr
    have q := rel.slot i
    rw [g] at q
    obtain ⟨a, vs, q1, q2, q3, q4⟩ := q
    have hi' : i < e.length := by
      by_cases z : i < e.length
      · exact z
      · rw [get_ge (Nat.le_of_not_lt z)] at g; cases g
    have ha : HasV H (get e i) σ[i]? a := by rw [g]; exact .inl ⟨rfl, q1⟩
    refine RE.of (pe_name G hi hv hp) ⟨_, q1, k _ _ H (Post.drop rel hi') ⟨a, vs, rfl, q2, q3, q4, rel.dropped ha⟩ fun b hb => ?_⟩
    cases hb
    exact .inr ⟨i, ha⟩
theorem se_const {t : L2.V} {x : D} {r : Env → R (V × Env)} (hr : ∀ e, r e = .ok (.d x, e)) (hp : ∀ X : Cx, PE X ex (tC t)) (hd : ∀ K F, Rp K F t x) : SE N sc CX ex φ r := by
  intro X G e w e' h F H σ Q rel k
  rw [hr] at h
  cases h
  exact RE.of (hp X) (k t F H (Post.refl rel) (hd _ _) trivial)
end
end Sw
end T_SwC
section T_SwD
set_option autoImplicit false
set_option linter.all false
set_option Elab.async false
set_option maxRecDepth 100000
/-! SwD: lists of expressions, displays, calls of defs. -/
namespace Sw
open PySem L2
def noStar : Expr → Bool
  | .Starred _ _ => false
  | _ => true
theorem star_of {ex : Expr} {es : List Expr} {env : PySem.Env} (h : noStar ex = true) : starEach (ex :: es) env = (false, eval ex env) :: starEach es env := by
  cases ex <;> first | rfl | cases h
def noStars : List Expr → Bool
  | [] => true
  | e :: r => noStar e && noStars r
theorem plain_of {es : List Expr} {env : PySem.Env} {pos : Pos} (h : noStars es = true) : (backTo pos (starEach es env)).any (·.1) = false := by
  induction es with
  | nil => rfl
  | cons e r ih =>
    simp only [noStars, Bool.and_eq_true] at h
    rw [star_of h.1]
    have := ih h.2
    simpa [backTo] using this
section
variable {N : List Str} {sc : Scope} {CX : CXT} {φ : Orc} {ex : Expr} {exs : List Expr}
def SDs (N : List Str) (sc : Scope) (CX : CXT) (exs : List Expr) (φ : Orc) (r : Env → R (List D × Env)) : Prop :=
  ∀ X, Good N sc CX X φ → ∀ e xs e', r e = .ok (xs, e') → ∀ F H σ Q, Rel X.K F H σ e →
    (∀ vs F' H', Post X.K F H σ e F' H' σ e' → RpAll X.K F' vs xs → Q vs H') → RA X exs σ H Q
theorem sds_nil : SDs N sc CX [] φ (evalDs φ .nil) := by
  intro X G e xs e' hr F H σ Q rel k
  simp only [evalDs] at hr
  cases hr
  exact RA.of pa_nil (k [] F H (Post.refl rel) .nil)
theorem sds_cons {a : E} {as : Es} (hs : noStar ex = true) (h1 : SD N sc CX ex φ (daW (evalE φ a))) (h2 : SDs N sc CX exs φ (evalDs φ as)) : SDs N sc CX (ex :: exs) φ (evalDs φ (.cons a as)) := by
  intro X G e xs e' hr F H σ Q rel k
  simp only [evalDs] at hr
  obtain ⟨⟨x, e1⟩, r1, r2⟩ := bind_inv hr
  obtain ⟨⟨ys, e2⟩, r3, r4⟩ := bind_inv r2
  cases r4
  refine RA.of (pa_cons (peE ex) (paA exs) (star_of hs)) ?_
  refine h1 X G e x e1 r1 F H σ _ rel fun v F1 H1 p1 d1 => ?_
  exact h2 X G e1 ys e2 r3 F1 H1 σ _ p1.rel fun vs F2 H2 p2 d2 => k (v :: vs) F2 H2 (p1.trans p2) (.cons (p2.grow.rp _ _ d1) d2)
/-- a fresh list handed on -/
theorem fresh_res {K : Frag} {F H F1 H1 : Hp} {σ : L2.St} {e e1 : Env} {p : Addr} {vs : List L2.V} {xs : List D} (q : Post K F H σ e F1 H1 σ e1) (hp : H1 p = none) (d : RpAll K F1 vs xs) :
    Post K F H σ e F1 (upd H1 p (.lst vs)) σ e1 ∧ ResR K F1 (upd H1 p (.lst vs)) σ e1 (.c xs) (.ref p) ∧ From H σ e (.c xs) (.ref p) := by
  refine ⟨q.trans (Post.fresh q.rel hp _), ⟨p, vs, rfl, upd_same, ?_, d, fun h => ?_⟩, fun a ha => ?_⟩
  · cases z : F1 p with
    | none => rfl
    | some u => have := q.rel.sub p u z; rw [hp] at this; cases this
  · exact q.rel.fresh_not hp _ h
  · cases ha
    exact .inl (q.dom _ hp)
/-- a new tuple handed on -/
theorem data_res {K : Frag} {F H F1 H1 : Hp} {σ : L2.St} {e e1 : Env} {p : Addr} {o : Obj} {vs : List L2.V} {xs : List D} (q : Post K F H σ e F1 H1 σ e1) (hp : H1 p = none) (ho : o.dict = none) (d : RpAll K F1 vs xs) :
    Post K F H σ e (upd F1 p (.frz o (.tup vs))) (upd H1 p (.frz o (.tup vs))) σ e1 ∧ Rp K (upd F1 p (.frz o (.tup vs))) (.ref p) (.tuple xs) := by
  have z := Post.data q.rel hp (.frz o (.tup vs))
  exact ⟨q.trans z, .tup (.inl ⟨o, upd_same, ho⟩) (z.grow.rpAll _ _ d)⟩
/-- a tuple's display: its object is known -/
theorem pe_tupF {X : Cx} {c : Nat} {pos : Pos} {t : TA} (h : PA X exs t) : PE X (.Tuple exs c pos) fun σ H Q => t σ H fun vs H1 => vs.length ≤ sizeLine ∧ ∀ p o, H1 p = none → o.dict = none → Q (.ref p) (upd H1 p (.frz o (.tup vs))) := by
  refine ⟨fun pins s σ H Q I hq => wpAny_Tuple_spliced (thn (h.run pos pins s σ H _ I hq) fun us s1 hz => ?_)⟩
  obtain ⟨vs, H1, I1, r, z, q⟩ := hz
  have get := Heap.get?_push_size s1.heap (o := { cls := .type "tuple", data := .seq us.toArray }) rfl
  refine ⟨by rw [← r.length]; exact z, .ref s1.heap.objs.size, _, ?_, rfl, q s1.heap.objs.size { cls := .type "tuple", data := .seq us.toArray } (I1.hok.fresh (Nat.le_refl _)) rfl⟩
  exact I1.laid (t' := s1.toks) (fun b u e => Heap.get?_push_of_some _ e) (Nat.le_refl _) ⟨get, z, us, r, _, get, rfl, _, rfl⟩
theorem se_tup {as : Es} {c : Nat} {pos : Pos} (h : SDs N sc CX exs φ (evalDs φ as)) : SE N sc CX (.Tuple exs c pos) φ (evalE φ (.tup as)) := by
  intro X G e w e' hr F H σ Q rel k
  simp only [evalE] at hr
  obtain ⟨⟨xs, e1⟩, r1, r2⟩ := bind_inv hr
  dsimp only at r2
  split at r2
  · rename_i hz
    cases r2
    refine RE.of (pe_tupF (paA exs)) ?_
    refine h X G e xs _ r1 F H σ _ rel fun vs F1 H1 p1 d1 => ⟨by rw [rpAll_len d1]; exact hz, fun p o hp ho => ?_⟩
    obtain ⟨q1, q2⟩ := data_res p1 hp ho d1
    exact k _ _ _ q1 q2 trivial
  · cases r2
theorem se_lst {as : Es} {pos : Pos} (h : SDs N sc CX exs φ (evalDs φ as)) : SE N sc CX (.List exs pos) φ (evalE φ (.lst as)) := by
  intro X G e w e' hr F H σ Q rel k
  simp only [evalE] at hr
  obtain ⟨⟨xs, e1⟩, r1, r2⟩ := bind_inv hr
  dsimp only at r2
  split at r2
  · rename_i hz
    cases r2
    refine RE.of (pe_lst (paA exs)) ?_
    refine h X G e xs _ r1 F H σ _ rel fun vs F1 H1 p1 d1 => ⟨by rw [rpAll_len d1]; exact hz, fun p hp => ?_⟩
    obtain ⟨q1, q2, q3⟩ := fresh_res p1 hp d1
    exact k _ _ _ q1 q2 q3
  · cases r2
/-! ### operands, and calls -/
def OpdsR (K : Frag) (F H : Hp) (σ : L2.St) (e : Env) : List Opd → List L2.V → Prop
  | [], [] => True
  | o :: os, v :: vs => OpdR K F H σ e o v ∧ OpdsR K F H σ e os vs ∧ (∀ u, o = .v u → isOwn u = true → ∀ (j : Nat) (u' : V), os[j]? = some (.v u') → isOwn u' = true → vs[j]? ≠ some v)
  | _, _ => False
def FromOs (H : Hp) (σ : L2.St) (e : Env) (os : List Opd) (vs : List L2.V) : Prop := ∀ (j : Nat) (o : Opd) (v : L2.V), os[j]? = some o → vs[j]? = some v → FromO H σ e o v
def SOs (N : List Str) (sc : Scope) (CX : CXT) (exs : List Expr) (φ : Orc) (r : Env → R (List Opd × Env)) : Prop :=
  ∀ X, Good N sc CX X φ → ∀ e os e', r e = .ok (os, e') → ∀ F H σ Q, Rel X.K F H σ e →
    (∀ vs F' H', Post X.K F H σ e F' H' σ e' → OpdsR X.K F' H' σ e' os vs → FromOs H σ e os vs → Q vs H') → RA X exs σ H Q
theorem OpdsR.len {K : Frag} {F H : Hp} {σ : L2.St} {e : Env} : ∀ {os : List Opd} {vs : List L2.V}, OpdsR K F H σ e os vs → os.length = vs.length
  | [], [], _ => rfl
  | _ :: _, _ :: _, h => by simp [OpdsR.len h.2.1]
  | [], _ :: _, h => h.elim
  | _ :: _, [], h => h.elim
theorem OpdsR.at {K : Frag} {F H : Hp} {σ : L2.St} {e : Env} : ∀ {os : List Opd} {vs : List L2.V}, OpdsR K F H σ e os vs → ∀ {j : Nat} {o : Opd} {v : L2.V}, os[j]? = some o → vs[j]? = some v → OpdR K F H σ e o v
  | _ :: _, _ :: _, h, 0, o, v, h1, h2 => by simp at h1 h2; subst h1 h2; exact h.1
  | _ :: _, _ :: _, h, j + 1, o, v, h1, h2 => OpdsR.at h.2.1 (by simpa using h1) (by simpa using h2)
  | [], _, _, _, _, _, h1, _ => by simp at h1
  | _ :: _, [], h, _, _, _, _, _ => h.elim
theorem OpdsR.two {K : Frag} {F H : Hp} {σ : L2.St} {e : Env} : ∀ {os : List Opd} {vs : List L2.V}, OpdsR K F H σ e os vs → ∀ {i j : Nat} {xs ys : V} {v : L2.V}, i < j → os[i]? = some (.v xs) → isOwn xs = true → os[j]? = some (.v ys) → isOwn ys = true → vs[i]? = some v → vs[j]? ≠ some v
  | o :: os, w :: vs, h, 0, j + 1, xs, ys, v, _, h1, k1, h2, k2, h3 => by
    simp at h1 h3
    subst h3
    have := h.2.2 xs h1 k1 j ys (by simpa using h2) k2
    simpa using this
  | o :: os, w :: vs, h, i + 1, j + 1, xs, ys, v, hl, h1, k1, h2, k2, h3 => by
    have := OpdsR.two h.2.1 (i := i) (j := j) (by omega) (by simpa using h1) k1 (by simpa using h2) k2 (by simpa using h3)
    simpa using this
  | _, _, _, _, 0, _, _, _, hl, _, _, _, _, _ => by omega
  | [], _, _, _, _, _, _, _, _, h1, _, _, _, _ => by simp at h1
  | _ :: _, [], h, _, _, _, _, _, _, _, _, _, _, _ => h.elim
theorem sos_nil : SOs N sc CX [] φ (evalOs φ .nil) := by
  intro X G e xs e' hr F H σ Q rel k
  simp only [evalOs] at hr
  cases hr
  exact RA.of pa_nil (k [] F H (Post.refl rel) trivial fun j o v h => by simp at h)
theorem FromO.trans {K : Frag} {F H F1 H1 : Hp} {σ σ1 : L2.St} {e e1 : Env} (p : Post K F H σ e F1 H1 σ1 e1) {o : Opd} {v : L2.V} (h : FromO H1 σ1 e1 o v) : FromO H σ e o v := by
  cases o with
  | x i => trivial
  | v w => exact From.trans p h
theorem sos_cons {a : E} {as : Es} (hs : noStar ex = true) (h1 : SO N sc CX ex φ (opW (evalE φ a) a)) (h2 : SOs N sc CX exs φ (evalOs φ as)) : SOs N sc CX (ex :: exs) φ (evalOs φ (.cons a as)) := by
  intro X G e xs e' hr F H σ Q rel k
  simp only [evalOs] at hr
  obtain ⟨⟨o, e1⟩, r1, r2⟩ := bind_inv hr
  obtain ⟨⟨os, e2⟩, r3, r4⟩ := bind_inv r2
  cases r4
  refine RA.of (pa_cons (peE ex) (paA exs) (star_of hs)) ?_
  refine h1 X G e o e1 r1 F H σ _ rel fun v F1 H1 p1 d1 f1 => ?_
  refine h2 X G e1 os e2 r3 F1 H1 σ _ p1.rel fun vs F2 H2 p2 d2 f2 => ?_
  refine k (v :: vs) F2 H2 (p1.trans p2) ⟨d1.stay p2, d2, fun xs ho hw j ys hj hy hv => ?_⟩ fun j o' v' hj hv => ?_
  · subst ho
    obtain ⟨b, o, q1, q2, q5⟩ := own_v d1 hw
    subst q1
    rcases own_from (f2 j _ _ hj hv) hy b rfl with z | z
    · rw [q2] at z; cases z
    · exact q5 z
  · cases j with
    | zero => simp at hj hv; subst hj hv; exact f1
    | succ j => exact FromO.trans p1 (f2 j o' v' (by simpa using hj) (by simpa using hv))
theorem apart_at {e : Env} : ∀ {os : List Opd}, apart e os = true → ∀ {i j k : Nat}, i < j → os[i]? = some (.x k) → os[j]? = some (.x k) → isOwn (get e k) = false
  | [], _, _, _, _, _, h, _ => by simp at h
  | o :: os, h, 0, j + 1, k, _, h1, h2 => by
    simp at h1
    subst h1
    unfold apart at h
    simp only [Bool.and_eq_true, Bool.or_eq_true, Bool.not_eq_true'] at h
    rcases h.1 with z | z
    · exact z
    · have hm : Opd.x k ∈ os := List.mem_of_getElem? (by simpa using h2)
      have := List.any_eq_false.mp z _ hm
      simp at this
  | o :: os, h, i + 1, j + 1, k, hl, h1, h2 => by
    have h' : apart e os = true := by
      cases o with
      | x l => unfold apart at h; exact (Bool.and_eq_true _ _ ▸ h).2
      | v w => exact h
    exact apart_at h' (i := i) (j := j) (by omega) (by simpa using h1) (by simpa using h2)
  | _, _, _, 0, _, hl, _, _ => by omega
/-- what stands in a slot once the lists are handed back -/
theorem get_putBack {e0 : Env} : ∀ {os : List Opd} {outs : List V} {e : Env} (i : Nat), os.length = outs.length → e0.length = e.length → apart e0 os = true →
    (∃ (j : Nat) (o : V), os[j]? = some (Opd.x i) ∧ isOwn (get e0 i) = true ∧ outs[j]? = some o ∧ get (putBack e0 os outs e) i = o) ∨
    ((∀ j : Nat, os[j]? = some (Opd.x i) → isOwn (get e0 i) = false) ∧ get (putBack e0 os outs e) i = get e i)
  | [], _, e, i, _, _, _ => .inr ⟨fun j h => by simp at h, by cases ‹List V› <;> rfl⟩
  | .v w :: os, o :: outs, e, i, hl, hle, ha => by
    have hl' : os.length = outs.length := by simpa using hl
    rcases get_putBack (e0 := e0) (e := e) i hl' hle ha with ⟨j, o', h1, h2, h3, h4⟩ | ⟨h1, h2⟩
    · exact .inl ⟨j + 1, o', by simpa using h1, h2, by simpa using h3, h4⟩
    · refine .inr ⟨fun j hj => ?_, h2⟩
      cases j with
      | zero => simp at hj
      | succ j => exact h1 j (by simpa using hj)
  | .x l :: os, o :: outs, e, i, hl, hle, ha => by
    have hl' : os.length = outs.length := by simpa using hl
    have ha' : apart e0 os = true := by unfold apart at ha; exact (Bool.and_eq_true _ _ ▸ ha).2
    show (∃ (j : Nat) (o' : V), (Opd.x l :: os)[j]? = some (Opd.x i) ∧ isOwn (get e0 i) = true ∧ (o :: outs)[j]? = some o' ∧ get (putBack e0 os outs (if isOwn (get e0 l) then e.set l o else e)) i = o') ∨
      ((∀ j : Nat, (Opd.x l :: os)[j]? = some (Opd.x i) → isOwn (get e0 i) = false) ∧ get (putBack e0 os outs (if isOwn (get e0 l) then e.set l o else e)) i = get e i)
    have hle' : e0.length = (if isOwn (get e0 l) then e.set l o else e).length := by split <;> simp [hle]
    rcases get_putBack (e0 := e0) (e := if isOwn (get e0 l) then e.set l o else e) i hl' hle' ha' with ⟨j, o', h1, h2, h3, h4⟩ | ⟨h1, h2⟩
    · exact .inl ⟨j + 1, o', by simpa using h1, h2, by simpa using h3, h4⟩
    · by_cases hi : l = i
      · subst hi
        by_cases ho : isOwn (get e0 l) = true
        · refine .inl ⟨0, o, rfl, ho, rfl, ?_⟩
          have hl2 : l < e.length := by
            rw [← hle]
            by_cases z : l < e0.length
            · exact z
            · rw [get_ge (Nat.le_of_not_lt z)] at ho; cases ho
          rw [h2, if_pos ho, get_set, if_pos ⟨rfl, hl2⟩]
        · have ho' : isOwn (get e0 l) = false := by simpa using ho
          refine .inr ⟨fun _ _ => ho', ?_⟩
          rw [h2, if_neg ho]
      · refine .inr ⟨fun j hj => ?_, ?_⟩
        · cases j with
          | zero => simp at hj; exact absurd hj hi
          | succ j => exact h1 j (by simpa using hj)
        · rw [h2]
          split
          · rw [get_set, if_neg (fun z => hi z.1.symm)]
          · rfl
  | .v _ :: _, [], _, _, hl, _, _ => by simp at hl
  | .x _ :: _, [], _, _, hl, _, _ => by simp at hl
end
end Sw
end T_SwD
section T_SwE
set_option autoImplicit false
set_option linter.all false
set_option Elab.async false
set_option maxRecDepth 100000
/-! SwE: a def called. -/
namespace Sw
open PySem L2
section
variable {K : Frag} {F H F1 H1 F2 H2 : Hp} {σ : L2.St} {e e1 : Env} {os : List Opd} {vs : List L2.V} {outs : List V}
theorem get_map {os : List Opd} {e1 : Env} {j : Nat} : get (os.map (val · e1)) j = match os[j]? with | some o => val o e1 | none => .u := by
  unfold get
  rw [List.getD_eq_getElem?_getD, List.getElem?_map]
  cases os[j]? <;> rfl
theorem some_get {vs : List L2.V} {j : Nat} {v : L2.V} : (vs.map some)[j]? = some (some v) ↔ vs[j]? = some v := by
  rw [List.getElem?_map]
  cases vs[j]? <;> simp
theorem get_outs {outs : List V} {j : Nat} {o : V} (h : outs[j]? = some o) : get outs j = o := by
  unfold get
  rw [List.getD_eq_getElem?_getD, h]; rfl
/-- an operand that is one's own list: a name's, or a pending one -/
theorem own_arg {j : Nat} (h : isOwn (get (os.map (val · e1)) j) = true) : (∃ i, os[j]? = some (Opd.x i) ∧ isOwn (get e1 i) = true) ∨ (∃ w, os[j]? = some (Opd.v w) ∧ isOwn w = true) := by
  rw [get_map] at h
  cases q : os[j]? with
  | none => rw [q] at h; cases h
  | some o =>
    rw [q] at h
    cases o with
    | x i => exact .inl ⟨i, rfl, h⟩
    | v w => exact .inr ⟨w, rfl, h⟩
theorem okOuts_at : ∀ {os : List Opd} {outs : List V} {e : Env} {j i : Nat} {o : V}, okOuts e os outs = true → os[j]? = some (Opd.x i) → isOwn (get e i) = true → outs[j]? = some o → isG o = false
  | [], _, _, _, _, _, _, h, _, _ => by simp at h
  | _ :: _, [], _, _, _, _, _, _, _, h => by simp at h
  | a :: os, b :: outs, e, 0, i, o, h, h1, h2, h3 => by
    have h1 : a = .x i := by simpa using h1
    have h3 : b = o := by simpa using h3
    subst h1; subst h3
    unfold okOuts at h
    rw [h2] at h
    cases z : isG b with
    | false => rfl
    | true => rw [z] at h; cases h
  | a :: os, b :: outs, e, j + 1, i, o, h, h1, h2, h3 => by
    have h1 : os[j]? = some (Opd.x i) := by simpa using h1
    have h3 : outs[j]? = some o := by simpa using h3
    refine okOuts_at (os := os) (outs := outs) (j := j) ?_ h1 h2 h3
    cases a with
    | x k => unfold okOuts at h; rw [Bool.and_eq_true] at h; exact h.2
    | v w => unfold okOuts at h; exact h
theorem noG (hu : os.any (fun o => isU (val o e1)) = false) (j : Nat) : isG (get (os.map (val · e1)) j) = false := by
  rw [get_map]
  cases q : os[j]? with
  | none => rfl
  | some o =>
    have h := List.any_eq_false.mp hu o (List.mem_of_getElem? q)
    show isG (val o e1) = false
    revert h
    cases val o e1 <;> intro h <;> first | rfl | exact absurd rfl h
theorem argHas (hu : os.any (fun o => isU (val o e1)) = false) {j : Nat} {a : Addr} (h : HasV H (get (os.map (val · e1)) j) (vs.map some)[j]? a) : isOwn (get (os.map (val · e1)) j) = true ∧ vs[j]? = some (.ref a) := by
  rcases h with ⟨h1, h2⟩ | ⟨h, _⟩
  · exact ⟨h1, some_get.mp h2⟩
  · rw [noG hu j] at h; cases h
theorem args_rel (r1 : Rel K F1 H1 σ e1) (hO : OpdsR K F1 H1 σ e1 os vs) (ha : apart e1 os = true) (hu : os.any (fun o => isU (val o e1)) = false) : Rel K F1 H1 (vs.map some) (os.map (val · e1)) := by
  have hlen := hO.len
  refine ⟨r1.sub, fun j => ?_, fun j l a b1 b2 => ?_⟩
  · rw [get_map]
    cases q : os[j]? with
    | none => trivial
    | some o =>
      have hj : j < vs.length := by rw [← hlen]; exact (List.getElem?_eq_some_iff.mp q).1
      obtain ⟨v, hv⟩ : ∃ v, vs[j]? = some v := ⟨_, List.getElem?_eq_getElem hj⟩
      have ho := hO.at q hv
      rw [some_get.mpr hv]
      cases o with
      | x i =>
        have := r1.slot i
        rw [show σ[i]? = some (some v) from ho] at this
        exact this
      | v w =>
        show SlotR K F1 H1 w (some (some v))
        have ho : ResR K F1 H1 σ e1 w v := ho
        cases w with
        | u => trivial
        | g _ => exact False.elim ho
        | k xs =>
          obtain ⟨a, ws, q1, q2, q3, q4, _⟩ := ho
          exact ⟨a, ws, by rw [q1], q2, q3, q4⟩
        | t xs =>
          obtain ⟨a, ws, q1, q2, q3, q4, _⟩ := ho
          exact ⟨a, ws, by rw [q1], q2, q3, q4.1, q4.2⟩
        | d x => exact ⟨v, rfl, ho⟩
        | c xs =>
          obtain ⟨a, ws, q1, q2, q3, q4, _⟩ := ho
          exact ⟨a, ws, by rw [q1], q2, q3, q4⟩
  · obtain ⟨h1, h3⟩ := argHas hu b1
    obtain ⟨h2, h4⟩ := argHas hu b2
    rcases own_arg h1 with ⟨i, g1, g2⟩ | ⟨w, g1, g2⟩
    · have s1 : σ[i]? = some (some (.ref a)) := hO.at g1 h3
      rcases own_arg h2 with ⟨m, g3, g4⟩ | ⟨w, g3, g4⟩
      · have s2 : σ[m]? = some (some (.ref a)) := hO.at g3 h4
        have e2 := r1.sep i m a (.inl ⟨g2, s1⟩) (.inl ⟨g4, s2⟩)
        subst e2
        rcases Nat.lt_trichotomy j l with z | z | z
        · rw [apart_at ha z g1 g3] at g2; cases g2
        · exact z
        · rw [apart_at ha z g3 g1] at g2; cases g2
      · have rw' := hO.at g3 h4
        obtain ⟨b, _, q1, _, q5⟩ := own_v rw' g4
        cases q1
        exact absurd ⟨i, .inl ⟨g2, s1⟩⟩ q5
    · have rw' := hO.at g1 h3
      rcases own_arg h2 with ⟨m, g3, g4⟩ | ⟨w, g3, g4⟩
      · have s2 : σ[m]? = some (some (.ref a)) := hO.at g3 h4
        obtain ⟨b, _, q1, _, q5⟩ := own_v rw' g2
        cases q1
        exact absurd ⟨m, .inl ⟨g4, s2⟩⟩ q5
      · have rw2 := hO.at g3 h4
        rcases Nat.lt_trichotomy j l with z | z | z
        · exact absurd h4 (hO.two z g1 g2 g3 g4 h3)
        · exact z
        · exact absurd h3 (hO.two z g3 g4 g1 g2 h4)
theorem call_post (p1 : Post K F H σ e F1 H1 σ e1) (hO : OpdsR K F1 H1 σ e1 os vs) (hF : FromOs H σ e os vs) (ha : apart e1 os = true) (hu : os.any (fun o => isU (val o e1)) = false) (hz : outs.length = os.length) (hG : okOuts e1 os outs = true)
    {w : V} {v : L2.V} (p2 : Post K F1 H1 (vs.map some) (os.map (val · e1)) F2 H2 (vs.map some) outs) (hr : ResR K F2 H2 (vs.map some) outs w v) (hf : From H1 (vs.map some) (os.map (val · e1)) w v) :
    Post K F H σ e F2 H2 σ (putBack e1 os outs e1) ∧ ResR K F2 H2 σ (putBack e1 os outs e1) w v ∧ From H σ e w v := by
  have r1 := p1.rel
  have slotOf := fun i => get_putBack (e0 := e1) (os := os) (outs := outs) (e := e1) i hz.symm rfl ha
  have atV : ∀ {j : Nat} {o : Opd}, os[j]? = some o → ∃ u, vs[j]? = some u ∧ OpdR K F1 H1 σ e1 o u := fun {j o} q => by
    have hj : j < vs.length := by rw [← hO.len]; exact (List.getElem?_eq_some_iff.mp q).1
    exact ⟨_, List.getElem?_eq_getElem hj, hO.at q (List.getElem?_eq_getElem hj)⟩
  -- an own argument is one's own ahead, or new
  have ownArg : ∀ a, Own H1 (vs.map some) (os.map (val · e1)) a → H a = none ∨ Own H σ e a := fun a ⟨j, h⟩ => by
    obtain ⟨h1, h2⟩ := argHas hu h
    rcases own_arg h1 with ⟨i, g1, g2⟩ | ⟨u, g1, g2⟩
    · have s1 : σ[i]? = some (some (.ref a)) := hO.at g1 h2
      rcases p1.own a ⟨i, .inl ⟨g2, s1⟩⟩ with z | z
      · exact .inr z
      · exact .inl z
    · exact own_from (hF j _ _ g1 h2) g2 a rfl
  -- a thing of one's own that isn't handed in
  have notArg : ∀ i a, HasV H1 (get e1 i) σ[i]? a → (∀ j : Nat, os[j]? = some (Opd.x i) → isOwn (get e1 i) = false) → ¬ Own H1 (vs.map some) (os.map (val · e1)) a := fun i a h1 h3 ⟨j, h⟩ => by
    obtain ⟨h4, h5⟩ := argHas hu h
    rcases own_arg h4 with ⟨m, g1, g2⟩ | ⟨u, g1, g2⟩
    · have s1 : σ[m]? = some (some (.ref a)) := hO.at g1 h5
      have := r1.sep i m a h1 (.inl ⟨g2, s1⟩)
      subst this
      exact HasV.not (h3 j g1) h1
    · have rr := hO.at g1 h5
      obtain ⟨b, o, q1, _, q5⟩ := own_v rr g2
      cases q1
      exact q5 ⟨i, h1⟩
  -- what is one's own behind
  have ownB : ∀ i a, HasV H2 (get (putBack e1 os outs e1) i) σ[i]? a →
      HasV H1 (get e1 i) σ[i]? a ∧ ((∃ j : Nat, os[j]? = some (Opd.x i) ∧ vs[j]? = some (.ref a) ∧ isOwn (get outs j) = true) ∨ (∀ j : Nat, os[j]? = some (Opd.x i) → isOwn (get e1 i) = false)) := fun i a h => by
    rcases slotOf i with ⟨j, o, g1, g2, g3, g4⟩ | ⟨g1, g2⟩
    · rw [g4] at h
      have ng : isG o = false := by
        exact okOuts_at hG g1 g2 g3
      rcases h with ⟨h1, h2⟩ | ⟨h, _⟩
      · obtain ⟨u, hu', su⟩ := atV g1
        have su : σ[i]? = some (some u) := su
        rw [h2] at su; cases su
        exact ⟨.inl ⟨g2, h2⟩, .inl ⟨j, g1, hu', by rw [get_outs g3]; exact h1⟩⟩
      · rw [ng] at h; cases h
    · rw [g2] at h
      exact ⟨h.back (r1.slot i) fun b u hb hu' => p2.keep b u hu' (notArg i b hb g1), .inr g1⟩
  have rel2 : Rel K F2 H2 σ (putBack e1 os outs e1) := by
    refine ⟨p2.rel.sub, fun i => ?_, fun i m a h1 h2 => r1.sep i m a (ownB i a h1).1 (ownB m a h2).1⟩
    rcases slotOf i with ⟨j, o, g1, g2, g3, g4⟩ | ⟨g1, g2⟩
    · rw [g4]
      obtain ⟨u, hu', su⟩ := atV g1
      have su : σ[i]? = some (some u) := su
      have := p2.rel.slot j
      rw [get_outs g3, some_get.mpr hu'] at this
      rw [su]; exact this
    · rw [g2]
      refine (r1.slot i).move p2.grow (fun b u hb hu' => p2.keep b u hu' (notArg i b hb g1)) fun b hb hb2 => ?_
      cases z : F2 b with
      | none => rfl
      | some u =>
        rcases p2.new b (by rw [z]; simp) with z | z | z
        · exact absurd hb2 z
        · obtain ⟨_, u, hu'⟩ := (r1.slot i).has hb
          rw [hu'] at z; cases z
        · exact absurd z (notArg i b hb g1)
  have post : Post K F H σ e F2 H2 σ (putBack e1 os outs e1) := by
    refine ⟨p1.grow.trans p2.grow, rel2, fun a o h n => ?_, fun a h => ?_, fun a h => p1.dom a (p2.dom a h), fun a ⟨i, h⟩ => p1.own a ⟨i, (ownB i a h).1⟩⟩
    · refine p2.keep a o (p1.keep a o h n) fun z => ?_
      rcases ownArg a z with z | z
      · rw [h] at z; cases z
      · exact n z
    · rcases p2.new a h with z | z | z
      · exact p1.new a z
      · exact .inr (.inl (p1.dom a z))
      · exact .inr (ownArg a z)
  have nres : ∀ a, From H1 (vs.map some) (os.map (val · e1)) w (.ref a) → isOwn w = true → ¬ Own H2 (vs.map some) outs a → ¬ Own H2 σ (putBack e1 os outs e1) a := fun a hf' hw q5 ⟨i, h⟩ => by
    obtain ⟨g1, ⟨j, g2, g3, g4⟩ | g2⟩ := ownB i a h
    · exact q5 ⟨j, .inl ⟨g4, some_get.mpr g3⟩⟩
    · rcases own_from hf' hw a rfl with z | z
      · obtain ⟨_, o, ho⟩ := r1.own ⟨i, g1⟩
        rw [z] at ho; cases ho
      · exact notArg i a g1 g2 z
  refine ⟨post, ?_, ?_⟩
  · cases w with
    | u => exact hr
    | g _ => exact hr
    | d x => exact hr
    | k xs =>
      obtain ⟨a, ws, q1, q2, q3, q4, q5⟩ := hr
      subst q1
      exact ⟨a, ws, rfl, q2, q3, q4, nres a hf rfl q5⟩
    | t xs =>
      obtain ⟨a, ws, q1, q2, q3, q4, q5⟩ := hr
      subst q1
      exact ⟨a, ws, rfl, q2, q3, q4, nres a hf rfl q5⟩
    | c xs =>
      obtain ⟨a, ws, q1, q2, q3, q4, q5⟩ := hr
      subst q1
      exact ⟨a, ws, rfl, q2, q3, q4, nres a hf rfl q5⟩
  · cases w with
    | c xs =>
      intro a ha'
      rcases hf a ha' with z | z
      · exact .inl (p1.dom a z)
      · exact ownArg a z
    | k xs =>
      intro a ha'
      rcases hf a ha' with z | z
      · exact .inl (p1.dom a z)
      · exact ownArg a z
    | t xs =>
      intro a ha'
      rcases hf a ha' with z | z
      · exact .inl (p1.dom a z)
      · exact ownArg a z
    | g _ => exact hf
    | u => trivial
    | d _ => trivial
end
section
variable {N : List Str} {sc : Scope} {CX : CXT} {φ : Orc}
theorem se_call {f : String} {x : Str} {p pos : Pos} {ex : Expr} {es : List Expr} {as : Es} (hc0 : isCon f = none) (hx : x = Str.ofString f) (hg : sc.names.lookup x = some .globalImplicit) (hd : plainName x = true) (hs : noStars (ex :: es) = true)
    (h : SOs N sc CX (ex :: es) φ (evalOs φ as)) : SE N sc CX (.Call (.Name x p) (ex :: es) [] pos) φ (evalE φ (.call f as)) := by
  intro X G e w e' hr F H σ Q rel k
  simp only [evalE] at hr
  obtain ⟨⟨os, e1⟩, r1, r2⟩ := bind_inv hr
  unfold callE at r2
  dsimp only at r2
  split at r2
  case isFalse => cases r2
  rename_i hc
  simp only [Bool.and_eq_true, Bool.not_eq_true'] at hc
  obtain ⟨⟨w2, outs⟩, r3, r4⟩ := bind_inv r2
  dsimp only at r4
  split at r4
  case isFalse => cases r4
  rename_i hz
  replace hz := okL_inv hz
  cases r4
  obtain ⟨g, fd, ps, lv, FG, hroom, hm, hk, hb⟩ := G.fn f _ _ hc0 r3
  unfold plainName at hd
  simp only [Bool.and_eq_true, Bool.not_eq_true'] at hd
  simp only [noStars, Bool.and_eq_true] at hs
  subst hx
  have run : RA X (ex :: es) σ H (fun vs H1 => SpOf X.K φ f vs H1 Q fun _ _ _ => False) :=
    h X G e os e1 r1 F H σ _ rel fun vs F1 H1 p1 o1 f1 => ⟨_, w, outs, F1, r3, by rw [List.length_map]; exact o1.len.symm, args_rel p1.rel o1 hc.1 hc.2, fun v F2 H2 p2 q2 q3 => by
      obtain ⟨z1, z2, z3⟩ := call_post p1 o1 f1 hc.1 hc.2 hz.1 hz.2 p2 q2 q3
      exact k v F2 H2 z1 z2 z3⟩
  intro pins s I
  refine wpAny_Call_Name_kw (ld_glob I (G.gl hg) hm ?_ hd.1)
  refine PySem.W.callWith_K (h₀ := X.base) I.ok.mod.kin hk (thn (run pos pins s I) fun us s1 hq => ?_) (star_of hs.1) (plain_of hs.2)
  obtain ⟨vs, H1, I1, r, q⟩ := hq
  refine ⟨I1.kIn, ?_⟩
  have hl : us.length = ps.length := by rw [← r.length]; exact FG.cnt _ _ _ _ q
  have bt := hb s1 us I1.kIn (by rw [List.append_nil]; exact hl)
  rw [List.append_nil] at bt
  refine wpAny_call (codeAny_mono (FG.go X.A X.stack s1 H1 ⟨us, []⟩ us vs Q _ G.guards hroom I1.env0 bt r q) fun res s2 hc2 => ?_)
  cases res with
  | error er => exact absurd hc2 (G.cx _ _ _ _ _)
  | ok fl =>
    cases fl with
    | ret u => exact I1.after hc2
    | next => exact hc2.elim
    | brk => exact hc2.elim
    | cont => exact hc2.elim
theorem se_call0 {f : String} {x : Str} {p pos : Pos} (hc0 : isCon f = none) (hx : x = Str.ofString f) (hg : sc.names.lookup x = some .globalImplicit) (hd : plainName x = true) : SE N sc CX (.Call (.Name x p) [] [] pos) φ (evalE φ (.call f .nil)) := by
  intro X G e w e' hr F H σ Q rel k
  simp only [evalE, evalOs, R.bind_ok] at hr
  unfold callE at hr
  split at hr
  case isFalse => cases hr
  rename_i hc
  simp only [Bool.and_eq_true, Bool.not_eq_true'] at hc
  obtain ⟨⟨w2, outs⟩, r3, r4⟩ := bind_inv hr
  dsimp only at r4
  split at r4
  case isFalse => cases r4
  rename_i hz
  replace hz := okL_inv hz
  cases r4
  obtain ⟨g, fd, ps, lv, FG, hroom, hm, hk, hb⟩ := G.fn f _ _ hc0 r3
  unfold plainName at hd
  simp only [Bool.and_eq_true, Bool.not_eq_true'] at hd
  subst hx
  have o1 : OpdsR X.K F H σ e [] [] := trivial
  have run : SpOf X.K φ f [] H Q fun _ _ _ => False :=
    ⟨_, w, outs, F, r3, rfl, args_rel rel o1 hc.1 hc.2, fun v F2 H2 p2 q2 q3 => by
      obtain ⟨z1, z2, z3⟩ := call_post (Post.refl rel) o1 (fun j o v h => by simp at h) hc.1 hc.2 hz.1 hz.2 p2 q2 q3
      exact k v F2 H2 z1 z2 z3⟩
  intro pins s I
  refine wpAny_Call_Name_kw (ld_glob I (G.gl hg) hm ?_ hd.1)
  refine PySem.W.callWith_K0 I.kIn hk ?_
  have hl : ([] : List Value).length = ps.length := FG.cnt _ _ _ _ run
  have bt := hb s [] I.kIn (by rw [List.append_nil]; exact hl)
  rw [List.append_nil] at bt
  refine wpAny_call (codeAny_mono (FG.go X.A X.stack s H ⟨[], []⟩ [] [] Q _ G.guards hroom I.env0 bt .nil run) fun res s2 hc2 => ?_)
  cases res with
  | error er => exact absurd hc2 (G.cx _ _ _ _ _)
  | ok fl =>
    cases fl with
    | ret u => exact I.after hc2
    | next => exact hc2.elim
    | brk => exact hc2.elim
    | cont => exact hc2.elim
/-- a constant of the module -/
theorem se_con {f s : String} {x : Str} {pos : Pos} (hc : isCon f = some s) (hx : x = Str.ofString s) (hg : sc.names.lookup x = some .globalImplicit) (hd : plainName x = true) : SE N sc CX (.Name x pos) φ (evalE φ (.call f .nil)) := by
  intro X G e w e' hr F H σ Q rel k
  simp only [evalE, evalOs, R.bind_ok] at hr
  unfold callE at hr
  split at hr
  case isFalse => cases hr
  obtain ⟨⟨w2, outs⟩, r3, r4⟩ := bind_inv hr
  dsimp only at r4
  split at r4
  case isFalse => cases r4
  rename_i hz
  cases r4
  obtain ⟨d, v, u, hp, hm, rv, rp⟩ := G.con f s _ _ hc r3
  have hp : w = V.d d := hp
  subst hp
  subst hx
  have e0 : putBack e [] outs e = e := by cases outs <;> rfl
  unfold plainName at hd
  simp only [Bool.and_eq_true, Bool.not_eq_true'] at hd
  exact RE.of (pe_glob (G.gl hg) hm rv hd.1) (k v F H (by rw [e0]; exact Post.refl rel) (rp F) trivial)
end
end Sw
end T_SwE
section T_SwF
set_option autoImplicit false
set_option linter.all false
set_option Elab.async false
set_option maxRecDepth 100000
/-! SwF: operators of one operand. -/
namespace Sw
open PySem L2
/-- what is wanted of an operator's value, from its operands on -/
def Cont (K : Frag) (F H : Hp) (σ : L2.St) (e : Env) (w : V) (Q : VK) : Prop :=
  ∀ v F' H', Post K F H σ e F' H' σ e → ResR K F' H' σ e w v → From H σ e w v → Q v H'
section
variable {K : Frag} {F H : Hp} {σ : L2.St} {e : Env} {Q : VK} {x : D}
theorem Cont.val (k : Cont K F H σ e (.d x) Q) (r : Rel K F H σ e) {v : L2.V} (d : Rp K F v x) : Q v H := k v F H (Post.refl r) d trivial
theorem Cont.int {i : Int} (k : Cont K F H σ e (.d (.int i)) Q) (r : Rel K F H σ e) : Q (.int i) H := k.val r (.int i)
theorem Cont.bl {i : Bool} (k : Cont K F H σ e (.d (.bool i)) Q) (r : Rel K F H σ e) : Q (.bl i) H := k.val r (.bl i)
theorem Cont.str {i : Str} (k : Cont K F H σ e (.d (.str i)) Q) (r : Rel K F H σ e) : Q (.str i) H := k.val r (.str i)
theorem Cont.lst {xs : List D} {vs : List L2.V} (k : Cont K F H σ e (.c xs) Q) (r : Rel K F H σ e) (d : RpAll K F vs xs) {p : Addr} (hp : H p = none) : Q (.ref p) (upd H p (.lst vs)) := by
  obtain ⟨q1, q2, q3⟩ := fresh_res (Post.refl r) hp d
  exact k _ _ _ q1 q2 q3
theorem Cont.tup {xs : List D} {vs : List L2.V} (k : Cont K F H σ e (.d (.tuple xs)) Q) (r : Rel K F H σ e) (d : RpAll K F vs xs) {p : Addr} {o : Obj} (hp : H p = none) (ho : o.dict = none) : Q (.ref p) (upd H p (.frz o (.tup vs))) := by
  obtain ⟨q1, q2⟩ := data_res (Post.refl r) hp ho d
  exact k _ _ _ q1 q2 trivial
end
section
variable {N : List Str} {sc : Scope} {CX : CXT} {φ : Orc} {ex big : Expr}
/-- an operator's rule -/
def A1 (N : List Str) (sc : Scope) (CX : CXT) (φ : Orc) (o : O1) (ex big : Expr) : Prop :=
  ∀ X, Good N sc CX X φ → ∀ σ H (Q : VK) x w, op1 o x = some w →
    RE X ex σ H (fun v H1 => ∃ F e, Rel X.K F H1 σ e ∧ VwR X.K F H1 v x ∧ Cont X.K F H1 σ e w Q) → RE X big σ H Q
theorem ret1_inv {o : Option V} {e : Env} {w : V} {e' : Env} (h : ret1 o e = .ok (w, e')) : o = some w ∧ e' = e := by
  cases o with
  | none => cases h
  | some v => cases h; exact ⟨rfl, rfl⟩
theorem se_o1 {o : O1} {a : E} (so : SO N sc CX ex φ (opW (evalE φ a) a)) (r : A1 N sc CX φ o ex big) : SE N sc CX big φ (evalE φ (.o1 o a)) := by
  intro X G e w e' hr F H σ Q rel k
  simp only [evalE] at hr
  obtain ⟨⟨oa, e1⟩, r1, r2⟩ := bind_inv hr
  obtain ⟨x, r3, r4⟩ := bind_inv r2
  obtain ⟨r5, rfl⟩ := ret1_inv r4
  refine r X G σ H Q x w r5 ?_
  refine so X G e oa _ r1 F H σ _ rel fun v F1 H1 p1 o1 _ => ?_
  exact ⟨F1, _, p1.rel, o1.view p1.rel (ofO_inv r3), fun v' F' H' p2 q2 f2 => k v' F' H' (p1.trans p2) q2 (From.trans p1 f2)⟩
/-! ### a call of a built-in by its name -/
def GlS (sc : Scope) (x : Str) : Prop := sc.names.lookup x = some .globalImplicit
theorem pe_blt1 {X : Cx} {id : String} {r : List L2.V → Hp → VK → Prop} {b : String} {p pos : Pos} (G : Good N sc CX X φ) (hb : b ∈ blts) (hc : CallR X (.builtin id) r) (hg : GlS sc (Str.ofString b)) (hv : bootBuiltins (Str.ofString b) = some (.builtin id))
    (hn : Str.ofString b ≠ "__name__" ∧ (Str.ofString b == ("__debug__" : Str)) = false) (hs : noStar ex = true) :
    PE X (.Call (.Name (Str.ofString b) p) [ex] [] pos) (fun σ H Q => RE X ex σ H fun v H1 => r [v] H1 Q) :=
  pe_callB hc (G.gl hg) (G.blt b hb) hv (pa_cons (peE ex) pa_nil (star_of hs)) hn.1 hn.2 (star_of hs) rfl
theorem pe_type1 {X : Cx} {id : String} {r : List L2.V → Hp → VK → Prop} {b : String} {p pos : Pos} (G : Good N sc CX X φ) (hb : b ∈ blts) (hc : CallR X (.type id) r) (hg : GlS sc (Str.ofString b)) (hv : bootBuiltins (Str.ofString b) = some (.type id))
    (hn : Str.ofString b ≠ "__name__" ∧ (Str.ofString b == ("__debug__" : Str)) = false) (hs : noStar ex = true) :
    PE X (.Call (.Name (Str.ofString b) p) [ex] [] pos) (fun σ H Q => RE X ex σ H fun v H1 => r [v] H1 Q) :=
  pe_callTy hc (G.gl hg) (G.blt b hb) hv (pa_cons (peE ex) pa_nil (star_of hs)) hn.1 hn.2 (star_of hs) rfl
theorem RE.live {X : Cx} {σ : L2.St} {H : Hp} {Q : VK} (h : RE X ex σ H Q) : RE X ex σ H fun v H' => Live X σ H' ∧ Q v H' := fun pins s I =>
  thn (h pins s I) fun u s' ⟨v, H', I', r, q⟩ => ⟨v, H', I', r, ⟨pins, s', I'⟩, q⟩
theorem A1.mk {o : O1} {r : Cx → L2.V → Hp → VK → Prop} (pe : ∀ X, Good N sc CX X φ → PE X big fun σ H Q => RE X ex σ H fun v H1 => r X v H1 Q)
    (step : ∀ X, Good N sc CX X φ → ∀ σ H F e (Q : VK) x w v, op1 o x = some w → Live X σ H → Rel X.K F H σ e → VwR X.K F H v x → Cont X.K F H σ e w Q → r X v H Q) : A1 N sc CX φ o ex big := by
  intro X G σ H Q x w hw h
  refine RE.of (pe X G) (RE.mono (RE.live h) fun v H1 ⟨l, F, e, rel, vw, k⟩ => ?_)
  exact step X G σ H1 F e Q x w v hw l rel vw k
theorem a1_neg {pos : Pos} : A1 N sc CX φ .neg ex (.UnaryOp .USub ex pos) := by
  refine A1.mk (r := fun X v H Q => rU (fun i => .int (-i)) v H Q) (fun X G => pe_un un_neg (peE ex)) fun X G σ H F e Q x w v hw l rel vw k => ?_
  cases x <;> first | (cases hw; done) | skip
  cases hw
  exact ⟨_, vw.int, k.int rel⟩
theorem a1_len {p pos : Pos} (hg : GlS sc (Str.ofString "len")) (hs : noStar ex = true) : A1 N sc CX φ .len ex (.Call (.Name (Str.ofString "len") p) [ex] [] pos) := by
  refine A1.mk (fun X G => pe_blt1 G (by decide) call_len hg PySem.boot_len (by decide +kernel) hs) fun X G σ H F e Q x w v hw l rel vw k => ?_
  cases x <;> first | (cases hw; done) | skip
  · simp only [op1] at hw
    split at hw
    · rename_i hz
      cases hw
      cases vw.str
      exact ⟨_, _, rfl, ⟨hz, rfl⟩, k.int rel⟩
    · cases hw
  · cases hw
    obtain ⟨a, vs, rfl, h1, h2⟩ := vw.list rel.sub
    exact ⟨_, vs.length, rfl, .inl ⟨vs, h1, rfl⟩, by rw [rpAll_len h2]; exact k.int rel⟩
  · cases hw
    obtain ⟨a, vs, rfl, h1, h2⟩ := vw.tup rel.sub
    exact ⟨_, vs.length, rfl, .inr ⟨vs, rel.sub.sqT h1.sq, rfl⟩, by rw [rpAll_len h2]; exact k.int rel⟩
theorem call_tupleF {X : Cx} : CallR X (.type "tuple") fun xs H Q => ∃ p ys, xs = [.ref p] ∧ ((SqL X.K H p ys ∧ ∀ l o, H l = none → o.dict = none → Q (.ref l) (upd H l (.frz o (.tup ys)))) ∨ (SqT X.K H p ys ∧ Q (.ref p) H)) := by
  intro pins s σ H xs us Q I r h
  obtain ⟨p, ys, rfl, hq⟩ := h
  rcases hq with ⟨hq, q⟩ | hq
  · rw [Vals.ref1 r]
    obtain ⟨its, r', pl, hz⟩ := I.list hq
    have hlen := r'.length
    refine call_tuple_list pl.isList (fun h' kp => ?_) (by rw [List.size_toArray, ← hlen]; exact hz)
    have I1 : Inv X pins σ H { s with heap := h' } := I.kept (t' := s.toks) kp
    have get := Heap.get?_push_size h' (o := { cls := .type "tuple", data := .seq its.toArray }) rfl
    exact ⟨.ref h'.objs.size, _, I1.laid (o := .frz { cls := .type "tuple", data := .seq its.toArray } (.tup ys)) (t' := s.toks) (fun b o e => Heap.get?_push_of_some _ e) (Nat.le_refl _) ⟨get, hz, its, r', _, get, rfl, _, rfl⟩, rfl, q h'.objs.size { cls := .type "tuple", data := .seq its.toArray } (I1.hok.fresh (Nat.le_refl _)) rfl⟩
  · exact call_tuple_of pins s σ H _ us Q I r ⟨p, ys, rfl, .inr hq⟩
theorem a1_tuple {p pos : Pos} (hg : GlS sc (Str.ofString "tuple")) (hs : noStar ex = true) : A1 N sc CX φ .tupleOf ex (.Call (.Name (Str.ofString "tuple") p) [ex] [] pos) := by
  refine A1.mk (fun X G => pe_type1 G (by decide) call_tupleF hg PySem.Pv.boot_tuple (by decide +kernel) hs) fun X G σ H F e Q x w v hw l rel vw k => ?_
  cases x <;> first | (cases hw; done) | skip
  · cases hw
    obtain ⟨a, vs, rfl, h1, h2⟩ := vw.list rel.sub
    exact ⟨a, vs, rfl, .inl ⟨h1, fun p o hp ho => k.tup rel h2 hp ho⟩⟩
  · cases hw
    obtain ⟨a, vs, rfl, h1, h2⟩ := vw.tup rel.sub
    exact ⟨a, vs, rfl, .inr ⟨rel.sub.sqT h1.sq, k.val rel (.tup h1 h2)⟩⟩
theorem a1_list {p pos : Pos} (hg : GlS sc (Str.ofString "list")) (hs : noStar ex = true) : A1 N sc CX φ .listOf ex (.Call (.Name (Str.ofString "list") p) [ex] [] pos) := by
  refine A1.mk (fun X G => pe_type1 G (by decide) call_list_of hg PySem.Pv.boot_list (by decide +kernel) hs) fun X G σ H F e Q x w v hw l rel vw k => ?_
  cases x <;> first | (cases hw; done) | skip
  · cases hw
    obtain ⟨a, vs, rfl, h1, h2⟩ := vw.list rel.sub
    exact ⟨a, vs, rfl, .inl h1, fun p hp => k.lst rel h2 hp⟩
  · cases hw
    obtain ⟨a, vs, rfl, h1, h2⟩ := vw.tup rel.sub
    exact ⟨a, vs, rfl, .inr (rel.sub.sqT h1.sq), fun p hp => k.lst rel h2 hp⟩
/-! ### sum of a tuple -/
theorem sum_tup {prog : Program} {w : World} {A : Around} {E : Value → Shared → Prop} {s : Shared} {l : Addr} {its : List Value} {ns : List Int} {Q : Value → Shared → Prop} (hh : A.handled = none) (hl : PyProof.Rows.IsTup s.heap l its.toArray)
    (hi : PyProof.Rows.IntsAre its ns) (h : ∀ h' tk t', (∀ b o, s.heap.get? b = some o → h'.get? b = some o) → Q (.int ns.sum t') { s with heap := h', toks := tk }) :
    wpAny (model prog w) A (call (.builtin "sum") [.ref l]) Q E s := by
  obtain ⟨xs, e⟩ := hi.allInts.items
  have hn : numsOf (intItems xs).toList = ns := by rw [← e]; exact hi.numsOf
  rw [nums_intItems] at hn
  rw [e] at hl
  have hl' : s.heap.IsTuple l (intItems xs) := hl
  have hlt : l < s.heap.objs.size := hl.lt
  refine call_sum_walkG (wpAny_pyIter_tuple hl' ?_)
  refine ⟨s.heap.objs.size, _, _, _, _, _, numAt xs, rfl, Walks.tuple (A := A.in1) hh _ l (Nat.ne_of_lt hlt) (intItems xs), ⟨⟨_, Heap.get?_push_size _ rfl, rfl, rfl⟩, hl'.at fun o q => Heap.get?_push_of_some _ q⟩, fun b hb => ?_, fun _ _ => intItems_at, fun h' tk t' hk => ?_⟩
  · show b < (s.heap.push _).objs.size
    rw [Heap.size_push]
    simp only [List.mem_cons, List.not_mem_nil, or_false] at hb
    rcases hb with rfl | rfl
    · exact Nat.lt_succ_self _
    · exact Nat.lt_succ_of_lt hlt
  · have := h h' tk t' fun b o q => hk b o (by simp only [List.mem_cons, List.not_mem_nil, or_false]; exact Nat.ne_of_lt (Heap.lt_size q)) (Heap.get?_push_of_some _ q)
    have hz : (intItems xs).size = xs.size := by simp [intItems]
    rw [hz, preSum_eq, List.take_of_length_le (by simp), hn]
    exact this
theorem cr_sum2 (X : Cx) (hc : X.calm = true) : CallR X (.builtin "sum") fun xs H Q => ∃ (a : Addr) (ns : List Int), xs = [L2.V.ref a] ∧ (SqL X.K H a (ns.map L2.V.int) ∨ SqT X.K H a (ns.map L2.V.int)) ∧ Q (.int ns.sum) H := by
  intro pins s σ H vs us Q I r h
  obtain ⟨a, ns, rfl, hs, q⟩ := h
  rcases hs with hs | hs
  · exact cr_sum hc pins s σ H _ us Q I r ⟨a, ns, rfl, hs, q⟩
  · obtain ⟨its, rv, hl, _⟩ := I.tuple hs
    rw [Vals.ref1 r]
    exact sum_tup (I.ok.hd hc) hl rv.ints fun h' tk t' hk => ⟨.int _, H, I.kept hk, ⟨_, rfl⟩, q⟩
theorem a1_sum {p pos : Pos} (hg : GlS sc (Str.ofString "sum")) (hs : noStar ex = true) : A1 N sc CX φ .sum ex (.Call (.Name (Str.ofString "sum") p) [ex] [] pos) := by
  refine A1.mk (fun X G => pe_blt1 G (by decide) (cr_sum2 X G.calm) hg PyProof.Rows.boot_sum (by decide +kernel) hs) fun X G σ H F e Q x w v hw l rel vw k => ?_
  cases x <;> first | (cases hw; done) | skip
  · simp only [op1, Option.map_eq_some_iff] at hw
    obtain ⟨ns, h0, rfl⟩ := hw
    obtain ⟨a, vs, rfl, h1, h2⟩ := vw.list rel.sub
    rw [ints_eq h0] at h2
    have hv := vs_ints h2
    subst hv
    exact ⟨a, ns, rfl, .inl h1, k.int rel⟩
  · simp only [op1, Option.map_eq_some_iff] at hw
    obtain ⟨ns, h0, rfl⟩ := hw
    obtain ⟨a, vs, rfl, h1, h2⟩ := vw.tup rel.sub
    rw [ints_eq h0] at h2
    have hv := vs_ints h2
    subst hv
    exact ⟨a, ns, rfl, .inr (rel.sub.sqT h1.sq), k.int rel⟩
theorem minL_spec : ∀ (r : List Int) (n : Int), (r.foldl (fun a b => if b < a then b else a) n ∈ n :: r) ∧ ∀ y ∈ n :: r, r.foldl (fun a b => if b < a then b else a) n ≤ y
  | [], n => ⟨by simp, by simp⟩
  | m :: r, n => by
    obtain ⟨h1, h2⟩ := minL_spec r (if m < n then m else n)
    simp only [List.foldl_cons]
    refine ⟨?_, fun y hy => ?_⟩
    · rcases List.mem_cons.mp h1 with z | z
      · rw [z]; split <;> simp
      · exact List.mem_cons_of_mem _ (List.mem_cons_of_mem _ z)
    · have h3 := h2 _ List.mem_cons_self
      rcases List.mem_cons.mp hy with z | z
      · rw [z]; generalize (r.foldl _ _) = f at h3 ⊢; split at h3 <;> omega
      · rcases List.mem_cons.mp z with z | z
        · rw [z]; generalize (r.foldl _ _) = f at h3 ⊢; split at h3 <;> omega
        · exact h2 y (List.mem_cons_of_mem _ z)
theorem maxL_spec : ∀ (r : List Int) (n : Int), (r.foldl (fun a b => if a < b then b else a) n ∈ n :: r) ∧ ∀ y ∈ n :: r, y ≤ r.foldl (fun a b => if a < b then b else a) n
  | [], n => ⟨by simp, by simp⟩
  | m :: r, n => by
    obtain ⟨h1, h2⟩ := maxL_spec r (if n < m then m else n)
    simp only [List.foldl_cons]
    refine ⟨?_, fun y hy => ?_⟩
    · rcases List.mem_cons.mp h1 with z | z
      · rw [z]; split <;> simp
      · exact List.mem_cons_of_mem _ (List.mem_cons_of_mem _ z)
    · have h3 := h2 _ List.mem_cons_self
      rcases List.mem_cons.mp hy with z | z
      · rw [z]; generalize (r.foldl _ _) = f at h3 ⊢; split at h3 <;> omega
      · rcases List.mem_cons.mp z with z | z
        · rw [z]; generalize (r.foldl _ _) = f at h3 ⊢; split at h3 <;> omega
        · exact h2 y (List.mem_cons_of_mem _ z)
theorem a1_min {p pos : Pos} (hg : GlS sc (Str.ofString "min")) (hs : noStar ex = true) : A1 N sc CX φ .minOf ex (.Call (.Name (Str.ofString "min") p) [ex] [] pos) := by
  refine A1.mk (fun X G => pe_blt1 G (by decide) (cr_min G.calm) hg PyProof.Rows.boot_min (by decide +kernel) hs) fun X G σ H F e Q x w v hw l rel vw k => ?_
  cases x <;> first | (cases hw; done) | skip
  simp only [op1, Option.bind_eq_some_iff, Option.map_eq_some_iff] at hw
  obtain ⟨ns, h0, m, hm, rfl⟩ := hw
  obtain ⟨a, vs, rfl, h1, h2⟩ := vw.list rel.sub
  rw [ints_eq h0] at h2
  have hv := vs_ints h2
  subst hv
  cases ns with
  | nil => cases hm
  | cons n r =>
    cases hm
    refine ⟨a, n :: r, rfl, h1, by simp, fun m' i1 i2 => ?_⟩
    obtain ⟨j1, j2⟩ := minL_spec r n
    have : m' = r.foldl (fun a b => if b < a then b else a) n := by
      have := i2 _ j1
      have := j2 _ i1
      omega
    rw [this]; exact k.int rel
theorem a1_max {p pos : Pos} (hg : GlS sc (Str.ofString "max")) (hs : noStar ex = true) : A1 N sc CX φ .maxOf ex (.Call (.Name (Str.ofString "max") p) [ex] [] pos) := by
  refine A1.mk (fun X G => pe_blt1 G (by decide) (cr_max G.calm) hg PyProof.Rows.boot_max (by decide +kernel) hs) fun X G σ H F e Q x w v hw l rel vw k => ?_
  cases x <;> first | (cases hw; done) | skip
  simp only [op1, Option.bind_eq_some_iff, Option.map_eq_some_iff] at hw
  obtain ⟨ns, h0, m, hm, rfl⟩ := hw
  obtain ⟨a, vs, rfl, h1, h2⟩ := vw.list rel.sub
  rw [ints_eq h0] at h2
  have hv := vs_ints h2
  subst hv
  cases ns with
  | nil => cases hm
  | cons n r =>
    cases hm
    refine ⟨a, n :: r, rfl, h1, by simp, fun m' i1 i2 => ?_⟩
    obtain ⟨j1, j2⟩ := maxL_spec r n
    have : m' = r.foldl (fun a b => if a < b then b else a) n := by
      have := i2 _ j1
      have := j2 _ i1
      omega
    rw [this]; exact k.int rel
theorem a1_all {p pos : Pos} (hg : GlS sc (Str.ofString "all")) (hs : noStar ex = true) : A1 N sc CX φ .all ex (.Call (.Name (Str.ofString "all") p) [ex] [] pos) := by
  refine A1.mk (fun X G => pe_blt1 G (by decide) (cr_all G.calm) hg PyProof.Rows.boot_all (by decide +kernel) hs) fun X G σ H F e Q x w v hw l rel vw k => ?_
  cases x <;> first | (cases hw; done) | skip
  simp only [op1, Option.map_eq_some_iff] at hw
  obtain ⟨ns, h0, rfl⟩ := hw
  obtain ⟨a, vs, rfl, h1, h2⟩ := vw.list rel.sub
  rw [bools_eq h0] at h2
  have hv := vs_bools h2
  subst hv
  exact ⟨a, ns, rfl, h1, k.bl rel⟩
theorem a1_any {p pos : Pos} (hg : GlS sc (Str.ofString "any")) (hs : noStar ex = true) : A1 N sc CX φ .any ex (.Call (.Name (Str.ofString "any") p) [ex] [] pos) := by
  refine A1.mk (fun X G => pe_blt1 G (by decide) (cr_any G.calm) hg PyProof.Rows.boot_any (by decide +kernel) hs) fun X G σ H F e Q x w v hw l rel vw k => ?_
  cases x <;> first | (cases hw; done) | skip
  simp only [op1, Option.map_eq_some_iff] at hw
  obtain ⟨ns, h0, rfl⟩ := hw
  obtain ⟨a, vs, rfl, h1, h2⟩ := vw.list rel.sub
  rw [bools_eq h0] at h2
  have hv := vs_bools h2
  subst hv
  exact ⟨a, ns, rfl, h1, k.bl rel⟩
theorem a1_str {p pos : Pos} (hg : GlS sc (Str.ofString "str")) (hs : noStar ex = true) : A1 N sc CX φ .strOf ex (.Call (.Name (Str.ofString "str") p) [ex] [] pos) := by
  refine A1.mk (fun X G => pe_type1 G (by decide) call_str_int hg PySem.Pv.boot_str (by decide +kernel) hs) fun X G σ H F e Q x w v hw l rel vw k => ?_
  cases x <;> first | (cases hw; done) | skip
  simp only [op1] at hw
  split at hw
  · rename_i hz
    cases hw
    exact ⟨_, by rw [vw.int], hz, k.str rel⟩
  · cases hw
theorem a1_int {p pos : Pos} (hg : GlS sc (Str.ofString "int")) (hs : noStar ex = true) : A1 N sc CX φ .intOf ex (.Call (.Name (Str.ofString "int") p) [ex] [] pos) := by
  refine A1.mk (fun X G => pe_type1 G (by decide) call_int1 hg PySem.Pv.boot_int (by decide +kernel) hs) fun X G σ H F e Q x w v hw l rel vw k => ?_
  cases x <;> first | (cases hw; done) | skip
  · cases hw
    refine .inr ⟨_, by rw [vw.bool], ?_⟩
    exact k.int rel
  · cases hw
    exact .inl ⟨_, by rw [vw.int], k.int rel⟩
theorem a1_isNone {b : Bool} {j : Nat} {pos p2 : Pos} : A1 N sc CX φ (.isNone b) ex (.Compare ex [if b then .Is else .IsNot] [.Constant .none j p2] pos) := by
  refine A1.mk (r := fun X v H Q => Q (.bl (if b then decide (v = .non) else !decide (v = .non))) H) (fun X G => ?_) fun X G σ H F e Q x w v hw l rel vw k => ?_
  · cases b
    · exact pe_cmp (pc_notN (peE ex)) rfl
    · exact pe_cmp (pc_isN (peE ex)) rfl
  · have hv : decide (v = .non) = (match x with | .none => true | _ => false) := by
      rcases vw with h | ⟨a, vs, xs, rfl, rfl, _⟩
      · cases h <;> rfl
      · rfl
    rw [hv]
    cases x <;> cases hw <;> cases b <;> exact k.bl rel
theorem a1_isBool {y b : Bool} {j : Nat} {pos p2 : Pos} : A1 N sc CX φ (.isBool y b) ex (.Compare ex [if b then .Is else .IsNot] [.Constant (.bool y) j p2] pos) := by
  refine A1.mk (r := fun X v H Q => if b then rIsB v (.bl y) H Q else rNotB v (.bl y) H Q) (fun X G => ?_) fun X G σ H F e Q x w v hw l rel vw k => ?_
  · cases b
    · exact pe_cmpR op_notBl (peE ex) pe_bl rfl
    · exact pe_cmpR op_isBl (peE ex) pe_bl rfl
  · cases x <;> first | (cases hw; done) | skip
    cases hw
    have hv := vw.bool
    subst hv
    cases b
    · refine ⟨_, _, rfl, rfl, ?_⟩
      have := k.bl rel
      rename_i z
      cases z <;> cases y <;> exact this
    · refine ⟨_, _, rfl, rfl, ?_⟩
      have := k.bl rel
      rename_i z
      cases z <;> cases y <;> exact this
theorem cr_repr (X : Cx) (hg : X.A.guards = some []) (hu : X.A.units + 200 < cLine) : CallR X (.builtin "repr") fun xs H Q => ∃ v x, xs = [v] ∧ L2.Dp X.K H v x ∧ x.showable = true ∧ x.depth ≤ 40 ∧ x.hasDict = false ∧ x.shown.length ≤ sizeLine ∧ Q (.str x.shown) H := by
  intro pins s σ H xs us Q I r h
  obtain ⟨v, x, rfl, d, h1, h2, h3, h4, q⟩ := h
  obtain ⟨u, rfl, rv⟩ := vals1 r
  obtain ⟨as, rd⟩ := Dp.reads I x _ u d rv
  have fin : ∀ (y : Str) (t : Tok), x.shown = y → EP X pins σ Q (.str y t) { s with toks := s.toks + 1 } := fun y t e => ⟨.str y, H, I.tok _, ⟨_, rfl⟩, by rw [← e]; exact q⟩
  have ref : ∀ a, u = .ref a → wpAny (model X.prog X.w) X.A (call (.builtin "repr") [u]) (EP X pins σ Q) X.xe s := fun a e => by
    subst e
    exact PySem.repr_of_reads' rd h1 (fun z => by rw [h3] at z; cases z) hg (by omega) (fun _ _ z => z) (fun h' t tk hk => ⟨.str x.shown, H, I.kept hk, ⟨_, rfl⟩, q⟩) h4
  cases rd with
  | none => exact PySem.P.repr_of_none (fin _ _ (by simp only [PyData.shown]))
  | bool b => exact PySem.P.repr_of_bool (fin _ _ (by simp only [PyData.shown]))
  | int i t => exact PySem.P.repr_of_int (by simpa [PyData.showable] using h1) (fin _ _ (by simp only [PyData.shown]))
  | str y t => exact PySem.P.repr_of_str (fin _ _ (by simp only [PyData.shown])) (by simpa only [PyData.shown] using h4)
  | list => exact ref _ rfl
  | tuple => exact ref _ rfl
  | dict => exact ref _ rfl
theorem a1_repr {p pos : Pos} (hg : GlS sc (Str.ofString "repr")) (hs : noStar ex = true) : A1 N sc CX φ .repr ex (.Call (.Name (Str.ofString "repr") p) [ex] [] pos) := by
  refine A1.mk (fun X G => pe_blt1 G (by decide) (cr_repr X G.guards G.units) hg PyProof.Rows.boot_repr (by decide +kernel) hs) fun X G σ H F e Q x w v hw l rel vw k => ?_
  simp only [op1] at hw
  split at hw
  · rename_i hc
    cases hw
    unfold okRepr at hc
    simp only [Bool.and_eq_true, decide_eq_true_eq] at hc
    obtain ⟨⟨⟨h1, h2⟩, h3⟩, h45⟩ := hc
    rw [Bool.or_eq_true, Bool.and_eq_true, Bool.and_eq_true, decide_eq_true_eq, decide_eq_true_eq] at h45
    refine ⟨v, x, rfl, vw.dp rel.sub h3, h1, h2, PyData.hasDict_of_canLay x h3, ?_, k.str rel⟩
    rcases h45.symm with ⟨h4, h5⟩ | ⟨h4, h5⟩
    · have len := PyData.shown_le 60 (by decide) x (PyData.leavesShort_of_canLay0 60 x h3 h5)
      have mul : (60 + 2) * x.weight ≤ 62 * 20000 := Nat.mul_le_mul (by decide) h4
      rw [sizeLine_eq]; omega
    have lay : PyData.layable0 x = true := by
      unfold PyData.layable0
      simp only [Bool.and_eq_true, decide_eq_true_eq]
      exact ⟨⟨h3, by omega⟩, h4⟩
    have len := PyProof.Rows.shown_le13 lay h5
    rw [sizeLine_eq]; omega
  · cases hw
end
end Sw
end T_SwF
section T_SwGa
set_option autoImplicit false
set_option linter.all false
set_option Elab.async false
set_option maxRecDepth 100000
set_option maxHeartbeats 4000000
/-! SwGa: a tuple so many times. -/
namespace Sw
open PySem PySem.Spec PyProof.Rows L2
theorem mulT_same (l : Addr) (items : Array Value) (n : Nat) (dd : Option Addr) (sl : Array (Option Value)) (x : Int) (u : Tok) (c0 : (decide (x < -(2 ^ 63)) || decide (x ≥ 2 ^ 63)) = false) (c1 : (items.isEmpty || x == 1) = true) :
    Meets (Builtin.«tuple.__mul__» ⟨[.ref l, .int x u], []⟩) (fun _ R s => s.heap.get? l = some { cls := .type "tuple", dict := dd, data := .seq items n, slots := sl } ∧ R (.ok (.ret (Value.ref l))) s) :=
  .of_wp fun prog w A R s h => by
    obtain ⟨hp, g, d, tk, os⟩ := s
    obtain ⟨hl, h⟩ := h
    have f1 := AutoSeq1.idx_int
    wp_walk using wpAny_loadPart' hl
    refine wpAny_ite_false (decide_eq_false (by rw [c0]; exact Bool.false_ne_true)) ?_
    wp_walk using wpAny_loadPart' hl
    exact ⟨_, rfl, h⟩
theorem mulT_none (l : Addr) (items : Array Value) (n : Nat) (dd : Option Addr) (sl : Array (Option Value)) (x : Int) (u : Tok) (c0 : (decide (x < -(2 ^ 63)) || decide (x ≥ 2 ^ 63)) = false) (c1 : (items.isEmpty || x == 1) = false) (c2 : (decide (x ≤ 0) || items.isEmpty) = true) :
    Meets (Builtin.«tuple.__mul__» ⟨[.ref l, .int x u], []⟩) (fun _ R s => s.heap.get? l = some { cls := .type "tuple", dict := dd, data := .seq items n, slots := sl } ∧
      R (.ok (.ret (Value.ref s.heap.objs.size))) { s with heap := s.heap.push { cls := Value.type "tuple", data := Data.seq #[] }, toks := s.toks }) :=
  .of_wp fun prog w A R s h => by
    obtain ⟨hp, g, d, tk, os⟩ := s
    obtain ⟨hl, h⟩ := h
    have f1 := AutoSeq1.idx_int
    wp_walk using wpAny_loadPart' hl
    refine wpAny_ite_false (decide_eq_false (by rw [c0]; exact Bool.false_ne_true)) ?_
    wp_walk using wpAny_loadPart' hl
    repeat (first
      | (refine wpAny_ite_false (decide_eq_false (by rw [c1]; exact Bool.false_ne_true)) ?_; wp_walk using wpAny_loadPart' hl)
      | (refine wpAny_ite_true (decide_eq_true c2) ?_; wp_walk using wpAny_loadPart' hl))
    exact ⟨_, rfl, h⟩
def rMulT (K : Frag) : R2 := fun x y H Q => ∃ l k xs, x = L2.V.ref l ∧ y = L2.V.int k ∧ SqT K H l xs ∧ 0 ≤ k ∧ k ≤ 1000 ∧ xs.length ≤ 1000 ∧
  ((xs = [] ∨ k = 1) → Q (.ref l) H) ∧ (¬ (xs = [] ∨ k = 1) → ∀ p o, H p = none → o.dict = none → Q (.ref p) (upd H p (.frz o (.tup (List.replicate k.toNat xs).flatten))))
theorem op_mulT {X : Cx} : OpR X (binaryOp .Mult) (rMulT X.K) := by
  intro pins s σ H x y v u Q I rx ry h
  obtain ⟨l, k, xs, rfl, rfl, hT, h0, h2, hz, q1, q2⟩ := h
  cases rx
  obtain ⟨t, rfl⟩ := ry
  obtain ⟨its, r, ⟨⟨cls, dd, data, sl⟩, ho, hc, n, hd⟩, hs⟩ := I.tuple hT
  simp only at hc hd
  subst hc hd
  have le : its.length = xs.length := r.length.symm
  have c0 : (decide (k < -(2 ^ 63)) || decide (k ≥ 2 ^ 63)) = false := by
    rw [decide_eq_false (by omega), decide_eq_false (by omega)] <;> rfl
  have emp : its.toArray.isEmpty = true ↔ xs = [] := by
    cases its with
    | nil =>
      have : xs = [] := List.eq_nil_of_length_eq_zero le.symm
      simp [this]
    | cons a b =>
      have : xs ≠ [] := fun e => by rw [e] at le; cases le
      simp [this]
  by_cases c : xs = [] ∨ k = 1
  · have c1 : (its.toArray.isEmpty || k == 1) = true := by
      rw [Bool.or_eq_true]
      rcases c with z | z
      · exact .inl (emp.mpr z)
      · exact .inr (by rw [z]; rfl)
    refine wpAny_binaryOp_repeat_ref (T := "tuple") (U := "int") (by decide) ⟨_, ho, rfl⟩ (fun s' => typeIs_int s' k t) noFill_tuple_mul F.fills_int_mul F.slot_int_rmul repeat_tuple F.slot_int_index.lookup
      (call_meets F.slot_int_rmul (typeIs_int s k t) F.entry_int_rmul (F.args_int_rmul_2 _ _) (int_rmul_tuple k t l its.toArray n dd sl) ⟨ho, rfl, ⟨_, ho, rfl⟩, call_meets F.slot_tuple_mul ⟨_, ho, rfl⟩ F.entry_tuple_mul (F.args_tuple_mul_2 _ _) (mulT_same l its.toArray n dd sl k t c0 c1) ⟨ho, ?_⟩⟩)
    exact ⟨.ref l, H, I, rfl, q1 c⟩
  · have hk1 : k ≠ 1 := fun z => c (.inr z)
    have hxs : xs ≠ [] := fun z => c (.inl z)
    have ne : its.toArray.isEmpty = false := by
      cases e : its.toArray.isEmpty with
      | false => rfl
      | true => exact absurd (emp.mp e) hxs
    have c1 : (its.toArray.isEmpty || k == 1) = false := by
      rw [ne, Bool.false_or]
      exact beq_eq_false_iff_ne.mpr hk1
    have len : (List.replicate k.toNat xs).flatten.length ≤ sizeLine := by
      rw [PyProof.Rows.lm_len_rep_flat, sizeLine_eq]
      have : k.toNat * xs.length ≤ 1000 * 1000 := Nat.mul_le_mul (by omega) hz
      omega
    by_cases hk0 : k = 0
    · have c2 : (decide (k ≤ 0) || its.toArray.isEmpty) = true := by rw [decide_eq_true (by omega)]; rfl
      refine wpAny_binaryOp_repeat_ref (T := "tuple") (U := "int") (by decide) ⟨_, ho, rfl⟩ (fun s' => typeIs_int s' k t) noFill_tuple_mul F.fills_int_mul F.slot_int_rmul repeat_tuple F.slot_int_index.lookup
        (call_meets F.slot_int_rmul (typeIs_int s k t) F.entry_int_rmul (F.args_int_rmul_2 _ _) (int_rmul_tuple k t l its.toArray n dd sl) ⟨ho, rfl, ⟨_, ho, rfl⟩, call_meets F.slot_tuple_mul ⟨_, ho, rfl⟩ F.entry_tuple_mul (F.args_tuple_mul_2 _ _) (mulT_none l its.toArray n dd sl k t c0 c1 c2) ⟨ho, ?_⟩⟩)
      subst hk0
      have get := Heap.get?_push_size s.heap (o := { cls := .type "tuple", data := .seq #[] }) rfl
      exact ⟨.ref s.heap.objs.size, _, I.laid (t' := s.toks) (o := .frz { cls := .type "tuple", data := .seq #[] } (.tup (List.replicate (0 : Int).toNat xs).flatten)) (fun b ob z => Heap.get?_push_of_some _ z) (Nat.le_refl _)
        (show ObjOk X.prog X.w _ _ _ (.frz _ _) from ⟨get, len, _, .nil, _, get, rfl, _, rfl⟩), rfl, q2 c _ _ I.fresh rfl⟩
    · have i1 : ((its.toArray.size : Nat) : Int) * k ≤ 1000000 := by
        rw [List.size_toArray, le]
        have : ((xs.length : Nat) : Int) * k ≤ 1000 * k := Int.mul_le_mul_of_nonneg_right (by omega) (by omega)
        omega
      have c2 : (decide (k ≤ 0) || its.toArray.isEmpty) = false := by
        rw [ne, Bool.or_false]
        exact decide_eq_false (by omega)
      have c4 : Builtin.Tuple.tupleTooMany (((its.toArray.size : Nat) : Int) * k) = false := by
        unfold Builtin.Tuple.tupleTooMany
        rw [sizeLine_eq]
        exact decide_eq_false (by omega)
      have vl := r.rep k.toNat
      have fit : (List.replicate k.toNat its).flatten.length ≤ sizeLine := by rw [← vl.length]; exact len
      refine wpAny_binaryOp_repeat_ref (T := "tuple") (U := "int") (by decide) ⟨_, ho, rfl⟩ (fun s' => typeIs_int s' k t) noFill_tuple_mul F.fills_int_mul F.slot_int_rmul repeat_tuple F.slot_int_index.lookup
        (call_meets F.slot_int_rmul (typeIs_int s k t) F.entry_int_rmul (F.args_int_rmul_2 _ _) (int_rmul_tuple k t l its.toArray n dd sl) ⟨ho, rfl, ⟨_, ho, rfl⟩, call_meets F.slot_tuple_mul ⟨_, ho, rfl⟩ F.entry_tuple_mul (F.args_tuple_mul_2 _ _) (tuple_mulW l its.toArray n dd sl k t c0 c1 c2 (by omega) c4 (by rw [size_rep, List.size_toArray]; exact fit)) ⟨ho, ?_⟩⟩)
      rw [size_rep]
      have get := Heap.get?_push_size s.heap (o := { cls := .type "tuple", data := .seq (List.replicate k.toNat its).flatten.toArray }) rfl
      exact ⟨.ref s.heap.objs.size, _, I.laid (t' := s.toks) (o := .frz { cls := .type "tuple", data := .seq (List.replicate k.toNat its).flatten.toArray } (.tup (List.replicate k.toNat xs).flatten)) (fun b ob z => Heap.get?_push_of_some _ z) (Nat.le_refl _)
        (show ObjOk X.prog X.w _ _ _ (.frz _ _) from ⟨get, len, _, vl, _, get, rfl, _, rfl⟩), rfl, q2 c _ _ I.fresh rfl⟩
theorem rpAll_times {K : Frag} {F : Hp} {vs : List L2.V} {xs : List D} (h : RpAll K F vs xs) : ∀ n : Nat, RpAll K F (List.replicate n vs).flatten (List.replicate n xs).flatten
  | 0 => .nil
  | n + 1 => by
    rw [List.replicate_succ, List.replicate_succ, List.flatten_cons, List.flatten_cons]
    exact rpAll_app h (rpAll_times h n)
theorem times_nil {α : Type} : ∀ n : Nat, (List.replicate n ([] : List α)).flatten = []
  | 0 => rfl
  | n + 1 => by rw [List.replicate_succ, List.flatten_cons, times_nil n]; rfl
theorem times_one {α : Type} (xs : List α) : (List.replicate (1 : Int).toNat xs).flatten = xs := by
  show xs ++ [] = xs
  exact List.append_nil _
end Sw
end T_SwGa
section T_SwG
set_option autoImplicit false
set_option linter.all false
set_option Elab.async false
set_option maxRecDepth 100000
/-! SwG: operators of two operands. -/
namespace Sw
open PySem L2
section
variable {N : List Str} {sc : Scope} {CX : CXT} {φ : Orc} {ex ey big : Expr}
def A2 (N : List Str) (sc : Scope) (CX : CXT) (φ : Orc) (o : O2) (ex ey big : Expr) : Prop :=
  ∀ X, Good N sc CX X φ → ∀ σ H (Q : VK) x y w, op2 o x y = some w →
    RE X ex σ H (fun u H1 => RE X ey σ H1 fun v H2 => ∃ F e, Rel X.K F H2 σ e ∧ VwR X.K F H2 u x ∧ VwR X.K F H2 v y ∧ Cont X.K F H2 σ e w Q) → RE X big σ H Q
theorem se_o2 {o : O2} {a b : E} (sa : SO N sc CX ex φ (opW (evalE φ a) a)) (sb : SO N sc CX ey φ (opW (evalE φ b) b)) (r : A2 N sc CX φ o ex ey big) : SE N sc CX big φ (evalE φ (.o2 o a b)) := by
  intro X G e w e' hr F H σ Q rel k
  simp only [evalE] at hr
  obtain ⟨⟨oa, e1⟩, r1, r2⟩ := bind_inv hr
  obtain ⟨⟨ob, e2⟩, r3, r4⟩ := bind_inv r2
  obtain ⟨x, r5, r6⟩ := bind_inv r4
  obtain ⟨y, r7, r8⟩ := bind_inv r6
  obtain ⟨r9, rfl⟩ := ret1_inv r8
  refine r X G σ H Q x y w r9 ?_
  refine sa X G e oa e1 r1 F H σ _ rel fun u F1 H1 p1 o1 _ => ?_
  refine sb X G e1 ob _ r3 F1 H1 σ _ p1.rel fun v F2 H2 p2 o2 _ => ?_
  have p := p1.trans p2
  exact ⟨F2, _, p.rel, (o1.stay p2).view p.rel (ofO_inv r5), o2.view p.rel (ofO_inv r7), fun v' F' H' p3 q3 f3 => k v' F' H' (p.trans p3) q3 (From.trans p f3)⟩
theorem A2.mk {o : O2} {r : Cx → R2} (pe : ∀ X, Good N sc CX X φ → PE X big fun σ H Q => RE X ex σ H fun u H1 => RE X ey σ H1 fun v H2 => r X u v H2 Q)
    (step : ∀ X, Good N sc CX X φ → ∀ σ H F e (Q : VK) x y w u v, op2 o x y = some w → Live X σ H → Rel X.K F H σ e → VwR X.K F H u x → VwR X.K F H v y → Cont X.K F H σ e w Q → r X u v H Q) : A2 N sc CX φ o ex ey big := by
  intro X G σ H Q x y w hw h
  refine RE.of (pe X G) (RE.mono h fun u H1 h2 => RE.mono (RE.live h2) fun v H2 ⟨l, F, e, rel, vu, vv, k⟩ => ?_)
  exact step X G σ H2 F e Q x y w u v hw l rel vu vv k
theorem A2.bin {op : Operator} {o : O2} {r : Cx → R2} {pos : Pos} (ho : ∀ X, Good N sc CX X φ → OpR X (binaryOp op) (r X))
    (step : ∀ X, Good N sc CX X φ → ∀ σ H F e (Q : VK) x y w u v, op2 o x y = some w → Live X σ H → Rel X.K F H σ e → VwR X.K F H u x → VwR X.K F H v y → Cont X.K F H σ e w Q → r X u v H Q) : A2 N sc CX φ o ex ey (.BinOp ex op ey pos) :=
  A2.mk (r := r) (fun X G => pe_op (ho X G) (peE ex) (peE ey)) step
/-- a comparison -/
def OC (N : List Str) (sc : Scope) (CX : CXT) (φ : Orc) (o : O2) (op : CmpOp) : Prop :=
  ∀ X, Good N sc CX X φ → ∃ r : R2, OpR X (compareOp op) r ∧ ∀ σ H F e (Q : VK) x y w u v, op2 o x y = some w → Live X σ H → Rel X.K F H σ e → VwR X.K F H u x → VwR X.K F H v y → Cont X.K F H σ e w Q → r u v H Q
theorem OC.a2 {op : CmpOp} {o : O2} {pos : Pos} (h : OC N sc CX φ o op) (hm : behindInMarks op ey = false) : A2 N sc CX φ o ex ey (.Compare ex [op] [ey] pos) := by
  intro X G σ H Q x y w hw hr
  obtain ⟨r, ho, step⟩ := h X G
  refine RE.of (pe_cmpR ho (peE ex) (peE ey) hm) (RE.mono hr fun u H1 h2 => RE.mono (RE.live h2) fun v H2 ⟨l, F, e, rel, vu, vv, k⟩ => ?_)
  exact step σ H2 F e Q x y w u v hw l rel vu vv k
theorem int2_inv {x y : D} {C : Int → Int → Bool} {f : Int → Int → D} {w : V} (h : int2 x y C f = some w) : ∃ i j, x = .int i ∧ y = .int j ∧ C i j = true ∧ w = .d (f i j) := by
  unfold int2 at h
  split at h
  · split at h
    · rename_i i j hc
      cases h
      exact ⟨i, j, rfl, rfl, hc, rfl⟩
    · cases h
  · cases h
theorem lst_addW (l : Addr) (items : Array Value) (n : Nat) (sl : Array (Option Value)) (b : Addr) (items2 : Array Value) (n2 : Nat) (sl2 : Array (Option Value)) (hc0 : items.size + items2.size ≤ sizeLine) :
    Meets (Builtin.«list.__add__» ⟨[.ref l, .ref b], []⟩) (fun _ R s => s.heap.get? l = some ⟨.type "list", none, .seq items n, sl⟩ ∧ s.heap.get? b = some ⟨.type "list", none, .seq items2 n2, sl2⟩ ∧
      R (.ok (.ret (Value.ref s.heap.objs.size))) { s with heap := s.heap.push { cls := Value.type "list", data := Data.seq (items ++ items2) } }) :=
  .of_wp fun prog w A R s h => by
    obtain ⟨hp, g, d, tk, os⟩ := s
    obtain ⟨hl, hb, h⟩ := h
    have f3 := PySem.AutoSeq1.sub_list_list
    have hz' : (items ++ items2).size ≤ sizeLine := by rw [Array.size_append]; exact hc0
    wp_walk using wpAny_loadPart' hl, wpAny_loadPart' hb
    exact ⟨_, rfl, h⟩
theorem op_catL {X : Cx} : OpR X (binaryOp .Add) fun x y H Q => ∃ l b xs zs, x = .ref l ∧ y = .ref b ∧ SqL X.K H l xs ∧ SqL X.K H b zs ∧ xs.length + zs.length ≤ sizeLine ∧ ∀ p, H p = none → Q (.ref p) (upd H p (.lst (xs ++ zs))) := by
  intro pins s σ H x y v u Q I rx ry h
  obtain ⟨l, b, xs, zs, rfl, rfl, h1, h2, hz, q⟩ := h
  cases rx
  cases ry
  obtain ⟨its, r, ⟨⟨c1, d1, t1, s1⟩, n, e1, g1, g2, g3⟩, _⟩ := I.list h1
  obtain ⟨its2, r2, ⟨⟨c2, d2, t2, s2⟩, n2, e2, g4, g5, g6⟩, _⟩ := I.list h2
  simp only at g1 g2 g3 g4 g5 g6
  subst g1 g2 g3 g4 g5 g6
  have l1 := r.length
  have l2 := r2.length
  refine concat_meets ⟨_, e1, rfl⟩ ⟨_, e2, rfl⟩ PySem.noFill_list_add PySem.seq_list_add PySem.F.slot_list_add PySem.F.entry_list_add (PySem.F.args_list_add_2 _ _)
    (lst_addW l its.toArray n s1 b its2.toArray n2 s2 (by rw [List.size_toArray, List.size_toArray, ← l1, ← l2]; exact hz)) ⟨e1, e2, ?_⟩
  have ea : its.toArray ++ its2.toArray = (its ++ its2).toArray := by simp
  rw [ea]
  exact ⟨.ref _, _, I.lnew (t' := s.toks) (r.append r2) (by rw [List.length_append]; exact hz), rfl, q _ I.fresh⟩
theorem op_catF {X : Cx} : OpR X (binaryOp .Add) fun x y H Q => ∃ a b xs ys, x = .ref a ∧ y = .ref b ∧ SqT X.K H a xs ∧ SqT X.K H b ys ∧ xs.length + ys.length ≤ sizeLine ∧
    (xs = [] → Q (.ref b) H) ∧ (xs ≠ [] → ys = [] → Q (.ref a) H) ∧ (xs ≠ [] → ys ≠ [] → ∀ p o, H p = none → o.dict = none → Q (.ref p) (upd H p (.frz o (.tup (xs ++ ys))))) := by
  intro pins s σ H x y v u Q I rx ry h
  obtain ⟨a, b, xs, ys, rfl, rfl, ha, hb, hz, q0, q1, q2⟩ := h
  by_cases hx : xs = []
  · exact op_catA pins s σ H _ _ v u Q I rx ry ⟨a, b, xs, ys, rfl, rfl, ha, hb, hz, q0, fun z => absurd hx z, fun z => absurd hx z⟩
  · cases rx
    cases ry
    obtain ⟨its, r1, p1, _⟩ := I.tuple ha
    obtain ⟨its2, r2, p2, _⟩ := I.tuple hb
    have l1 := r1.length
    have l2 := r2.length
    have n1 : its ≠ [] := fun z => hx (by rw [z] at l1; exact List.length_eq_zero_iff.mp l1)
    refine HT.cat_tup p1 p2 n1 (fun z => ?_) (fun z => ?_) (by rw [← l1, ← l2]; exact hz)
    · have : ys = [] := List.length_eq_zero_iff.mp (by rw [l2, z]; rfl)
      exact ⟨.ref a, H, I, rfl, q1 hx this⟩
    · have hy : ys ≠ [] := fun w => z (by rw [w] at l2; exact List.length_eq_zero_iff.mp l2.symm)
      have get := Heap.get?_push_size s.heap (o := { cls := .type "tuple", data := .seq (its ++ its2).toArray }) rfl
      exact ⟨.ref s.heap.objs.size, _, I.laid (o := .frz { cls := .type "tuple", data := .seq (its ++ its2).toArray } (.tup (xs ++ ys))) (t' := s.toks) (fun b o e => Heap.get?_push_of_some _ e) (Nat.le_refl _)
        (show ObjOk X.prog X.w _ _ _ (.frz _ _) from ⟨get, by rw [List.length_append]; exact hz, _, r1.append r2, _, get, rfl, _, rfl⟩), rfl, q2 hx hy _ _ I.fresh rfl⟩
theorem a2_add {pos : Pos} : A2 N sc CX φ .add ex ey (.BinOp ex .Add ey pos) := by
  refine A2.bin (fun X G => (op_add.or (op_add_ib.or (op_add_str.or (op_catF.or op_catL))))) fun X G σ H F e Q x y w u v hw l rel vu vv k => ?_
  cases x <;> cases y <;> first | (cases hw; done) | skip
  · cases hw
    exact .inr (.inl ⟨_, _, vu.int, vv.bool, k.int rel⟩)
  · cases hw
    exact .inl ⟨_, _, vu.int, vv.int, k.int rel⟩
  · simp only [op2, addD] at hw
    split at hw
    · rename_i hz
      cases hw
      exact .inr (.inr (.inl ⟨_, _, vu.str, vv.str, hz, k.str rel⟩))
    · cases hw
  · simp only [op2, addD] at hw
    split at hw
    · rename_i hz
      cases hw
      obtain ⟨a, us, rfl, h1, h2⟩ := vu.list rel.sub
      obtain ⟨b, vs, rfl, h3, h4⟩ := vv.list rel.sub
      exact .inr (.inr (.inr (.inr ⟨a, b, us, vs, rfl, rfl, h1, h3, by rw [rpAll_len h2, rpAll_len h4]; exact hz, fun p hp => k.lst rel (rpAll_app h2 h4) hp⟩)))
    · cases hw
  · simp only [op2, addD] at hw
    split at hw
    · rename_i hz
      cases hw
      obtain ⟨a, us, rfl, h1, h2⟩ := vu.tup rel.sub
      obtain ⟨b, vs, rfl, h3, h4⟩ := vv.tup rel.sub
      refine .inr (.inr (.inr (.inl ⟨a, b, us, vs, rfl, rfl, rel.sub.sqT h1.sq, rel.sub.sqT h3.sq, by rw [rpAll_len h2, rpAll_len h4]; exact hz, fun z => ?_, fun _ z => ?_, fun _ _ p o hp ho => k.tup rel (rpAll_app h2 h4) hp ho⟩)))
      · subst z
        cases h2
        exact k.val rel (.tup h3 h4)
      · subst z
        cases h4
        rw [List.append_nil] at k
        exact k.val rel (.tup h1 h2)
    · cases hw
theorem a2_sub {pos : Pos} : A2 N sc CX φ .sub ex ey (.BinOp ex .Sub ey pos) := by
  refine A2.bin (fun X G => op_sub) fun X G σ H F e Q x y w u v hw l rel vu vv k => ?_
  obtain ⟨i, j, rfl, rfl, _, rfl⟩ := int2_inv hw
  exact ⟨i, j, vu.int, vv.int, k.int rel⟩
theorem cMul_of {i j : Int} (h : i.natAbs < 2 ^ 64 ∨ j.natAbs < 2 ^ 64) : CMul i j := by
  unfold CMul
  rcases h with h | h
  · left; omega
  · right; omega
theorem a2_mul {pos : Pos} : A2 N sc CX φ .mul ex ey (.BinOp ex .Mult ey pos) := by
  refine A2.bin (fun X G => (op_mul.or (op_mulW.or op_mulT))) fun X G σ H F e Q x y w u v hw l rel vu vv k => ?_
  cases x <;> cases y <;> first | (cases hw; done) | skip
  · simp only [op2, mulD, intMul] at hw
    split at hw
    · rename_i hc
      cases hw
      rcases hc with hc | hc | hc
      · exact .inl ⟨_, _, vu.int, vv.int, cMul_of (.inl hc), k.int rel⟩
      · exact .inl ⟨_, _, vu.int, vv.int, cMul_of (.inr hc), k.int rel⟩
      · exact .inr (.inl ⟨_, _, vu.int, vv.int, hc, k.int rel⟩)
    · cases hw
  · simp only [op2, mulD] at hw
    split at hw
    · rename_i hc
      cases hw
      obtain ⟨a, us, rfl, h1, h2⟩ := vu.tup rel.sub
      have ln := rpAll_len h2
      refine .inr (.inr ⟨a, _, us, rfl, vv.int, rel.sub.sqT h1.sq, hc.1, hc.2.1, by rw [ln]; exact hc.2.2, fun z => ?_, fun _ p o hp ho => k.tup rel (rpAll_times h2 _) hp ho⟩)
      rcases z with z | z
      · subst z
        cases h2
        rw [times_nil] at k
        exact k.val rel (.tup h1 .nil)
      · subst z
        rw [times_one] at k
        exact k.val rel (.tup h1 h2)
    · cases hw
theorem a2_fdiv {pos : Pos} : A2 N sc CX φ .fdiv ex ey (.BinOp ex .FloorDiv ey pos) := by
  refine A2.bin (fun X G => op_fdivW) fun X G σ H F e Q x y w u v hw l rel vu vv k => ?_
  obtain ⟨i, j, rfl, rfl, hc, rfl⟩ := int2_inv hw
  have z := of_decide_eq_true hc
  refine ⟨i, j, vu.int, vv.int, ⟨z.1, ?_⟩, k.int rel⟩
  rcases z.2 with z2 | z2
  · have h0 : j.natAbs ≠ 0 := by have := z.1; omega
    have h1 : j.natAbs < 2 ^ 64 := by omega
    have := (Nat.log2_lt h0).mpr h1
    omega
  · exact z2
theorem a2_mod {pos : Pos} : A2 N sc CX φ .mod ex ey (.BinOp ex .Mod ey pos) := by
  refine A2.bin (fun X G => op_mod) fun X G σ H F e Q x y w u v hw l rel vu vv k => ?_
  obtain ⟨i, j, rfl, rfl, hc, rfl⟩ := int2_inv hw
  exact ⟨i, j, vu.int, vv.int, (by have z := of_decide_eq_true hc; exact z), k.int rel⟩
theorem a2_pow {pos : Pos} : A2 N sc CX φ .pow ex ey (.BinOp ex .Pow ey pos) := by
  refine A2.bin (fun X G => op_pow) fun X G σ H F e Q x y w u v hw l rel vu vv k => ?_
  obtain ⟨i, j, rfl, rfl, hc, rfl⟩ := int2_inv hw
  exact ⟨i, j, vu.int, vv.int, (by have z := of_decide_eq_true hc; exact z), k.int rel⟩
theorem a2_shl {pos : Pos} : A2 N sc CX φ .shl ex ey (.BinOp ex .LShift ey pos) := by
  refine A2.bin (fun X G => op_shl) fun X G σ H F e Q x y w u v hw l rel vu vv k => ?_
  obtain ⟨i, j, rfl, rfl, hc, rfl⟩ := int2_inv hw
  exact ⟨i, j, vu.int, vv.int, (by have z := of_decide_eq_true hc; exact z), k.int rel⟩
theorem a2_shr {pos : Pos} : A2 N sc CX φ .shr ex ey (.BinOp ex .RShift ey pos) := by
  refine A2.bin (fun X G => op_shr) fun X G σ H F e Q x y w u v hw l rel vu vv k => ?_
  obtain ⟨i, j, rfl, rfl, hc, rfl⟩ := int2_inv hw
  exact ⟨i, j, vu.int, vv.int, (by have z := of_decide_eq_true hc; exact z), k.int rel⟩
theorem a2_band {pos : Pos} : A2 N sc CX φ .band ex ey (.BinOp ex .BitAnd ey pos) := by
  refine A2.bin (fun X G => op_and) fun X G σ H F e Q x y w u v hw l rel vu vv k => ?_
  obtain ⟨i, j, rfl, rfl, hc, rfl⟩ := int2_inv hw
  exact ⟨i, j, vu.int, vv.int, k.int rel⟩
theorem a2_bxor {pos : Pos} : A2 N sc CX φ .bxor ex ey (.BinOp ex .BitXor ey pos) := by
  refine A2.bin (fun X G => op_xor) fun X G σ H F e Q x y w u v hw l rel vu vv k => ?_
  obtain ⟨i, j, rfl, rfl, hc, rfl⟩ := int2_inv hw
  exact ⟨i, j, vu.int, vv.int, k.int rel⟩
/-! ### comparisons -/
theorem eqD_inv {x y : D} {b : Bool} (h : eqD x y = some b) : (∃ i j, x = .int i ∧ y = .int j ∧ b = (i == j)) ∨ (∃ i j, x = .bool i ∧ y = .bool j ∧ b = (i == j)) ∨ (∃ i j, x = .str i ∧ y = .str j ∧ b = (i == j)) ∨
    (SeqAt.shaped x = true ∧ SeqAt.shaped y = true ∧ b = x.eqv y) ∨ (∃ a c, x = .list a ∧ y = .list c ∧ a.length ≠ c.length ∧ b = false) := by
  unfold eqD at h
  split at h
  · cases h; exact .inl ⟨_, _, rfl, rfl, rfl⟩
  · cases h; exact .inr (.inl ⟨_, _, rfl, rfl, rfl⟩)
  · cases h; exact .inr (.inr (.inl ⟨_, _, rfl, rfl, rfl⟩))
  · split at h
    · rename_i hc
      rw [Bool.and_eq_true] at hc
      cases h
      exact .inr (.inr (.inr (.inl ⟨hc.1, hc.2, rfl⟩)))
    · split at h
      · rename_i hu
        cases h
        unfold uneven at hu
        split at hu
        · exact .inr (.inr (.inr (.inr ⟨_, _, rfl, rfl, of_decide_eq_true hu, rfl⟩)))
        · cases hu
      · cases h
/-- lists of unlike lengths -/
def rLn (K : Frag) (r : Bool) : R2 := fun x y H Q => ∃ a b xs ys, x = .ref a ∧ y = .ref b ∧ SqL K H a xs ∧ SqL K H b ys ∧ xs.length ≠ ys.length ∧ Q (.bl r) H
theorem op_eqLn {X : Cx} (hu : X.A.units < cLine) : OpR X (compareOp .Eq) (rLn X.K false) := by
  intro pins s σ H x y v u Q I rx ry h
  obtain ⟨a, b, xs, ys, rfl, rfl, h1, h2, hl, q⟩ := h
  cases rx
  cases ry
  obtain ⟨i1, r1, ⟨o1, n1, e1, c1, _, d1⟩, _⟩ := I.list h1
  obtain ⟨i2, r2, ⟨o2, n2, e2, c2, _, d2⟩, _⟩ := I.list h2
  have l1 := r1.length
  have l2 := r2.length
  exact SeqAt.RcAt.lists_lengths ⟨o1, e1, c1, n1, d1⟩ ⟨o2, e2, c2, n2, d2⟩ (by simp; omega) hu X.prog X.w _ _ ⟨.bl false, H, I, rfl, q⟩
theorem op_neLn {X : Cx} (hu : X.A.units < cLine) : OpR X (compareOp .NotEq) (rLn X.K true) := by
  intro pins s σ H x y v u Q I rx ry h
  obtain ⟨a, b, xs, ys, rfl, rfl, h1, h2, hl, q⟩ := h
  cases rx
  cases ry
  obtain ⟨i1, r1, ⟨o1, n1, e1, c1, _, d1⟩, _⟩ := I.list h1
  obtain ⟨i2, r2, ⟨o2, n2, e2, c2, _, d2⟩, _⟩ := I.list h2
  have l1 := r1.length
  have l2 := r2.length
  exact SeqAt.RcNeAt.lists_lengths ⟨o1, e1, c1, n1, d1⟩ ⟨o2, e2, c2, n2, d2⟩ (by simp; omega) hu X.prog X.w _ _ ⟨.bl true, H, I, rfl, q⟩
theorem oc_eq : OC N sc CX φ .eq .Eq := by
  refine fun X G => ⟨_, op_eq.or ((op_eqD (by have := G.units; omega)).or (op_eqLn (by have := G.units; omega))), fun σ H F e Q x y w u v hw l rel vu vv k => ?_⟩
  simp only [op2, Option.map_eq_some_iff] at hw
  obtain ⟨b, hb, rfl⟩ := hw
  rcases eqD_inv hb with ⟨i, j, rfl, rfl, rfl⟩ | ⟨i, j, rfl, rfl, rfl⟩ | ⟨i, j, rfl, rfl, rfl⟩ | ⟨h1, h2, rfl⟩ | ⟨a, c, rfl, rfl, hl, rfl⟩
  · rw [vu.int, vv.int]; exact .inl ⟨rfl, by rw [dec_int]; exact k.bl rel⟩
  · rw [vu.bool, vv.bool]; exact .inl ⟨rfl, by rw [dec_bl]; exact k.bl rel⟩
  · rw [vu.str, vv.str]; exact .inl ⟨rfl, by rw [dec_str]; exact k.bl rel⟩
  · exact .inr (.inl ⟨x, y, vu.dp rel.sub (lay_of h1), vv.dp rel.sub (lay_of h2), h1, h2, k.bl rel⟩)
  · obtain ⟨p, vs, rfl, q1, q2⟩ := vu.list rel.sub
    obtain ⟨p', vs', rfl, q3, q4⟩ := vv.list rel.sub
    exact .inr (.inr ⟨p, p', vs, vs', rfl, rfl, q1, q3, by rw [rpAll_len q2, rpAll_len q4]; exact hl, k.bl rel⟩)
theorem oc_ne : OC N sc CX φ .ne .NotEq := by
  refine fun X G => ⟨_, op_ne.or ((op_neD (by have := G.units; omega)).or (op_neLn (by have := G.units; omega))), fun σ H F e Q x y w u v hw l rel vu vv k => ?_⟩
  simp only [op2, Option.map_eq_some_iff] at hw
  obtain ⟨b, hb, rfl⟩ := hw
  rcases eqD_inv hb with ⟨i, j, rfl, rfl, rfl⟩ | ⟨i, j, rfl, rfl, rfl⟩ | ⟨i, j, rfl, rfl, rfl⟩ | ⟨h1, h2, rfl⟩ | ⟨a, c, rfl, rfl, hl, rfl⟩
  · rw [vu.int, vv.int]; exact .inl ⟨rfl, by rw [dec_int]; exact k.bl rel⟩
  · rw [vu.bool, vv.bool]; exact .inl ⟨rfl, by rw [dec_bl]; exact k.bl rel⟩
  · rw [vu.str, vv.str]; exact .inl ⟨rfl, by rw [dec_str]; exact k.bl rel⟩
  · exact .inr (.inl ⟨x, y, vu.dp rel.sub (lay_of h1), vv.dp rel.sub (lay_of h2), h1, h2, k.bl rel⟩)
  · obtain ⟨p, vs, rfl, q1, q2⟩ := vu.list rel.sub
    obtain ⟨p', vs', rfl, q3, q4⟩ := vv.list rel.sub
    exact .inr (.inr ⟨p, p', vs, vs', rfl, rfl, q1, q3, by rw [rpAll_len q2, rpAll_len q4]; exact hl, k.bl rel⟩)
theorem cmpD_inv {x y : D} {f : Int → Int → Bool} {g : List Int → List Int → Option Bool} {w : V} (h : cmpD x y f g = some w) :
    (∃ i j, x = .int i ∧ y = .int j ∧ w = .d (.bool (f i j))) ∨ (∃ ns ms r, x = .tuple (ns.map .int) ∧ y = .tuple (ms.map .int) ∧ g ns ms = some r ∧ w = .d (.bool r)) := by
  unfold cmpD at h
  split at h
  · cases h; exact .inl ⟨_, _, rfl, rfl, rfl⟩
  · simp only [Option.bind_eq_some_iff, Option.map_eq_some_iff] at h
    obtain ⟨ns, h1, ms, h2, r, h3, rfl⟩ := h
    exact .inr ⟨ns, ms, r, by rw [ints_eq h1], by rw [ints_eq h2], h3, rfl⟩
  · cases h
theorem lexB_eq : ∀ ns ms : List Int, lexB ns ms = HT.lexLt ns ms
  | [], [] => rfl
  | [], _ :: _ => rfl
  | _ :: _, [] => rfl
  | x :: xs, y :: ys => by
    rw [HT.lexLt_cons, ← lexB_eq xs ys]; rfl
theorem tup_ints {K : Frag} {F H : Hp} (s : Sub F H) {v : L2.V} {ns : List Int} (h : VwR K F H v (.tuple (ns.map .int))) : ∃ a, v = .ref a ∧ SqT K H a (ns.map L2.V.int) := by
  obtain ⟨a, vs, rfl, h1, h2⟩ := h.tup s
  rw [vs_ints h2] at h1
  exact ⟨a, rfl, s.sqT h1.sq⟩
theorem oc_lt : OC N sc CX φ .lt .Lt := by
  refine fun X G => ⟨_, op_lt.or (op_ltT (by have := G.units; omega)), fun σ H F e Q x y w u v hw l rel vu vv k => ?_⟩
  rcases cmpD_inv hw with ⟨i, j, rfl, rfl, rfl⟩ | ⟨ns, ms, r, rfl, rfl, hg, rfl⟩
  · exact .inl ⟨i, j, vu.int, vv.int, k.bl rel⟩
  · cases hg
    obtain ⟨a, rfl, h1⟩ := tup_ints rel.sub vu
    obtain ⟨b, rfl, h2⟩ := tup_ints rel.sub vv
    exact .inr ⟨a, b, ns, ms, rfl, rfl, h1, h2, by rw [← lexB_eq]; exact k.bl rel⟩
theorem oc_le : OC N sc CX φ .le .LtE := by
  refine fun X G => ⟨_, op_le, fun σ H F e Q x y w u v hw l rel vu vv k => ?_⟩
  rcases cmpD_inv hw with ⟨i, j, rfl, rfl, rfl⟩ | ⟨ns, ms, r, rfl, rfl, hg, rfl⟩
  · exact ⟨i, j, vu.int, vv.int, k.bl rel⟩
  · cases hg
theorem oc_gt : OC N sc CX φ .gt .Gt := by
  refine fun X G => ⟨_, op_gt, fun σ H F e Q x y w u v hw l rel vu vv k => ?_⟩
  rcases cmpD_inv hw with ⟨i, j, rfl, rfl, rfl⟩ | ⟨ns, ms, r, rfl, rfl, hg, rfl⟩
  · exact ⟨i, j, vu.int, vv.int, k.bl rel⟩
  · cases hg
theorem oc_ge : OC N sc CX φ .ge .GtE := by
  refine fun X G => ⟨_, op_ge, fun σ H F e Q x y w u v hw l rel vu vv k => ?_⟩
  rcases cmpD_inv hw with ⟨i, j, rfl, rfl, rfl⟩ | ⟨ns, ms, r, rfl, rfl, hg, rfl⟩
  · exact ⟨i, j, vu.int, vv.int, k.bl rel⟩
  · cases hg
/-! ### items -/
theorem ixN_eq (n : Nat) (i : Int) : ixN n i = L2.ixN n i := by
  unfold ixN L2.ixN
  split
  · rfl
  · split
    · rw [if_pos (by omega)]
    · rw [if_neg (by omega)]
theorem a2_idx {pos : Pos} (hp : PlainIx ey) : A2 N sc CX φ .idx ex ey (.Subscript ex ey pos) := by
  refine A2.mk (r := fun X u v H Q => rIxL X.K u v H Q ∨ rIxT X.K u v H Q) (fun X G => pe_ix (ix_list.or ix_tup) (peE ex) (peE ey) hp) fun X G σ H F e Q x y w u v hw l rel vu vv k => ?_
  cases y <;> first | (cases hw; done) | skip
  rename_i i
  simp only [op2, Option.bind_eq_some_iff, Option.map_eq_some_iff] at hw
  obtain ⟨xs, h0, z, hz, rfl⟩ := hw
  unfold atI at hz
  simp only [Option.bind_eq_some_iff] at hz
  obtain ⟨j, hj, hz⟩ := hz
  rw [ixN_eq] at hj
  cases x <;> first | (cases h0; done) | skip
  · cases h0
    obtain ⟨a, vs, rfl, h1, h2⟩ := vu.list rel.sub
    obtain ⟨v', h3, h4⟩ := rpAll_get h2 hz
    refine .inl ⟨a, vs, i, v', rfl, vv.int, h1, ?_, k.val rel h4⟩
    unfold L2.atI
    rw [rpAll_len h2, hj]; exact h3
  · cases h0
    obtain ⟨a, vs, rfl, h1, h2⟩ := vu.tup rel.sub
    obtain ⟨v', h3, h4⟩ := rpAll_get h2 hz
    refine .inr ⟨a, vs, i, v', rfl, vv.int, rel.sub.sqT h1.sq, ?_, k.val rel h4⟩
    unfold L2.atI
    rw [rpAll_len h2, hj]; exact h3
/-! ### min, max of two -/
theorem a2_min {p pos : Pos} (hg : GlS sc (Str.ofString "min")) (h1 : noStar ex = true) (h2 : noStar ey = true) : A2 N sc CX φ .min2 ex ey (.Call (.Name (Str.ofString "min") p) [ex, ey] [] pos) := by
  refine A2.mk (r := fun X u v H Q => ∃ i j, [u, v] = [L2.V.int i, .int j] ∧ Q (.int (if j < i then j else i)) H)
    (fun X G => pe_callB (call_min2 G.calm) (G.gl hg) (G.blt "min" (by decide)) PyProof.Rows.boot_min (pa_cons (peE ex) (pa_cons (peE ey) pa_nil (star_of h2)) (star_of h1)) (by decide) (by decide) (star_of h1) (plain_of (es := [ey]) (by simp [noStars, h2]))) fun X G σ H F e Q x y w u v hw l rel vu vv k => ?_
  obtain ⟨i, j, rfl, rfl, _, rfl⟩ := int2_inv hw
  exact ⟨i, j, by rw [vu.int, vv.int], k.int rel⟩
theorem a2_max {p pos : Pos} (hg : GlS sc (Str.ofString "max")) (h1 : noStar ex = true) (h2 : noStar ey = true) : A2 N sc CX φ .max2 ex ey (.Call (.Name (Str.ofString "max") p) [ex, ey] [] pos) := by
  refine A2.mk (r := fun X u v H Q => ∃ i j, [u, v] = [L2.V.int i, .int j] ∧ Q (.int (if j > i then j else i)) H)
    (fun X G => pe_callB (call_max2 G.calm) (G.gl hg) (G.blt "max" (by decide)) PyProof.Rows.boot_max (pa_cons (peE ex) (pa_cons (peE ey) pa_nil (star_of h2)) (star_of h1)) (by decide) (by decide) (star_of h1) (plain_of (es := [ey]) (by simp [noStars, h2]))) fun X G σ H F e Q x y w u v hw l rel vu vv k => ?_
  obtain ⟨i, j, rfl, rfl, _, rfl⟩ := int2_inv hw
  exact ⟨i, j, by rw [vu.int, vv.int], k.int rel⟩
/-! ### in, not in -/
theorem op_inX (X : Cx) (hu : X.A.units + 65 < cLine) : OpR X (compareOp .In) fun x y H Q => ∃ d ds, L2.Dp X.K H x d ∧ (L2.Dp X.K H y (.list ds) ∨ L2.Dp X.K H y (.tuple ds)) ∧ SeqAt.shaped d = true ∧ SeqAt.shaped (.list ds) = true ∧ Q (.bl (ds.any fun z => PyData.eqv z d)) H := by
  intro pins s σ H x y v u Q I rx ry h
  obtain ⟨d, ds, hd, he, sd, se, q⟩ := h
  obtain ⟨as, r1⟩ := Dp.reads I d x v hd rx
  rcases he with he | he
  · obtain ⟨bs, r2⟩ := Dp.reads I (.list ds) y u he ry
    exact SeqAt.in_list_reads r2 r1 (SeqAt.canLay_of_shaped se) (SeqAt.canLay_of_shaped sd) (PyProof.Rows.room_in_shaped sd hu) ⟨.bl _, H, I, rfl, q⟩
  · obtain ⟨bs, r2⟩ := Dp.reads I (.tuple ds) y u he ry
    exact SeqAt.in_tuple_reads r2 r1 (SeqAt.canLay_of_shaped se) (SeqAt.canLay_of_shaped sd) (PyProof.Rows.room_in_shaped sd hu) ⟨.bl _, H, I, rfl, q⟩
theorem op_notInX (X : Cx) (hu : X.A.units + 65 < cLine) : OpR X (compareOp .NotIn) fun x y H Q => ∃ d ds, L2.Dp X.K H x d ∧ (L2.Dp X.K H y (.list ds) ∨ L2.Dp X.K H y (.tuple ds)) ∧ SeqAt.shaped d = true ∧ SeqAt.shaped (.list ds) = true ∧ Q (.bl (!ds.any fun z => PyData.eqv z d)) H := by
  intro pins s σ H x y v u Q I rx ry h
  obtain ⟨d, ds, hd, he, sd, se, q⟩ := h
  obtain ⟨as, r1⟩ := Dp.reads I d x v hd rx
  rcases he with he | he
  · obtain ⟨bs, r2⟩ := Dp.reads I (.list ds) y u he ry
    exact SeqAt.notIn_list_reads r2 r1 (SeqAt.canLay_of_shaped se) (SeqAt.canLay_of_shaped sd) (PyProof.Rows.room_in_shaped sd hu) ⟨.bl _, H, I, rfl, q⟩
  · obtain ⟨bs, r2⟩ := Dp.reads I (.tuple ds) y u he ry
    exact SeqAt.notIn_tuple_reads r2 r1 (SeqAt.canLay_of_shaped se) (SeqAt.canLay_of_shaped sd) (PyProof.Rows.room_in_shaped sd hu) ⟨.bl _, H, I, rfl, q⟩
theorem shaped_tup {ds : List D} (h : shapedB (.tuple ds) = true) : SeqAt.shaped (.list ds) = true := by
  have h' : ((PyData.tuple ds).canLay0 && decide ((PyData.tuple ds).depth ≤ 64)) = true := h
  simpa [SeqAt.shaped, PyData.canLay0, PyData.depth] using h'
theorem inD_inv {x y : D} {b : Bool} (h : inD x y = some b) : ∃ ds, (y = .list ds ∨ y = .tuple ds) ∧ SeqAt.shaped x = true ∧ SeqAt.shaped (.list ds) = true ∧ b = ds.any fun z => z.eqv x := by
  unfold inD at h
  split at h
  · split at h
    · rename_i hc
      rw [Bool.and_eq_true] at hc
      cases h
      exact ⟨_, .inl rfl, hc.1, hc.2, rfl⟩
    · cases h
  · split at h
    · rename_i hc
      rw [Bool.and_eq_true] at hc
      cases h
      exact ⟨_, .inr rfl, hc.1, shaped_tup hc.2, rfl⟩
    · cases h
  · cases h
theorem oc_in : OC N sc CX φ .inn .In := by
  refine fun X G => ⟨_, op_inX X (by have := G.units; omega), fun σ H F e Q x y w u v hw l rel vu vv k => ?_⟩
  simp only [op2, Option.map_eq_some_iff] at hw
  obtain ⟨b, hb, rfl⟩ := hw
  obtain ⟨ds, hy, h1, h2, rfl⟩ := inD_inv hb
  refine ⟨x, ds, vu.dp rel.sub (lay_of h1), ?_, h1, h2, k.bl rel⟩
  rcases hy with rfl | rfl
  · exact .inl (vv.dp rel.sub (lay_of h2))
  · exact .inr (vv.dp rel.sub (lay_of h2))
theorem oc_notin : OC N sc CX φ .notin .NotIn := by
  refine fun X G => ⟨_, op_notInX X (by have := G.units; omega), fun σ H F e Q x y w u v hw l rel vu vv k => ?_⟩
  simp only [op2, Option.map_eq_some_iff] at hw
  obtain ⟨b, hb, rfl⟩ := hw
  obtain ⟨ds, hy, h1, h2, rfl⟩ := inD_inv hb
  refine ⟨x, ds, vu.dp rel.sub (lay_of h1), ?_, h1, h2, k.bl rel⟩
  rcases hy with rfl | rfl
  · exact .inl (vv.dp rel.sub (lay_of h2))
  · exact .inr (vv.dp rel.sub (lay_of h2))
end
end Sw
end T_SwG
section T_SwH
set_option autoImplicit false
set_option linter.all false
set_option Elab.async false
set_option maxRecDepth 100000
/-! SwH: repeats, slices, places, methods of one operand. -/
namespace Sw
open PySem L2
section
variable {N : List Str} {sc : Scope} {CX : CXT} {φ : Orc} {ex ey ez big : Expr} {exs : List Expr}
theorem rpAll_rep {K : Frag} {F : Hp} {vs : List L2.V} {xs : List D} (h : RpAll K F vs xs) : ∀ n : Nat, RpAll K F (List.replicate n vs).flatten (List.replicate n xs).flatten
  | 0 => .nil
  | n + 1 => by
    rw [List.replicate_succ, List.replicate_succ, List.flatten_cons, List.flatten_cons]
    exact rpAll_app h (rpAll_rep h n)
theorem se_rep {as : Es} {a : E} {p1 pos : Pos} (h : SDs N sc CX exs φ (evalDs φ as)) (hb : SO N sc CX ey φ (opW (evalE φ a) a)) :
    SE N sc CX (.BinOp (.List exs p1) .Mult ey pos) φ (evalE φ (.rep false as a)) := by
  intro X G e w e' hr F H σ Q rel k
  simp only [evalE] at hr
  obtain ⟨⟨xs, e1⟩, r1, r2⟩ := bind_inv hr
  obtain ⟨⟨o, e2⟩, r3, r4⟩ := bind_inv r2
  obtain ⟨y, r5, r6⟩ := bind_inv r4
  unfold repR at r6
  dsimp only at r6
  cases y <;> first | (cases r6; done) | skip
  rename_i j
  dsimp only at r6
  split at r6
  case isFalse => cases r6
  rename_i hz0
  have hz := of_decide_eq_true hz0
  simp only [Bool.false_eq_true, if_false] at r6
  cases r6
  refine RE.of (pe_op op_rep (pe_lst (paA exs)) (peE ey)) ?_
  refine h X G e xs e1 r1 F H σ _ rel fun vs F1 H1 p1 d1 => ⟨by rw [rpAll_len d1]; exact hz.1, fun p hp => ?_⟩
  obtain ⟨q1, q2, q3⟩ := fresh_res p1 hp d1
  refine hb X G e1 o _ r3 F1 _ σ _ q1.rel fun v F2 H2 p2 o2 _ => ?_
  obtain ⟨a, vs', ha, h1, h2, h3, h4⟩ := q2.stay p2
  cases ha
  have vv := o2.view p2.rel (ofO_inv r5)
  refine ⟨p, j, vs', rfl, vv.int, h1, hz.2.1, hz.2.2.1, by rw [rpAll_len h3]; exact hz.2.2.2, fun p' hp' => ?_⟩
  obtain ⟨s1, s2, s3⟩ := fresh_res (q1.trans p2) hp' (rpAll_rep h3 _)
  exact k _ _ _ s1 s2 s3
/-! ### slices -/
def RO (X : Cx) : Option Expr → TO
  | none => tNoPart
  | some e => tPart (RE X e)
theorem poO {X : Cx} : ∀ eo : Option Expr, PO X eo (RO X eo)
  | none => po_none
  | some e => po_some (peE e)
def SPt (N : List Str) (sc : Scope) (CX : CXT) (eo : Option Expr) (φ : Orc) (r : Env → R (Option Int × Env)) : Prop :=
  ∀ X, Good N sc CX X φ → ∀ e w e', r e = .ok (w, e') → ∀ F H σ (Q : Option Int → Hp → Prop), Rel X.K F H σ e →
    (∀ F' H', Post X.K F H σ e F' H' σ e' → Q w H') → RO X eo σ H Q
theorem sp_none : SPt N sc CX none φ (evalPart φ .no) := by
  intro X G e w e' hr F H σ Q rel k
  simp only [evalPart] at hr
  cases hr
  exact k F H (Post.refl rel)
theorem sp_some {a : E} (h : SD N sc CX ex φ (daW (evalE φ a))) : SPt N sc CX (some ex) φ (evalPart φ (.yes a)) := by
  intro X G e w e' hr F H σ Q rel k
  simp only [evalPart] at hr
  obtain ⟨⟨x, e1⟩, r1, r2⟩ := bind_inv hr
  dsimp only at r2
  cases x <;> first | (cases r2; done) | skip
  cases r2
  refine h X G e _ _ r1 F H σ _ rel fun v F' H' p d => ?_
  cases d
  exact ⟨_, rfl, k F' H' p⟩
theorem cutIx_eq (n d : Nat) (i : Option Int) : HT.sIx n d i = cutIx n d i := by
  cases i with
  | none => rfl
  | some v => rfl
theorem cutV_eq (xs : List L2.V) (lo hi : Option Int) : cutV xs lo hi = cut xs lo hi := by
  unfold cutV cut
  rw [cutIx_eq, cutIx_eq]
theorem rpAll_cut {K : Frag} {F : Hp} {vs : List L2.V} {xs : List D} (h : RpAll K F vs xs) (lo hi : Option Int) : RpAll K F (cut vs lo hi) (cut xs lo hi) := by
  have hl := rpAll_len h
  refine rpAll_of ?_ fun i v d h1 h2 => ?_
  · unfold cut
    rw [hl]
    simp [List.length_take, List.length_drop, hl]
  · unfold cut at h1 h2
    rw [hl] at h1
    rw [List.getElem?_take] at h1 h2
    split at h1
    · rename_i hc
      rw [if_pos hc] at h2
      rw [List.getElem?_drop] at h1 h2
      obtain ⟨v', e1, r⟩ := rpAll_get h h2
      rw [h1] at e1; cases e1
      exact r
    · cases h1
theorem sl_tupF {X : Cx} : SlR X fun x lo hi H Q => ∃ a xs, x = .ref a ∧ SqT X.K H a xs ∧
    (HT.sIx xs.length 0 lo = 0 ∧ HT.sIx xs.length xs.length hi = xs.length → Q (.ref a) H) ∧
    (¬ (HT.sIx xs.length 0 lo = 0 ∧ HT.sIx xs.length xs.length hi = xs.length) → ∀ p o, H p = none → o.dict = none → Q (.ref p) (upd H p (.frz o (.tup (cutV xs lo hi))))) := by
  intro pins s σ H x v vl vu lo hi sl Q I rx hs pl pu h
  obtain ⟨a, xs, rfl, hx, q1, q2⟩ := h
  by_cases hw : HT.sIx xs.length 0 lo = 0 ∧ HT.sIx xs.length xs.length hi = xs.length
  · exact sl_tupA pins s σ H _ v vl vu lo hi sl Q I rx hs pl pu ⟨a, xs, rfl, hx, q1, fun z => absurd hw z⟩
  · cases rx
    obtain ⟨its, r, ht, hz⟩ := I.tuple hx
    have hn : its.toArray.size = xs.length := by rw [List.size_toArray]; exact r.length.symm
    refine ⟨"tuple", _, PyProof.Rows.slot_tuple_getitem.lookup, ht.typeIs, ?_⟩
    refine HT.getItem_tuple_cut ht hs pl pu (by rw [hn]; exact hw) ?_ (by rw [hn]; exact hz)
    rw [hn]
    have get := Heap.get?_push_size s.heap (o := { cls := .type "tuple", data := .seq ((its.drop (HT.sIx xs.length 0 lo)).take (HT.sIx xs.length xs.length hi - HT.sIx xs.length 0 lo)).toArray }) rfl
    have hc : Vals (cutV xs lo hi) ((its.drop (HT.sIx xs.length 0 lo)).take (HT.sIx xs.length xs.length hi - HT.sIx xs.length 0 lo)) := Vals.take _ (Vals.drop _ r)
    exact ⟨.ref s.heap.objs.size, _, I.laid (o := .frz { cls := .type "tuple", data := .seq ((its.drop (HT.sIx xs.length 0 lo)).take (HT.sIx xs.length xs.length hi - HT.sIx xs.length 0 lo)).toArray } (.tup (cutV xs lo hi))) (t' := s.toks) (fun b o e => Heap.get?_push_of_some _ e) (Nat.le_refl _)
      (show ObjOk X.prog X.w _ _ _ (.frz _ _) from ⟨get, Nat.le_trans (cutV_length xs lo hi) hz, _, hc, _, get, rfl, _, rfl⟩), rfl, q2 hw _ _ I.fresh rfl⟩
theorem cut_whole {α : Type} {xs : List α} {lo hi : Option Int} (h : HT.sIx xs.length 0 lo = 0 ∧ HT.sIx xs.length xs.length hi = xs.length) : cut xs lo hi = xs := by
  unfold cut
  rw [← cutIx_eq, ← cutIx_eq, h.1, h.2]
  simp
theorem se_slice {a : E} {lo hi : Eo} {el eh : Option Expr} {p2 pos : Pos} (ha : SO N sc CX ex φ (opW (evalE φ a) a)) (hl : SPt N sc CX el φ (evalPart φ lo)) (hh : SPt N sc CX eh φ (evalPart φ hi)) :
    SE N sc CX (.Subscript ex (.Slice el eh none p2) pos) φ (evalE φ (.slice a lo hi)) := by
  intro X G e w e' hr F H σ Q rel k
  simp only [evalE] at hr
  obtain ⟨⟨oa, e1⟩, r1, r2⟩ := bind_inv hr
  obtain ⟨⟨l, e2⟩, r3, r4⟩ := bind_inv r2
  obtain ⟨⟨u, e3⟩, r5, r6⟩ := bind_inv r4
  obtain ⟨x, r7, r8⟩ := bind_inv r6
  obtain ⟨r9, rfl⟩ := ret1_inv r8
  refine RE.of (pe_slice (sl_list.or sl_tupF) (peE ex) (poO el) (poO eh)) ?_
  refine ha X G e oa e1 r1 F H σ _ rel fun u0 F1 H1 p1 o1 _ => ?_
  refine hl X G e1 l e2 r3 F1 H1 σ _ p1.rel fun F2 H2 p2 => ?_
  refine hh X G e2 u _ r5 F2 H2 σ _ p2.rel fun F3 H3 p3 => ?_
  have p := p1.trans (p2.trans p3)
  have vu := (o1.stay (p2.trans p3)).view p.rel (ofO_inv r7)
  cases x <;> first | (cases r9; done) | skip
  · cases r9
    obtain ⟨b, vs, rfl, h1, h2⟩ := vu.list p.rel.sub
    refine .inl ⟨b, vs, rfl, h1, fun q hq => ?_⟩
    rw [cutV_eq]
    obtain ⟨s1, s2, s3⟩ := fresh_res p hq (rpAll_cut h2 l u)
    exact k _ _ _ s1 s2 s3
  · cases r9
    obtain ⟨b, vs, rfl, h1, h2⟩ := vu.tup p.rel.sub
    refine .inr ⟨b, vs, rfl, p.rel.sub.sqT h1.sq, fun hw => ?_, fun _ q o hq ho => ?_⟩
    · have hw' := hw
      rw [rpAll_len h2] at hw'
      rw [cut_whole hw'] at k
      exact k _ _ _ p (.tup h1 h2) trivial
    · rw [cutV_eq]
      obtain ⟨s1, s2⟩ := data_res p hq ho (rpAll_cut h2 l u)
      exact k _ _ _ s1 s2 trivial
/-! ### methods -/
def isBase : Expr → Bool
  | .Call _ [] [] _ => false
  | _ => true
theorem base_of {o : Expr} {n : Str} {env : PySem.Env} {t : Sem Value} (h : isBase o = true) : attributeBase o n env t = t := by
  unfold attributeBase
  split
  · cases h
  · rfl
/-- a value's type, wherever the state is -/
def Ty (X : Cx) (T : String) (u : L2.V) (σ : L2.St) (H : Hp) : Prop := ∀ pins s v, Inv X pins σ H s → RelV u v → s.TypeIs v T ∧ ∀ a, v = .ref a → ∃ ob, s.heap.get? a = some ob ∧ ob.dict = none
theorem ty_list {X : Cx} {σ : L2.St} {H : Hp} {a : Addr} {xs : List L2.V} (h : SqL X.K H a xs) : Ty X "list" (.ref a) σ H := fun pins s v I r => tyV_is I r (.inl ⟨rfl, xs, h⟩)
theorem ty_tup {X : Cx} {σ : L2.St} {H : Hp} {a : Addr} {xs : List L2.V} (h : TupX X.K H a xs) : Ty X "tuple" (.ref a) σ H := fun pins s v I r => by
  rcases h with ⟨o, h, hd⟩ | ⟨o, its, n, h1, h2, h3, _⟩
  · cases r
    obtain ⟨get, _, its, _, o', get', hc, _⟩ := I.hok a _ h
    rw [get] at get'
    cases get'
    exact ⟨⟨o, get, hc⟩, fun b e => by cases e; exact ⟨o, get, hd⟩⟩
  · exact tyV_is I r (.inr (.inl ⟨rfl, o, h1, h2, h3⟩))
theorem few1 {ey : Expr} {env : PySem.Env} {cpos : Pos} (h : noStar ey = true) : ((backTo cpos (starEach [ey] env)).all (fun x => !x.1) && (backToKw cpos (keywordEach [] env)).all (fun x => x.1.isSome)
      && decide ([ey].length + ([] : List Keyword).length + (if ([] : List Keyword).isEmpty then 0 else 1) < 30)) = true := by
  rw [star_of h]; rfl
theorem pe_m1 {X : Cx} {T id : String} {name : Str} {apos cpos : Pos} {r : L2.V → List L2.V → Hp → VK → Prop} (pa : PlainAttrs T) (slot : Slot T name id) (hty : typeOf (.builtin id) = pure (.type "method_descriptor")) (hm : MtR X id r)
    (hb : isBase ex = true) (hline : (apos.endLine == cpos.line) = true) (hs : noStar ey = true) :
    PE X (.Call (.Attribute ex name apos) [ey] [] cpos) fun σ H Q => RE X ex σ H fun u H1 => Ty X T u σ H1 ∧ RE X ey σ H1 fun v H2 => r u [v] H2 Q := by
  refine ⟨fun pins s σ H Q I h => ?_⟩
  refine wpAny_Call_method_late (base_of hb) (few1 hs) hline rfl (thn (h pins s I) fun v s1 ⟨u, H1, I1, r1, ty, q1⟩ => ?_)
  obtain ⟨h1, h2⟩ := ty pins s1 v I1 r1
  refine ⟨T, id, pa, slot, hty, h1, h2, ?_⟩
  have hA := (pa_cons (peE ey) pa_nil (star_of hs)).run cpos pins s1 σ H1 (fun vs H2 => r u vs H2 Q) I1 q1
  rw [star_of hs] at hA ⊢
  exact Calls.callWith_builtin rfl (Calls.evalArgs_plain (thn hA fun us s2 ⟨vs, H2, I2, r2, q2⟩ => hm pins s2 σ H2 u vs v us Q I2 r1 r2 q2))
theorem pe_m0 {X : Cx} {T id : String} {name : Str} {apos cpos : Pos} {r : L2.V → List L2.V → Hp → VK → Prop} (pa : PlainAttrs T) (slot : Slot T name id) (hty : typeOf (.builtin id) = pure (.type "method_descriptor")) (hm : MtR X id r)
    (hb : isBase ex = true) (hline : (apos.endLine == cpos.line) = true) :
    PE X (.Call (.Attribute ex name apos) [] [] cpos) fun σ H Q => RE X ex σ H fun u H1 => Ty X T u σ H1 ∧ r u [] H1 Q := by
  refine ⟨fun pins s σ H Q I h => ?_⟩
  refine wpAny_Call_method0_late (base_of hb) hline (thn (h pins s I) fun v s1 ⟨u, H1, I1, r1, ty, q1⟩ => ?_)
  obtain ⟨h1, h2⟩ := ty pins s1 v I1 r1
  exact ⟨T, id, pa, slot, hty, h1, h2, Calls.callWith_builtin rfl (PySem.evalArgs_none (hm pins s1 σ H1 u [] v [] Q I1 r1 .nil q1))⟩
/-! ### the first place -/
theorem find_at {x : D} : ∀ {xs : List D} {n j : Nat}, find x xs n = some j → ∃ i z, j = n + i ∧ xs[i]? = some z ∧ z.eqv x = true ∧ ∀ (m : Nat) (z' : D), m < i → xs[m]? = some z' → z'.eqv x = false
  | [], _, _, h => by cases h
  | y :: r, n, j, h => by
    unfold find at h
    split at h
    · rename_i hy
      cases h
      exact ⟨0, y, rfl, rfl, hy, fun m z' hm => absurd hm (Nat.not_lt_zero _)⟩
    · rename_i hy
      obtain ⟨i, z, h1, h2, h3, h4⟩ := find_at h
      refine ⟨i + 1, z, by omega, by simpa using h2, h3, fun m z' hm hz => ?_⟩
      cases m with
      | zero => simp at hz; subst hz; simpa using hy
      | succ m => exact h4 m z' (by omega) (by simpa using hz)
theorem mt_indexT {X : Cx} (hu : X.A.units + 65 < cLine) : MtR X "tuple.index" fun x xs H Q => ∃ (a : Addr) (ys : List L2.V) (y : L2.V) (d : PyData) (ds : List PyData) (j : Nat) (z : PyData), x = L2.V.ref a ∧ xs = [y] ∧ SqT X.K H a ys ∧ DpAll X.K H ys ds ∧ Dp X.K H y d ∧
    SeqAt.shaped (.list ds) = true ∧ SeqAt.shaped d = true ∧ ds[j]? = some z ∧ PyData.eqv z d = true ∧ (∀ (m : Nat) (z' : PyData), m < j → ds[m]? = some z' → PyData.eqv z' d = false) ∧ Q (.int (j : Nat)) H := by
  intro pins s σ H x xs v us Q I rx rxs h
  obtain ⟨a, ys, y, d, ds, j, z, rfl, rfl, hs, ha, hy, sl, sd, hz, hzj, hno, q⟩ := h
  cases rx
  obtain ⟨uy, rfl, ry⟩ := rxs.one
  obtain ⟨bs, r1⟩ := Dp.reads I d y uy hy ry
  have can : PyData.canLayAll0 ds = true := SeqAt.canLay_of_shaped sl
  have room : X.A.units + 1 + min (PyData.depthAll ds) d.depth < cLine := PyProof.Rows.room_in_shaped sd hu
  obtain ⟨its, rv, ⟨⟨cls, dd, data, sls⟩, ho, hc, n, hdt⟩, hlen⟩ := I.tuple hs
  simp only at hc hdt
  subst hc hdt
  obtain ⟨as, h4⟩ := Dp.readsAll I ds _ its ha rv
  have hn := SeqAt.ReadsAll.length ds its as h4
  have hmap := SeqAt.readsAll_map ds its as can h4
  have hvl := rv.length
  have hsl := sizeLine_eq
  have hjd := (List.getElem?_eq_some_iff.mp hz).1
  have hj : j < its.toArray.size := by rw [List.size_toArray]; omega
  have at_ : ∀ (m : Nat) (hm : m < its.toArray.size) (z' : PyData), ds[m]? = some z' → SeqAt.readOf s.heap its.toArray[m] = z' := fun m hm z' hz' => by
    have hml : m < its.length := by simpa using hm
    rw [← hmap, List.getElem?_map, List.getElem?_eq_getElem hml] at hz'
    simpa using hz'
  refine call_meets PySem.F.slot_tuple_index ⟨_, ho, rfl⟩ PySem.F.entry_tuple_index (PySem.F.args_tuple_index_2 _ _)
    (_root_.TI.tuple_indexAt a its.toArray n dd sls uy (fun u => PyData.eqv (SeqAt.readOf s.heap u) d) j hj ?_ ?_) ⟨ho, SeqAt.items_eqAt (vs := its.toArray) (show ReadsAll s.heap its.toArray.toList ds as from h4) r1 can (SeqAt.canLay_of_shaped sd) room, ?_⟩
  · rw [at_ j hj z hz]; exact hzj
  · intro m hm hmj
    have hm' : m < ds.length := by rw [List.size_toArray] at hm; omega
    rw [at_ m hm _ (List.getElem?_eq_getElem hm')]
    exact hno m _ hmj (List.getElem?_eq_getElem hm')
  · exact ⟨L2.V.int (j : Nat), H, I.tok _, ⟨_, rfl⟩, q⟩
theorem OpdR.seq {K : Frag} {F H : Hp} {σ : L2.St} {e : Env} (r : Rel K F H σ e) {o : Opd} {v : L2.V} {x : D} {xs : List D} (h : OpdR K F H σ e o v) (hv : Sw.view o e = some x) (hx : seqOf x = some xs) :
    (isL x = true ∧ ∃ a vs, v = .ref a ∧ SqL K H a vs) ∨ (isL x = false ∧ ∃ a vs, v = .ref a ∧ TupX K H a vs) := by
  have vw := h.view r hv
  cases x <;> first | (cases hx; done) | skip
  · obtain ⟨a, vs, rfl, h1, h2⟩ := vw.list r.sub
    exact .inl ⟨rfl, a, vs, rfl, h1⟩
  · obtain ⟨a, vs, rfl, h1, h2⟩ := vw.tup r.sub
    exact .inr ⟨rfl, a, vs, rfl, r.sub.tupX h1⟩
theorem indexD_inv {x y : D} {w : V} (h : indexD x y = some w) : ∃ xs, ∃ j : Nat, seqOf x = some xs ∧ shapedB x = true ∧ shapedB y = true ∧ find y xs 0 = some j ∧ w = .d (.int j) := by
  unfold indexD at h
  simp only [Option.bind_eq_some_iff] at h
  obtain ⟨xs, h1, h2⟩ := h
  split at h2
  · rename_i hc
    rw [Bool.and_eq_true] at hc
    simp only [Option.map_eq_some_iff] at h2
    obtain ⟨j, h3, rfl⟩ := h2
    exact ⟨xs, j, h1, hc.1, hc.2, h3, rfl⟩
  · cases h2
theorem se_index {a b : E} {apos cpos : Pos} (ha : SO N sc CX ex φ (opW (evalE φ a) a)) (hb : SO N sc CX ey φ (opW (evalE φ b) b)) (hs : isBase ex = true) (hline : (apos.endLine == cpos.line) = true) (hn : noStar ey = true) :
    SE N sc CX (.Call (.Attribute ex (Str.ofString "index") apos) [ey] [] cpos) φ (evalE φ (.index a b)) := by
  intro X G e w e' hr F H σ Q rel k
  simp only [evalE] at hr
  obtain ⟨⟨oa, e1⟩, r1, r2⟩ := bind_inv hr
  obtain ⟨x0, r3, r4⟩ := bind_inv r2
  obtain ⟨xs0, r5, r6⟩ := bind_inv r4
  obtain ⟨⟨ob, e2⟩, r7, r8⟩ := bind_inv r6
  obtain ⟨x, r9, r10⟩ := bind_inv r8
  obtain ⟨y, r11, r12⟩ := bind_inv r10
  dsimp only at r12
  split at r12
  case isFalse => cases r12
  rename_i hk
  obtain ⟨r13, rfl⟩ := ret1_inv r12
  obtain ⟨xs, j, i1, i2, i3, i4, rfl⟩ := indexD_inv r13
  obtain ⟨i, z, j1, j2, j3, j4⟩ := find_at i4
  have hj : j = i := by omega
  subst hj
  have hu : X.A.units + 65 < cLine := by have := G.units; omega
  by_cases hL : isL x0 = true
  · refine RE.of (pe_m1 PySem.F.plainAttrs_list PySem.F.slot_list_index PySem.F.type_list_index (mt_indexD hu) hs hline hn) ?_
    refine ha X G e oa e1 r1 F H σ _ rel fun u F1 H1 p1 o1 _ => ?_
    rcases o1.seq p1.rel (ofO_inv r3) (ofO_inv r5) with ⟨_, c, vs, rfl, hc⟩ | ⟨z, _⟩
    · refine ⟨ty_list hc, hb X G e1 ob _ r7 F1 H1 σ _ p1.rel fun v F2 H2 p2 o2 _ => ?_⟩
      have p := p1.trans p2
      have vx := (o1.stay p2).view p.rel (ofO_inv r9)
      have vy := o2.view p.rel (ofO_inv r11)
      rw [hL] at hk
      cases x <;> first | (cases i1; done) | skip
      · cases i1
        exact ⟨c, v, y, _, j, z, rfl, rfl, vx.dp p.rel.sub (lay_of i2), vy.dp p.rel.sub (lay_of i3), i2, i3, j2, j3, j4, k _ _ _ p (.int _) trivial⟩
      · cases hk
    · rw [hL] at z; cases z
  · have hL' : isL x0 = false := by simpa using hL
    refine RE.of (pe_m1 PySem.F.plainAttrs_tuple PySem.F.slot_tuple_index PySem.F.type_tuple_index (mt_indexT hu) hs hline hn) ?_
    refine ha X G e oa e1 r1 F H σ _ rel fun u F1 H1 p1 o1 _ => ?_
    rcases o1.seq p1.rel (ofO_inv r3) (ofO_inv r5) with ⟨z, _⟩ | ⟨_, c, vs, rfl, hc⟩
    · rw [hL'] at z; cases z
    · refine ⟨ty_tup hc, hb X G e1 ob _ r7 F1 H1 σ _ p1.rel fun v F2 H2 p2 o2 _ => ?_⟩
      have p := p1.trans p2
      have vx := (o1.stay p2).view p.rel (ofO_inv r9)
      have vy := o2.view p.rel (ofO_inv r11)
      rw [hL'] at hk
      cases x <;> first | (cases i1; done) | skip
      · cases hk
      · cases i1
        obtain ⟨c', vs', e3, h1, h2⟩ := vx.tup p.rel.sub
        cases e3
        exact ⟨c, vs', v, y, _, j, z, rfl, rfl, p.rel.sub.sqT h1.sq, Rp.dps _ _ (lay_of i2) (p.rel.sub.rpAll _ _ h2), vy.dp p.rel.sub (lay_of i3), shaped_tup i2, i3, j2, j3, j4, k _ _ _ p (.int _) trivial⟩
end
end Sw
end T_SwH
section T_SwI
set_option autoImplicit false
set_option linter.all false
set_option Elab.async false
set_option maxRecDepth 100000
/-! SwI: truth, tests; and, or, not, if-else, chains. -/
namespace Sw
open PySem L2
section
variable {N : List Str} {sc : Scope} {CX : CXT} {φ : Orc} {ex ey ez big : Expr} {exs : List Expr}
theorem truth_ok {K : Frag} {F H : Hp} (s : Sub F H) {v : L2.V} {x : D} {b : Bool} (h : VwR K F H v x) (ht : truth x = some b) : TruV K v H b := by
  have h := h.rp s
  cases h with
  | non => cases ht; rfl
  | bl c => cases ht; rfl
  | int i => cases ht; rfl
  | str y =>
    simp only [truth] at ht
    split at ht
    · rename_i hz
      cases ht
      refine ⟨hz, ?_⟩
      by_cases z : y.length = 0
      · rw [z]; rfl
      · have z2 : ((y.length : Nat) : Int) ≠ 0 := by omega
        simp only [bne, beq_eq_false_iff_ne.mpr z, beq_eq_false_iff_ne.mpr z2]
    · cases ht
  | lst h1 h2 =>
    cases ht
    refine .inl ⟨_, h1, ?_⟩
    cases h2 <;> rfl
  | tup h1 h2 =>
    cases ht
    refine .inr (.inl ⟨_, h1.sq, ?_⟩)
    cases h2 <;> rfl
  | dct h1 => cases ht
theorem ptW {X : Cx} (ex : Expr) : PW X ex (RW X ex) := ⟨fun wh pins s σ H Q I h => h wh pins s I⟩
def SW (N : List Str) (sc : Scope) (CX : CXT) (ex : Expr) (φ : Orc) (r : Env → R (Bool × Env)) : Prop :=
  ∀ X, Good N sc CX X φ → ∀ e w e', r e = .ok (w, e') → ∀ F H σ (Q : Bool → Hp → Prop), Rel X.K F H σ e →
    (∀ F' H', Post X.K F H σ e F' H' σ e' → Q w H') → RW X ex σ H Q
/-- its value's truth -/
def SB (N : List Str) (sc : Scope) (CX : CXT) (ex : Expr) (φ : Orc) (r : Env → R (Bool × Env)) : Prop :=
  ∀ X, Good N sc CX X φ → ∀ e w e', r e = .ok (w, e') → ∀ F H σ (Q : VK), Rel X.K F H σ e →
    (∀ v F' H', Post X.K F H σ e F' H' σ e' → TruV X.K v H' w → Q v H') → RE X ex σ H Q
def andR (ra rb : Env → R (Bool × Env)) : Env → R (Bool × Env) := fun e => (ra e).bind fun p => if p.1 then rb p.2 else .ok (false, p.2)
def orR (ra rb : Env → R (Bool × Env)) : Env → R (Bool × Env) := fun e => (ra e).bind fun p => if p.1 then .ok (true, p.2) else rb p.2
theorem evalT_and (a b : Te) : evalT φ (.and a b) = andR (evalT φ a) (evalT φ b) := by funext e; simp only [evalT, andR]
theorem evalT_or (a b : Te) : evalT φ (.or a b) = orR (evalT φ a) (evalT φ b) := by funext e; simp only [evalT, orR]
theorem SW.st {r : Env → R (Bool × Env)} (h : SW N sc CX ex φ r) : ST N sc CX ex φ r := fun X G e w e' hr F H σ Q rel k pins s I => h X G e w e' hr F H σ Q rel k _ pins s I
section
variable {ra rb : Env → R (Bool × Env)} {pos : Pos} {rest : List Expr}
theorem RW.of {X : Cx} {σ : L2.St} {H : Hp} {t : TT} {Q : Bool → Hp → Prop} (h : PW X ex t) (q : t σ H Q) : RW X ex σ H Q := fun wh pins s I => h.run wh pins s σ H Q I q
theorem sw_and1 (ha : ST N sc CX ex φ ra) : SW N sc CX (.BoolOp .And [ex] pos) φ ra := fun X G e w e' hr F H σ Q rel k => RW.of (pw_and1 (ptT ex)) (ha X G e w e' hr F H σ Q rel k)
theorem sw_or1 (ha : ST N sc CX ex φ ra) : SW N sc CX (.BoolOp .Or [ex] pos) φ ra := fun X G e w e' hr F H σ Q rel k => RW.of (pw_or1 (ptT ex)) (ha X G e w e' hr F H σ Q rel k)
theorem sw_and (ha : ST N sc CX ex φ ra) (hb : SW N sc CX (.BoolOp .And (ey :: rest) pos) φ rb) : SW N sc CX (.BoolOp .And (ex :: ey :: rest) pos) φ (andR ra rb) := by
  intro X G e w e' hr F H σ Q rel k
  obtain ⟨⟨b, e1⟩, r1, r2⟩ := bind_inv hr
  refine RW.of (pw_and (ptT ex) (ptW _)) (ha X G e b e1 r1 F H σ _ rel fun F1 H1 p1 => ?_)
  cases b with
  | true => exact hb X G e1 w e' r2 F1 H1 σ Q p1.rel fun F2 H2 p2 => k F2 H2 (p1.trans p2)
  | false => cases r2; exact k F1 H1 p1
theorem sw_or (ha : ST N sc CX ex φ ra) (hb : SW N sc CX (.BoolOp .Or (ey :: rest) pos) φ rb) : SW N sc CX (.BoolOp .Or (ex :: ey :: rest) pos) φ (orR ra rb) := by
  intro X G e w e' hr F H σ Q rel k
  obtain ⟨⟨b, e1⟩, r1, r2⟩ := bind_inv hr
  refine RW.of (pw_or (ptT ex) (ptW _)) (ha X G e b e1 r1 F H σ _ rel fun F1 H1 p1 => ?_)
  cases b with
  | false => exact hb X G e1 w e' r2 F1 H1 σ Q p1.rel fun F2 H2 p2 => k F2 H2 (p1.trans p2)
  | true => cases r2; exact k F1 H1 p1
theorem sb_one {op : PySem.BoolOp} (ha : SB N sc CX ex φ ra) : SB N sc CX (.BoolOp op [ex] pos) φ ra := fun X G e w e' hr F H σ Q rel k => RE.of (pe_one (peE ex)) (ha X G e w e' hr F H σ Q rel k)
theorem sb_and (ha : SB N sc CX ex φ ra) (hb : SB N sc CX (.BoolOp .And (ey :: rest) pos) φ rb) : SB N sc CX (.BoolOp .And (ex :: ey :: rest) pos) φ (andR ra rb) := by
  intro X G e w e' hr F H σ Q rel k
  obtain ⟨⟨b, e1⟩, r1, r2⟩ := bind_inv hr
  refine RE.of (pe_andT (peE ex) (peE _)) (ha X G e b e1 r1 F H σ _ rel fun v F1 H1 p1 t1 => ⟨b, t1, ?_⟩)
  cases b with
  | true => exact hb X G e1 w e' r2 F1 H1 σ Q p1.rel fun v F2 H2 p2 t2 => k v F2 H2 (p1.trans p2) t2
  | false => cases r2; exact k v F1 H1 p1 t1
theorem sb_or (ha : SB N sc CX ex φ ra) (hb : SB N sc CX (.BoolOp .Or (ey :: rest) pos) φ rb) : SB N sc CX (.BoolOp .Or (ex :: ey :: rest) pos) φ (orR ra rb) := by
  intro X G e w e' hr F H σ Q rel k
  obtain ⟨⟨b, e1⟩, r1, r2⟩ := bind_inv hr
  refine RE.of (pe_orT (peE ex) (peE _)) (ha X G e b e1 r1 F H σ _ rel fun v F1 H1 p1 t1 => ⟨b, t1, ?_⟩)
  cases b with
  | false => exact hb X G e1 w e' r2 F1 H1 σ Q p1.rel fun v F2 H2 p2 t2 => k v F2 H2 (p1.trans p2) t2
  | true => cases r2; exact k v F1 H1 p1 t1
end
theorem st_not {a : Te} {pos : Pos} (h : ST N sc CX ex φ (evalT φ a)) : ST N sc CX (.UnaryOp .Not ex pos) φ (evalT φ (.not a)) := by
  intro X G e w e' hr F H σ Q rel k
  simp only [evalT] at hr
  obtain ⟨⟨b, e1⟩, r1, r2⟩ := bind_inv hr
  cases r2
  exact RT.of (pt_not (ptT ex)) (h X G e b _ r1 F H σ _ rel k)
theorem sb_not {a : Te} {pos : Pos} (h : SB N sc CX ex φ (evalT φ a)) : SB N sc CX (.UnaryOp .Not ex pos) φ (evalT φ (.not a)) := by
  intro X G e w e' hr F H σ Q rel k
  simp only [evalT] at hr
  obtain ⟨⟨b, e1⟩, r1, r2⟩ := bind_inv hr
  cases r2
  exact RE.of (pe_notT (peE ex)) (h X G e b _ r1 F H σ _ rel fun v F1 H1 p1 t1 => ⟨b, t1, k _ F1 H1 p1 rfl⟩)
theorem se_not {a : Te} {pos : Pos} (h : SB N sc CX ex φ (evalT φ a)) : SE N sc CX (.UnaryOp .Not ex pos) φ (evalE φ (.not a)) := by
  intro X G e w e' hr F H σ Q rel k
  simp only [evalE] at hr
  obtain ⟨⟨b, e1⟩, r1, r2⟩ := bind_inv hr
  cases r2
  exact RE.of (pe_notT (peE ex)) (h X G e b _ r1 F H σ _ rel fun v F1 H1 p1 t1 => ⟨b, t1, k _ F1 H1 p1 (.bl _) trivial⟩)
theorem pt_ifExp {X : Cx} {c : Expr} {pos : Pos} : PT X (.IfExp c ex ey pos) fun σ H Q => RT X c σ H fun b H1 => if b = true then RT X ex σ H1 Q else RT X ey σ H1 Q := by
  refine ⟨fun pins s σ H Q I h => ?_⟩
  rw [arm_isTrue_IfExp]
  refine wpAny_bind (wpAny_mono (h pins s I) (fun b s1 q => ?_) fun _ _ z => z)
  obtain ⟨H1, I1, q⟩ := q
  cases b with
  | true => exact q pins s1 I1
  | false => exact q pins s1 I1
theorem st_ite {t a b : Te} {et : Expr} {pos : Pos} (ht : ST N sc CX et φ (evalT φ t)) (ha : ST N sc CX ex φ (evalT φ a)) (hb : ST N sc CX ey φ (evalT φ b)) : ST N sc CX (.IfExp et ex ey pos) φ (evalT φ (.ite t a b)) := by
  intro X G e w e' hr F H σ Q rel k
  simp only [evalT] at hr
  obtain ⟨⟨c, e1⟩, r1, r2⟩ := bind_inv hr
  refine RT.of pt_ifExp (ht X G e c e1 r1 F H σ _ rel fun F1 H1 p1 => ?_)
  cases c with
  | true => exact ha X G e1 w e' r2 F1 H1 σ Q p1.rel fun F2 H2 p2 => k F2 H2 (p1.trans p2)
  | false => exact hb X G e1 w e' r2 F1 H1 σ Q p1.rel fun F2 H2 p2 => k F2 H2 (p1.trans p2)
theorem sb_ite {t a b : Te} {et : Expr} {pos : Pos} (ht : ST N sc CX et φ (evalT φ t)) (ha : SB N sc CX ex φ (evalT φ a)) (hb : SB N sc CX ey φ (evalT φ b)) : SB N sc CX (.IfExp et ex ey pos) φ (evalT φ (.ite t a b)) := by
  intro X G e w e' hr F H σ Q rel k
  simp only [evalT] at hr
  obtain ⟨⟨c, e1⟩, r1, r2⟩ := bind_inv hr
  refine RE.of (pe_ifExp (ptT et) (peE ex) (peE ey)) (ht X G e c e1 r1 F H σ _ rel fun F1 H1 p1 => ?_)
  cases c with
  | true => exact ha X G e1 w e' r2 F1 H1 σ Q p1.rel fun v F2 H2 p2 => k v F2 H2 (p1.trans p2)
  | false => exact hb X G e1 w e' r2 F1 H1 σ Q p1.rel fun v F2 H2 p2 => k v F2 H2 (p1.trans p2)
theorem se_ite {t : Te} {a b : E} {et : Expr} {pos : Pos} (ht : ST N sc CX et φ (evalT φ t)) (ha : SE N sc CX ex φ (evalE φ a)) (hb : SE N sc CX ey φ (evalE φ b)) : SE N sc CX (.IfExp et ex ey pos) φ (evalE φ (.ite t a b)) := by
  intro X G e w e' hr F H σ Q rel k
  simp only [evalE] at hr
  obtain ⟨⟨c, e1⟩, r1, r2⟩ := bind_inv hr
  refine RE.of (pe_ifExp (ptT et) (peE ex) (peE ey)) (ht X G e c e1 r1 F H σ _ rel fun F1 H1 p1 => ?_)
  cases c with
  | true => exact ha X G e1 w e' r2 F1 H1 σ Q p1.rel fun v F2 H2 p2 q2 f2 => k v F2 H2 (p1.trans p2) q2 (From.trans p1 f2)
  | false => exact hb X G e1 w e' r2 F1 H1 σ Q p1.rel fun v F2 H2 p2 q2 f2 => k v F2 H2 (p1.trans p2) q2 (From.trans p1 f2)
theorem se_one {r : Env → R (V × Env)} {op : PySem.BoolOp} {pos : Pos} (h : SE N sc CX ex φ r) : SE N sc CX (.BoolOp op [ex] pos) φ r := fun X G e w e' hr F H σ Q rel k => RE.of (pe_one (peE ex)) (h X G e w e' hr F H σ Q rel k)
theorem se_and {a b : E} {rest : List Expr} {pos : Pos} (ha : SD N sc CX ex φ (daW (evalE φ a))) (hb : SE N sc CX (.BoolOp .And (ey :: rest) pos) φ (evalE φ b)) : SE N sc CX (.BoolOp .And (ex :: ey :: rest) pos) φ (evalE φ (.and a b)) := by
  intro X G e w e' hr F H σ Q rel k
  simp only [evalE] at hr
  obtain ⟨⟨x, e1⟩, r1, r2⟩ := bind_inv hr
  dsimp only at r2
  refine RE.of (pe_andT (peE ex) (peE _)) (ha X G e x e1 r1 F H σ _ rel fun v F1 H1 p1 d1 => ?_)
  cases ht : truth x with
  | none => rw [ht] at r2; cases r2
  | some c =>
    rw [ht] at r2
    refine ⟨c, truth_ok p1.rel.sub (.inl d1) ht, ?_⟩
    cases c with
    | true => exact hb X G e1 w e' r2 F1 H1 σ Q p1.rel fun v F2 H2 p2 q2 f2 => k v F2 H2 (p1.trans p2) q2 (From.trans p1 f2)
    | false => cases r2; exact k v F1 H1 p1 d1 trivial
theorem se_or {a b : E} {rest : List Expr} {pos : Pos} (ha : SD N sc CX ex φ (daW (evalE φ a))) (hb : SE N sc CX (.BoolOp .Or (ey :: rest) pos) φ (evalE φ b)) : SE N sc CX (.BoolOp .Or (ex :: ey :: rest) pos) φ (evalE φ (.or a b)) := by
  intro X G e w e' hr F H σ Q rel k
  simp only [evalE] at hr
  obtain ⟨⟨x, e1⟩, r1, r2⟩ := bind_inv hr
  dsimp only at r2
  refine RE.of (pe_orT (peE ex) (peE _)) (ha X G e x e1 r1 F H σ _ rel fun v F1 H1 p1 d1 => ?_)
  cases ht : truth x with
  | none => rw [ht] at r2; cases r2
  | some c =>
    rw [ht] at r2
    refine ⟨c, truth_ok p1.rel.sub (.inl d1) ht, ?_⟩
    cases c with
    | false => exact hb X G e1 w e' r2 F1 H1 σ Q p1.rel fun v F2 H2 p2 q2 f2 => k v F2 H2 (p1.trans p2) q2 (From.trans p1 f2)
    | true => cases r2; exact k v F1 H1 p1 d1 trivial
/-! ### a plain expression as a test -/
def isPlainT : Expr → Bool
  | .UnaryOp .Not _ _ => false
  | .BoolOp _ _ _ => false
  | .IfExp _ _ _ _ => false
  | .Compare _ _ _ _ => false
  | _ => true
theorem plainT_of {env : PySem.Env} (h : isPlainT ex = true) (whole : Sem Value) : isTrue ex env whole = (do let v ← whole; standAt ex.pos; holding [v] (truthy v)) := by
  cases ex <;> first | rfl | (cases h; done) | skip
  rename_i op a p
  cases op <;> first | rfl | cases h
theorem evalT_e {a : E} {e : Env} {w : Bool} {e' : Env} (h : evalT φ (.e a) e = .ok (w, e')) : ∃ o x, opW (evalE φ a) a e = .ok (o, e') ∧ view o e' = some x ∧ truth x = some w := by
  simp only [evalT] at h
  obtain ⟨⟨o, e1⟩, r1, r2⟩ := bind_inv h
  obtain ⟨x, r3, r4⟩ := bind_inv r2
  obtain ⟨b, r5, r6⟩ := bind_inv r4
  cases r6
  exact ⟨o, x, r1, ofO_inv r3, ofO_inv r5⟩
theorem st_plain {a : E} (so : SO N sc CX ex φ (opW (evalE φ a) a)) (h : isPlainT ex = true) : ST N sc CX ex φ (evalT φ (.e a)) := by
  intro X G e w e' hr F H σ Q rel k
  obtain ⟨o, x, r1, r2, r3⟩ := evalT_e hr
  refine RT.of (pt_truth (peE ex) (plainT_of h)) (so X G e o e' r1 F H σ _ rel fun v F1 H1 p1 o1 _ => ?_)
  exact ⟨w, truth_ok p1.rel.sub (o1.view p1.rel r2) r3, k F1 H1 p1⟩
theorem sb_e {a : E} (so : SO N sc CX ex φ (opW (evalE φ a) a)) : SB N sc CX ex φ (evalT φ (.e a)) := by
  intro X G e w e' hr F H σ Q rel k
  obtain ⟨o, x, r1, r2, r3⟩ := evalT_e hr
  exact so X G e o e' r1 F H σ _ rel fun v F1 H1 p1 o1 _ => k v F1 H1 p1 (truth_ok p1.rel.sub (o1.view p1.rel r2) r3)
/-! ### comparisons as tests, chains -/
def isCmp : O2 → Bool
  | .eq | .ne | .lt | .le | .gt | .ge | .inn | .notin => true
  | _ => false
theorem cmpD_bool {x y : D} {f : Int → Int → Bool} {g : List Int → List Int → Option Bool} {w : V} (h : cmpD x y f g = some w) : ∃ b, w = .d (.bool b) := by
  rcases cmpD_inv h with ⟨i, j, _, _, rfl⟩ | ⟨_, _, r, _, _, _, rfl⟩
  · exact ⟨_, rfl⟩
  · exact ⟨_, rfl⟩
theorem cmp_bool {o : O2} {x y : D} {w : V} (hc : isCmp o = true) (h : op2 o x y = some w) : ∃ b, w = .d (.bool b) := by
  cases o <;> first | (cases hc; done) | skip
  · simp only [op2, Option.map_eq_some_iff] at h; obtain ⟨b, _, rfl⟩ := h; exact ⟨_, rfl⟩
  · simp only [op2, Option.map_eq_some_iff] at h; obtain ⟨b, _, rfl⟩ := h; exact ⟨_, rfl⟩
  · exact cmpD_bool h
  · exact cmpD_bool h
  · exact cmpD_bool h
  · exact cmpD_bool h
  · simp only [op2, Option.map_eq_some_iff] at h; obtain ⟨b, _, rfl⟩ := h; exact ⟨_, rfl⟩
  · simp only [op2, Option.map_eq_some_iff] at h; obtain ⟨b, _, rfl⟩ := h; exact ⟨_, rfl⟩
theorem so_l {r : Env → R (Opd × Env)} (h : SO N sc CX ex φ r) : ∀ X, Good N sc CX X φ → ∀ e w e', r e = .ok (w, e') → ∀ F H σ (Q : VK), Rel X.K F H σ e →
    (∀ v F' H', Live X σ H' → Post X.K F H σ e F' H' σ e' → OpdR X.K F' H' σ e' w v → FromO H σ e w v → Q v H') → RE X ex σ H Q := by
  intro X G e w e' hr F H σ Q rel k
  refine RE.mono (RE.live (h X G e w e' hr F H σ (fun v H' => ∃ F', Post X.K F H σ e F' H' σ e' ∧ OpdR X.K F' H' σ e' w v ∧ FromO H σ e w v) rel fun v F' H' p o f => ⟨F', p, o, f⟩)) ?_
  rintro v H' ⟨l, F', p, o, f⟩
  exact k v F' H' l p o f
theorem st_cmp {o : O2} {op : CmpOp} {a b : E} {pos : Pos} (hc : isCmp o = true) (sa : SO N sc CX ex φ (opW (evalE φ a) a)) (sb : SO N sc CX ey φ (opW (evalE φ b) b)) (oc : OC N sc CX φ o op) (hm : behindInMarks op ey = false) :
    ST N sc CX (.Compare ex [op] [ey] pos) φ (evalT φ (.e (.o2 o a b))) := by
  intro X G e w e' hr F H σ Q rel k
  obtain ⟨o', x', r1, r2, r3⟩ := evalT_e hr
  obtain ⟨⟨w2, e2⟩, r4, r5⟩ := bind_inv (r := evalE φ (.o2 o a b) e) (f := fun p => R.ok (Opd.v p.1, p.2)) r1
  cases r5
  simp only [evalE] at r4
  obtain ⟨⟨oa, e1⟩, g1, g2⟩ := bind_inv r4
  obtain ⟨⟨ob, e2⟩, g3, g4⟩ := bind_inv g2
  obtain ⟨x, g5, g6⟩ := bind_inv g4
  obtain ⟨y, g7, g8⟩ := bind_inv g6
  obtain ⟨g9, rfl⟩ := ret1_inv g8
  obtain ⟨c, rfl⟩ := cmp_bool hc g9
  cases r2
  have hw : c = w := Option.some.inj r3
  subst hw
  obtain ⟨r, ho, step⟩ := oc X G
  refine RT.of (pt_cmpR ho (peE ex) (peE ey) hm) ?_
  refine sa X G e oa e1 g1 F H σ _ rel fun u F1 H1 p1 o1 _ => ?_
  refine so_l sb X G e1 ob _ g3 F1 H1 σ _ p1.rel fun v F2 H2 l p2 o2 _ => ?_
  have p := p1.trans p2
  refine step σ H2 F2 _ _ x y _ u v g9 l p.rel ((o1.stay p2).view p.rel (ofO_inv g5)) (o2.view p.rel (ofO_inv g7)) fun z F' H' p3 q3 _ => ?_
  cases q3
  exact ⟨c, rfl, k F' H' (p.trans p3)⟩
theorem chain_run {o o' : O2} {a b c : E} (hc : isCmp o = true) (sa : SO N sc CX ex φ (opW (evalE φ a) a)) (sb : SO N sc CX ey φ (opW (evalE φ b) b)) (sz : SO N sc CX ez φ (opW (evalE φ c) c))
    {X : Cx} (G : Good N sc CX X φ) {r r' : R2}
    (step : ∀ σ H F e (Q : VK) x y w u v, op2 o x y = some w → Live X σ H → Rel X.K F H σ e → VwR X.K F H u x → VwR X.K F H v y → Cont X.K F H σ e w Q → r u v H Q)
    (step' : ∀ σ H F e (Q : VK) x y w u v, op2 o' x y = some w → Live X σ H → Rel X.K F H σ e → VwR X.K F H u x → VwR X.K F H v y → Cont X.K F H σ e w Q → r' u v H Q)
    {e : Env} {w : V} {e' : Env} (hr : evalE φ (.chain o o' a b c) e = .ok (w, e')) {F H : Hp} {σ : L2.St} {Q : VK} (rel : Rel X.K F H σ e)
    (k : ∀ v F' H', Post X.K F H σ e F' H' σ e' → ResR X.K F' H' σ e' w v → From H σ e w v → Q v H') : tChain r r' (RE X ex) (RE X ey) (RE X ez) σ H Q := by
  simp only [evalE] at hr
  obtain ⟨⟨oa, e1⟩, g1, g2⟩ := bind_inv hr
  obtain ⟨⟨ob, e2⟩, g3, g4⟩ := bind_inv g2
  obtain ⟨x, g5, g6⟩ := bind_inv g4
  obtain ⟨y, g7, g8⟩ := bind_inv g6
  dsimp only at g8
  refine sa X G e oa e1 g1 F H σ _ rel fun u F1 H1 p1 o1 _ => ?_
  refine so_l sb X G e1 ob e2 g3 F1 H1 σ _ p1.rel fun v F2 H2 l p2 o2 _ => ?_
  have p := p1.trans p2
  cases g9 : op2 o x y with
  | none => rw [g9] at g8; cases g8
  | some w1 =>
    obtain ⟨t, rfl⟩ := cmp_bool hc g9
    rw [g9] at g8
    refine step σ H2 F2 _ _ x y _ u v g9 l p.rel ((o1.stay p2).view p.rel (ofO_inv g5)) (o2.view p.rel (ofO_inv g7)) fun z F3 H3 p3 q3 _ => ?_
    cases q3
    refine ⟨t, rfl, ?_⟩
    cases t with
    | false =>
      cases g8
      exact k _ F3 H3 (p.trans p3) (.bl _) trivial
    | true =>
      obtain ⟨⟨oc, e4⟩, j1, j2⟩ := bind_inv g8
      obtain ⟨y1, j0, j2⟩ := bind_inv j2
      obtain ⟨z', j3, j4⟩ := bind_inv j2
      obtain ⟨j5, rfl⟩ := ret1_inv j4
      refine so_l sz X G e2 oc _ j1 F3 H3 σ _ (p.trans p3).rel fun v4 F4 H4 l4 p4 o4 _ => ?_
      have q := (p.trans p3).trans p4
      exact step' σ H4 F4 _ _ y1 z' w v v4 j5 l4 q.rel ((o2.stay (p3.trans p4)).view q.rel (ofO_inv j0)) (o4.view q.rel (ofO_inv j3)) fun v' F' H' p5 q5 f5 => k v' F' H' (q.trans p5) q5 (From.trans q f5)
theorem se_chain {o o' : O2} {op op' : CmpOp} {a b c : E} {pos : Pos} (hc : isCmp o = true) (sa : SO N sc CX ex φ (opW (evalE φ a) a)) (sb : SO N sc CX ey φ (opW (evalE φ b) b)) (sz : SO N sc CX ez φ (opW (evalE φ c) c))
    (oc : OC N sc CX φ o op) (oc' : OC N sc CX φ o' op') (hm : lastMarks [op, op'] [ey, ez] = false) : SE N sc CX (.Compare ex [op, op'] [ey, ez] pos) φ (evalE φ (.chain o o' a b c)) := by
  intro X G e w e' hr F H σ Q rel k
  obtain ⟨r, ho, step⟩ := oc X G
  obtain ⟨r', ho', step'⟩ := oc' X G
  exact RE.of (pe_chain ho ho' (peE ex) (peE ey) (peE ez) hm) (chain_run hc sa sb sz G step step' hr rel k)
theorem chain_bool {o o' : O2} {a b c : E} (hc : isCmp o' = true) {e : Env} {w : V} {e' : Env} (hr : evalE φ (.chain o o' a b c) e = .ok (w, e')) : ∃ t, w = .d (.bool t) := by
  simp only [evalE] at hr
  obtain ⟨⟨oa, e1⟩, g1, g2⟩ := bind_inv hr
  obtain ⟨⟨ob, e2⟩, g3, g4⟩ := bind_inv g2
  obtain ⟨x, g5, g6⟩ := bind_inv g4
  obtain ⟨y, g7, g8⟩ := bind_inv g6
  dsimp only at g8
  split at g8
  · obtain ⟨⟨oc, e4⟩, j1, j2⟩ := bind_inv g8
    obtain ⟨y1, j0, j2⟩ := bind_inv j2
    obtain ⟨z', j3, j4⟩ := bind_inv j2
    obtain ⟨j5, rfl⟩ := ret1_inv j4
    exact cmp_bool hc j5
  · cases g8; exact ⟨_, rfl⟩
  · cases g8
theorem st_chain {o o' : O2} {op op' : CmpOp} {a b c : E} {pos : Pos} (hc : isCmp o = true) (hc' : isCmp o' = true) (sa : SO N sc CX ex φ (opW (evalE φ a) a)) (sb : SO N sc CX ey φ (opW (evalE φ b) b)) (sz : SO N sc CX ez φ (opW (evalE φ c) c))
    (oc : OC N sc CX φ o op) (oc' : OC N sc CX φ o' op') (hm : lastMarks [op, op'] [ey, ez] = false) : ST N sc CX (.Compare ex [op, op'] [ey, ez] pos) φ (evalT φ (.e (.chain o o' a b c))) := by
  intro X G e w e' hr F H σ Q rel k
  obtain ⟨o2, x', r1, r2, r3⟩ := evalT_e hr
  obtain ⟨⟨w2, e2⟩, r4, r5⟩ := bind_inv (r := evalE φ (.chain o o' a b c) e) (f := fun p => R.ok (Opd.v p.1, p.2)) r1
  cases r5
  obtain ⟨t, rfl⟩ := chain_bool hc' r4
  cases r2
  have hw : t = w := Option.some.inj r3
  subst hw
  obtain ⟨r, ho, step⟩ := oc X G
  obtain ⟨r', ho', step'⟩ := oc' X G
  refine RT.of (pt_chain ho ho' (peE ex) (peE ey) (peE ez) hm) (chain_run hc sa sb sz G step step' r4 rel fun v F' H' p q _ => ?_)
  cases q
  exact ⟨t, rfl, k F' H' p⟩
def noneB : D → Bool | .none => true | _ => false
/-- is None, is True as tests -/
theorem st_isNone {b : Bool} {a : E} {j : Nat} {pos p2 : Pos} (so : SO N sc CX ex φ (opW (evalE φ a) a)) : ST N sc CX (.Compare ex [if b then .Is else .IsNot] [.Constant .none j p2] pos) φ (evalT φ (.e (.o1 (.isNone b) a))) := by
  intro X G e w e' hr F H σ Q rel k
  obtain ⟨o2, x', r1, r2, r3⟩ := evalT_e hr
  obtain ⟨⟨w2, e2⟩, r4, r5⟩ := bind_inv (r := evalE φ (.o1 (.isNone b) a) e) (f := fun p => R.ok (Opd.v p.1, p.2)) r1
  cases r5
  simp only [evalE] at r4
  obtain ⟨⟨oa, e1⟩, g1, g2⟩ := bind_inv r4
  obtain ⟨x, g3, g4⟩ := bind_inv g2
  obtain ⟨g5, rfl⟩ := ret1_inv g4
  have run : RE X ex σ H (fun v H1 => Q (if b then decide (v = .non) else !decide (v = .non)) H1) := by
    refine so X G e oa _ g1 F H σ _ rel fun v F1 H1 p1 o1 _ => ?_
    have vw := o1.view p1.rel (ofO_inv g3)
    have hv : decide (v = .non) = noneB x := by
      rcases vw with h | ⟨a, vs, xs, rfl, rfl, _⟩
      · cases h <;> rfl
      · rfl
    rw [hv]
    have hw : (if b = true then noneB x else !noneB x) = w := by
      cases x <;> cases g5 <;> cases r2 <;> cases b <;> exact Option.some.inj r3
    rw [hw]
    exact k F1 H1 p1
  cases b
  · exact RT.of (pt_cmp (pc_notN (peE ex)) rfl) (RE.mono run fun v H1 q => ⟨_, rfl, q⟩)
  · exact RT.of (pt_cmp (pc_isN (peE ex)) rfl) (RE.mono run fun v H1 q => ⟨_, rfl, q⟩)
end
end Sw
end T_SwI
section T_SwJ
set_option autoImplicit false
set_option linter.all false
set_option Elab.async false
set_option maxRecDepth 100000
/-! SwJ: slots stored, lists changed, statements without loops. -/
namespace Sw
open PySem L2
section
variable {K : Frag} {F H F1 H1 : Hp} {σ σ1 : L2.St} {e e1 : Env}
theorem Post.set (p : Post K F H σ e F1 H1 σ1 e1) {i : Nat} {v : L2.V} {w : V} (hi : i < σ1.length) (r : ResR K F1 H1 σ1 e1 w v) (f : From H σ e w v) : Post K F H σ e F1 H1 (σ1.set i (some v)) (e1.set i w) := by
  have self : (σ1.set i (some v))[i]? = some (some v) := List.getElem?_set_self hi
  have other : ∀ j, j ≠ i → (σ1.set i (some v))[j]? = σ1[j]? := fun j hj => List.getElem?_set_ne fun q => hj q.symm
  have ng : isG w = false := by
    cases w <;> first | rfl | exact False.elim r
  have old : ∀ j a, HasV H1 (get (e1.set i w) j) (σ1.set i (some v))[j]? a → (j = i ∧ isOwn w = true ∧ v = .ref a) ∨ (j ≠ i ∧ HasV H1 (get e1 j) σ1[j]? a) := fun j a h => by
    by_cases hj : j = i
    · subst hj
      rw [self, get_set] at h
      split at h
      · rcases h with ⟨h1, h2⟩ | ⟨h, _⟩
        · refine .inl ⟨rfl, h1, ?_⟩
          injection h2 with h2; injection h2
        · rw [ng] at h; cases h
      · rename_i z
        rw [get_ge (by omega)] at h
        exact absurd h (HasV.not rfl)
    · rw [other j hj, get_set, if_neg (fun z => hj z.1)] at h
      exact .inr ⟨hj, h⟩
  have wown : isOwn w = true → ∀ a, v = .ref a → ¬ Own H1 σ1 e1 a := fun ho a ha => by
    obtain ⟨b, vs, h1, h2, h5⟩ := own_v r ho
    rw [ha] at h1; cases h1
    exact h5
  refine ⟨p.grow, ⟨p.rel.sub, fun j => ?_, fun j l a h1 h2 => ?_⟩, p.keep, p.new, p.dom, fun a ⟨j, h⟩ => ?_⟩
  · rw [get_set]
    by_cases hj : j = i
    · subst hj
      split
      · rw [self]
        cases w with
        | u => exact False.elim r
        | g _ => exact False.elim r
        | k xs =>
          obtain ⟨b, vs, h1, h2, h3, h4, h5⟩ := r
          subst h1
          exact ⟨b, vs, rfl, h2, h3, h4⟩
        | t xs =>
          obtain ⟨b, vs, h1, h2, h3, h4, h5⟩ := r
          subst h1
          exact ⟨b, vs, rfl, h2, h3, h4.1, h4.2⟩
        | d x => exact ⟨v, rfl, r⟩
        | c xs =>
          obtain ⟨b, vs, h1, h2, h3, h4, h5⟩ := r
          subst h1
          exact ⟨b, vs, rfl, h2, h3, h4⟩
      · rename_i z
        rw [get_ge (by omega)]; trivial
    · rw [if_neg (fun z => hj z.1), other j hj]
      exact p.rel.slot j
  · rcases old j a h1 with ⟨rfl, o1, v1⟩ | ⟨n1, o1⟩
    · rcases old l a h2 with ⟨rfl, _, _⟩ | ⟨n2, o2⟩
      · rfl
      · exact absurd ⟨l, o2⟩ (wown o1 a v1)
    · rcases old l a h2 with ⟨rfl, o2, v2⟩ | ⟨n2, o2⟩
      · exact absurd ⟨j, o1⟩ (wown o2 a v2)
      · exact p.rel.sep j l a o1 o2
  · rcases old j a h with ⟨rfl, o1, v1⟩ | ⟨n1, o1⟩
    · rcases own_from f o1 a v1 with z | z
      · exact .inr z
      · exact .inl z
    · exact p.own a ⟨j, o1⟩
/-- what a slot holds for its own is changed -/
theorem Post.change (r : Rel K F H σ e) {i : Nat} {w : V} {H' : Hp} (hi : i < e.length) (kH : ∀ b u, H b = some u → ¬ HasV H (get e i) σ[i]? b → H' b = some u) (dm : ∀ b, H' b = none → H b = none)
    (s : SlotR K F H' w σ[i]?) (hw : ∀ b, HasV H' w σ[i]? b → HasV H (get e i) σ[i]? b ∨ H b = none) : Post K F H σ e F H' σ (e.set i w) := by
  have apart_ : ∀ j b, j ≠ i → HasV H (get e j) σ[j]? b → ¬ HasV H (get e i) σ[i]? b := fun j b hj h1 h2 => hj (r.sep j i b h1 h2)
  have kj : ∀ j, j ≠ i → ∀ b u, HasV H (get e j) σ[j]? b → H b = some u → H' b = some u := fun j hj b u h hu => kH b u hu (apart_ j b hj h)
  have old : ∀ j b, HasV H' (get (e.set i w) j) σ[j]? b → (j = i ∧ (HasV H (get e i) σ[i]? b ∨ H b = none)) ∨ (j ≠ i ∧ HasV H (get e j) σ[j]? b) := fun j b h => by
    rw [get_set] at h
    split at h
    · rename_i z
      have z := z.1
      subst z
      exact .inl ⟨rfl, hw b h⟩
    · rename_i z
      have hj : j ≠ i := fun q => z ⟨q, hi⟩
      exact .inr ⟨hj, h.back (r.slot j) (kj j hj)⟩
  refine ⟨Sub.refl _, ⟨fun b u h => kH b u (r.sub b u h) fun z => ?_, fun j => ?_, fun j l b h1 h2 => ?_⟩, fun b u h n => kH b u h fun z => n ⟨i, z⟩, fun b h => .inl h, dm, fun b ⟨j, h⟩ => ?_⟩
  · rw [((r.slot i).has z).1] at h; cases h
  · rw [get_set]
    split
    · rename_i z
      rw [z.1]; exact s
    · rename_i z
      exact (r.slot j).move (Sub.refl _) (kj j fun q => z ⟨q, hi⟩) fun _ _ h => h
  · rcases old j b h1 with ⟨rfl, o1⟩ | ⟨n1, o1⟩
    · rcases old l b h2 with ⟨rfl, _⟩ | ⟨n2, o2⟩
      · rfl
      · rcases o1 with o1 | o1
        · exact r.sep j l b o1 o2
        · obtain ⟨_, u, hu⟩ := (r.slot l).has o2
          rw [o1] at hu; cases hu
    · rcases old l b h2 with ⟨rfl, o2⟩ | ⟨n2, o2⟩
      · rcases o2 with o2 | o2
        · exact r.sep j l b o1 o2
        · obtain ⟨_, u, hu⟩ := (r.slot j).has o1
          rw [o2] at hu; cases hu
      · exact r.sep j l b o1 o2
  · rcases old j b h with ⟨rfl, o1 | o1⟩ | ⟨n1, o1⟩
    · exact .inl ⟨j, o1⟩
    · exact .inr o1
    · exact .inl ⟨j, o1⟩
/-- a list of one's own is changed -/
theorem Post.cell (r : Rel K F H σ e) {i : Nat} {xs ys : List D} {vs : List L2.V} {a : Addr} (g : get e i = .c xs) (hσ : σ[i]? = some (some (.ref a))) (d : RpAll K F vs ys) : Post K F H σ e F (upd H a (.lst vs)) σ (e.set i (.c ys)) := by
  have q := r.slot i
  rw [g] at q
  obtain ⟨b, us, q1, q2, q3, q4⟩ := q
  rw [hσ] at q1; cases q1
  have ha : HasV H (get e i) σ[i]? a := by rw [g]; exact .inl ⟨rfl, hσ⟩
  refine Post.change r (lt_of_own ha) (fun b u h n => ?_) (fun b h => ?_) ⟨a, vs, hσ, upd_same, q3, d⟩ fun b h => ?_
  · rw [upd_ne (fun z => n (by rw [z]; exact ha))]; exact h
  · by_cases z : b = a
    · subst z; rw [upd_same] at h; cases h
    · rw [upd_ne z] at h; exact h
  · rcases h with ⟨_, h⟩ | ⟨h, _⟩
    · rw [hσ] at h; cases h; exact .inl ha
    · cases h
/-- a dict of one's own is changed -/
theorem Post.tab (r : Rel K F H σ e) {i : Nat} {xs ys : List (Int × D)} {vs : List (Key × L2.V)} {a : Addr} (g : get e i = .k xs) (hσ : σ[i]? = some (some (.ref a))) (d : DkR K F vs ys) : Post K F H σ e F (upd H a (.dK vs)) σ (e.set i (.k ys)) := by
  have q := r.slot i
  rw [g] at q
  obtain ⟨b, us, q1, q2, q3, q4⟩ := q
  rw [hσ] at q1; cases q1
  have ha : HasV H (get e i) σ[i]? a := by rw [g]; exact .inl ⟨rfl, hσ⟩
  refine Post.change r (lt_of_own ha) (fun b u h n => ?_) (fun b h => ?_) ⟨a, vs, hσ, upd_same, q3, d⟩ fun b h => ?_
  · rw [upd_ne (fun z => n (by rw [z]; exact ha))]; exact h
  · by_cases z : b = a
    · subst z; rw [upd_same] at h; cases h
    · rw [upd_ne z] at h; exact h
  · rcases h with ⟨_, h⟩ | ⟨h, _⟩
    · rw [hσ] at h; cases h; exact .inl ha
    · cases h
theorem Post.tdt (r : Rel K F H σ e) {i : Nat} {xs ys : List (List Int × D)} {vs : List (List Int × Addr × Value)} {a : Addr} (g : get e i = .t xs) (hσ : σ[i]? = some (some (.ref a))) (d : TkR K F vs ys) (ok : TkOk a ys) : Post K F H σ e F (upd H a (.ext (TDat vs a))) σ (e.set i (.t ys)) := by
  have q := r.slot i
  rw [g] at q
  obtain ⟨b, us, q1, q2, q3, q4, q5⟩ := q
  rw [hσ] at q1; cases q1
  have ha : HasV H (get e i) σ[i]? a := by rw [g]; exact .inl ⟨rfl, hσ⟩
  refine Post.change r (lt_of_own ha) (fun b u h n => ?_) (fun b h => ?_) ⟨a, vs, hσ, upd_same, q3, d, ok⟩ fun b h => ?_
  · rw [upd_ne (fun z => n (by rw [z]; exact ha))]; exact h
  · by_cases z : b = a
    · subst z; rw [upd_same] at h; cases h
    · rw [upd_ne z] at h; exact h
  · rcases h with ⟨_, h⟩ | ⟨h, _⟩
    · rw [hσ] at h; cases h; exact .inl ha
    · cases h
theorem get_kill {i : Nat} : ∀ {l : List Nat} {e : Env}, get (killAll l e) i = .u ∨ (get (killAll l e) i = get e i ∧ i ∉ l)
  | [], e => .inr ⟨rfl, by simp⟩
  | j :: r, e => by
    unfold killAll
    rw [get_set]
    by_cases h : i = j
    · subst h
      by_cases hl : i < (killAll r e).length
      · rw [if_pos ⟨rfl, hl⟩]; exact .inl rfl
      · rw [if_neg (fun z => hl z.2)]
        exact .inl (get_ge (by omega))
    · rw [if_neg (fun z => h z.1)]
      rcases get_kill (l := r) (e := e) with z | ⟨z1, z2⟩
      · exact .inl z
      · exact .inr ⟨z1, by simp only [List.mem_cons, not_or]; exact ⟨h, z2⟩⟩
theorem kill_own {l : List Nat} {i : Nat} {o : Option (Option L2.V)} {a : Addr} (h : HasV H (get (killAll l e) i) o a) : HasV H (get e i) o a ∧ i ∉ l := by
  rcases get_kill (l := l) (e := e) (i := i) with z | ⟨z1, z2⟩
  · rw [z] at h; exact absurd h (HasV.not rfl)
  · rw [z1] at h; exact ⟨h, z2⟩
theorem Post.kill (r : Rel K F H σ e) (l : List Nat) {σ' : L2.St} (hs : ∀ i, i ∉ l → σ'[i]? = σ[i]?) : Post K F H σ e F H σ' (killAll l e) := by
  refine ⟨Sub.refl _, ⟨r.sub, fun i => ?_, fun i j a h1 h2 => ?_⟩, fun _ _ h _ => h, fun _ h => .inl h, fun _ h => h, fun a ⟨i, h1⟩ => ?_⟩
  · rcases get_kill (l := l) (e := e) (i := i) with z | ⟨z1, z2⟩
    · rw [z]; trivial
    · rw [z1, hs i z2]; exact r.slot i
  · obtain ⟨o1, n1⟩ := kill_own h1
    obtain ⟨o2, n2⟩ := kill_own h2
    rw [hs i n1] at o1
    rw [hs j n2] at o2
    exact r.sep i j a o1 o2
  · obtain ⟨o1, n1⟩ := kill_own h1
    rw [hs i n1] at o1
    exact .inl ⟨i, o1⟩
end
section
variable {N : List Str} {sc : Scope} {CX : CXT} {φ : Orc} {ex ey ez big : Expr} {exs : List Expr}
/-! ### append, extend, pop -/
theorem isC_of {v : V} (h : isC v = true) : ∃ xs, v = .c xs := by
  cases v with
  | c xs => exact ⟨xs, rfl⟩
  | u => cases h
  | d _ => cases h
  | k _ => cases h
  | t _ => cases h
  | g _ => cases h
theorem isKd_of {v : V} (h : isKd v = true) : ∃ xs, v = .k xs := by
  cases v with
  | k xs => exact ⟨xs, rfl⟩
  | t _ => cases h
  | u => cases h
  | d _ => cases h
  | c _ => cases h
  | g _ => cases h
theorem isTd_of {v : V} (h : isTd v = true) : ∃ xs, v = .t xs := by
  cases v with
  | t xs => exact ⟨xs, rfl⟩
  | u => cases h
  | d _ => cases h
  | c _ => cases h
  | k _ => cases h
  | g _ => cases h
theorem Rel.tdAt {K : Frag} {F H : Hp} {σ : L2.St} {e : Env} (r : Rel K F H σ e) {i : Nat} {kts : List (List Int × D)} (g : get e i = .t kts) : ∃ a xs, σ[i]? = some (some (.ref a)) ∧ H a = some (.ext (TDat xs a)) ∧ F a = none ∧ TkR K F xs kts ∧ TkOk a kts := by
  have q := r.slot i
  rw [g] at q
  exact q
theorem Rel.tabAt {K : Frag} {F H : Hp} {σ : L2.St} {e : Env} (r : Rel K F H σ e) {i : Nat} {xs : List (Int × D)} (g : get e i = .k xs) : ∃ a vs, σ[i]? = some (some (.ref a)) ∧ H a = some (.dK vs) ∧ F a = none ∧ DkR K F vs xs := by
  have q := r.slot i
  rw [g] at q
  exact q
theorem Rel.cellAt {K : Frag} {F H : Hp} {σ : L2.St} {e : Env} (r : Rel K F H σ e) {i : Nat} {xs : List D} (g : get e i = .c xs) : ∃ a vs, σ[i]? = some (some (.ref a)) ∧ H a = some (.lst vs) ∧ F a = none ∧ RpAll K F vs xs := by
  have q := r.slot i
  rw [g] at q
  exact q
theorem se_app {i : Nat} {x : Str} {p apos cpos : Pos} {a : E} (hi : N[i]? = some x) (hv : isVis sc x = true) (hp : plainName x = true) (ha : SD N sc CX ey φ (daW (evalE φ a))) (hline : (apos.endLine == cpos.line) = true) (hn : noStar ey = true) :
    SE N sc CX (.Call (.Attribute (.Name x p) (Str.ofString "append") apos) [ey] [] cpos) φ (evalE φ (.app i a)) := by
  intro X G e w e' hr F H σ Q rel k
  simp only [evalE] at hr
  split at hr
  case isFalse => cases hr
  rename_i hc
  obtain ⟨xs0, g0⟩ := isC_of hc
  obtain ⟨⟨y, e1⟩, r1, r2⟩ := bind_inv hr
  dsimp only at r2
  split at r2
  case h_2 => cases r2
  rename_i xs g1
  split at r2
  case isFalse => cases r2
  rename_i hz
  cases r2
  obtain ⟨l, vs0, hσ, hl, _, _⟩ := rel.cellAt g0
  refine RE.of (pe_m1 PySem.F.plainAttrs_list PySem.F.slot_list_append PySem.F.type_list_append mt_append rfl hline hn) ?_
  refine RE.of (pe_name G hi hv hp) ⟨.ref l, hσ, ty_list (SqL.of hl), ha X G e y e1 r1 F H σ _ rel fun v F1 H1 p1 d1 => ?_⟩
  obtain ⟨l', vs, hσ', hl', _, hd⟩ := p1.rel.cellAt g1
  rw [hσ] at hσ'; cases hσ'
  exact ⟨l, vs, v, rfl, rfl, hl', by rw [rpAll_len hd]; exact hz, k _ _ _ (p1.trans (Post.cell p1.rel g1 hσ (rpAll_app hd (.cons d1 .nil)))) .non trivial⟩
theorem seqIx (n : Nat) (i : Int) : seqIndex? i n = ixN n i := by
  unfold ixN
  by_cases h : 0 ≤ i
  · rw [if_pos h]
    by_cases h2 : i < (n : Int)
    · rw [if_pos h2, seqIndex_of h h2]
    · rw [if_neg h2]
      unfold seqIndex?
      simp only [if_neg (show ¬ i < 0 by omega)]
      rw [if_neg (by simp only [Bool.and_eq_true, decide_eq_true_eq]; omega)]
  · rw [if_neg h]
    by_cases h2 : 0 ≤ i + (n : Int)
    · rw [if_pos h2, seqIndex_neg (by omega) (by omega)]
    · rw [if_neg h2]
      unfold seqIndex?
      simp only [if_pos (show i < 0 by omega)]
      rw [if_neg (by simp only [Bool.and_eq_true, decide_eq_true_eq]; omega)]
theorem rpAll_set {K : Frag} {F : Hp} {vs : List L2.V} {xs : List D} (h : RpAll K F vs xs) {v : L2.V} {x : D} (d : Rp K F v x) (j : Nat) : RpAll K F (vs.set j v) (xs.set j x) := by
  induction xs generalizing vs j with
  | nil => cases h; exact .nil
  | cons x xs ih =>
    cases h with
    | cons h1 h2 =>
      cases j with
      | zero => exact .cons d h2
      | succ j => exact .cons h1 (ih h2 j)
theorem rpAll_erase {K : Frag} {F : Hp} {vs : List L2.V} {xs : List D} (h : RpAll K F vs xs) (j : Nat) : RpAll K F (vs.eraseIdx j) (xs.eraseIdx j) := by
  induction xs generalizing vs j with
  | nil => cases h; exact .nil
  | cons x xs ih =>
    cases h with
    | cons h1 h2 =>
      cases j with
      | zero => exact h2
      | succ j => exact .cons h1 (ih h2 j)
theorem rpAll_dropLast {K : Frag} {F : Hp} {vs : List L2.V} {xs : List D} (h : RpAll K F vs xs) : RpAll K F vs.dropLast xs.dropLast := by
  induction xs generalizing vs with
  | nil => cases h; exact .nil
  | cons x xs ih =>
    cases h with
    | cons h1 h2 =>
      cases h2 with
      | nil => exact .nil
      | cons g1 g2 => exact .cons h1 (ih (.cons g1 g2))
theorem popAt_inv {xs : List D} {i : Int} {r : D × List D} (h : popAt xs i = some r) : -(2 ^ 63) ≤ i ∧ i < 2 ^ 63 ∧ ∃ j x, ixN xs.length i = some j ∧ xs[j]? = some x ∧ r = (x, xs.eraseIdx j) := by
  unfold popAt at h
  split at h
  · rename_i hc
    simp only [Option.bind_eq_some_iff, Option.map_eq_some_iff] at h
    obtain ⟨j, h1, x, h2, h3⟩ := h
    exact ⟨hc.1, hc.2, j, x, h1, h2, h3.symm⟩
  · cases h
theorem se_pop {i : Nat} {x : Str} {p apos cpos : Pos} {a : E} (hi : N[i]? = some x) (hv : isVis sc x = true) (hp : plainName x = true) (ha : SO N sc CX ey φ (opW (evalE φ a) a)) (hline : (apos.endLine == cpos.line) = true) (hn : noStar ey = true) :
    SE N sc CX (.Call (.Attribute (.Name x p) (Str.ofString "pop") apos) [ey] [] cpos) φ (evalE φ (.pop i a)) := by
  intro X G e w e' hr F H σ Q rel k
  simp only [evalE] at hr
  split at hr
  case isFalse => cases hr
  rename_i hc
  obtain ⟨xs0, g0⟩ := isC_of hc
  obtain ⟨⟨oa, e1⟩, r1, r2⟩ := bind_inv hr
  obtain ⟨y, r3, r4⟩ := bind_inv r2
  dsimp only at r4
  split at r4
  case h_2 => cases r4
  rename_i xs j g1
  split at r4
  case h_2 => cases r4
  rename_i r hr'
  cases r4
  obtain ⟨b1, b2, n, z, b3, b4, rfl⟩ := popAt_inv hr'
  obtain ⟨l, vs0, hσ, hl, _, _⟩ := rel.cellAt g0
  refine RE.of (pe_m1 PySem.F.plainAttrs_list PySem.F.slot_list_pop PySem.F.type_list_pop mt_popAt rfl hline hn) ?_
  refine RE.of (pe_name G hi hv hp) ⟨.ref l, hσ, ty_list (SqL.of hl), ha X G e oa e1 r1 F H σ _ rel fun v F1 H1 p1 o1 _ => ?_⟩
  obtain ⟨l', vs, hσ', hl', _, hd⟩ := p1.rel.cellAt g1
  rw [hσ] at hσ'; cases hσ'
  have hvv := (o1.view p1.rel (ofO_inv r3)).int
  subst hvv
  obtain ⟨u, hu, ru⟩ := rpAll_get hd b4
  exact ⟨l, vs, j, n, u, rfl, rfl, hl', b1, b2, by rw [seqIx, rpAll_len hd]; exact b3, hu, k _ _ _ (p1.trans (Post.cell p1.rel g1 hσ (rpAll_erase hd n))) ru trivial⟩
theorem se_popl {i : Nat} {x : Str} {p apos cpos : Pos} (hi : N[i]? = some x) (hv : isVis sc x = true) (hp : plainName x = true) (hline : (apos.endLine == cpos.line) = true) :
    SE N sc CX (.Call (.Attribute (.Name x p) (Str.ofString "pop") apos) [] [] cpos) φ (evalE φ (.popl i)) := by
  intro X G e w e' hr F H σ Q rel k
  simp only [evalE] at hr
  split at hr
  case h_2 => cases hr
  rename_i xs g1
  split at hr
  case h_2 => cases hr
  rename_i z hz
  cases hr
  obtain ⟨l, vs, hσ, hl, _, hd⟩ := rel.cellAt g1
  obtain ⟨u, hu, ru⟩ := rpAll_get hd hz
  refine RE.of (pe_m0 PySem.F.plainAttrs_list PySem.F.slot_list_pop PySem.F.type_list_pop mt_pop rfl hline) ?_
  exact RE.of (pe_name G hi hv hp) ⟨.ref l, hσ, ty_list (SqL.of hl), l, vs, u, rfl, rfl, hl, by rw [rpAll_len hd]; exact hu, k _ _ _ (Post.cell rel g1 hσ (rpAll_dropLast hd)) ru trivial⟩
end
end Sw
end T_SwJ
section T_SwK
set_option autoImplicit false
set_option linter.all false
set_option Elab.async false
set_option maxRecDepth 100000
/-! SwK: extend; targets; statements without loops. -/
namespace Sw
open PySem L2
section
variable {N : List Str} {sc : Scope} {CX : CXT} {φ : Orc} {ex ey ez big : Expr} {exs : List Expr}
theorem lst_extW (l : Addr) (items : Array Value) (n : Nat) (b : Addr) (dd : Option Addr) (items2 : Array Value) (n2 : Nat) (sl2 : Array (Option Value)) (T : String) (hT : T = "list" ∨ T = "tuple") (hs0 : ¬(!items.isEmpty && Builtin.List.listTooLong (items.size + items2.size)) = true) (hs1 : items.size ≤ sizeLine) (hs2 : items.size + items2.size ≤ sizeLine + 1) :
    Meets (Builtin.«list.extend» ⟨[.ref l, .ref b], []⟩) (fun _ R s => s.heap.get? l = some ⟨.type "list", none, .seq items n, #[]⟩ ∧ s.heap.get? b = some ⟨.type T, dd, .seq items2 n2, sl2⟩ ∧
      R (.ok (.ret Value.none)) { s with heap := s.heap.update l (Obj.mapSeq fun x => x ++ items2), toks := s.toks }) := by
  rcases hT with rfl | rfl
  · exact .of_wp fun prog w A R s h => by
      obtain ⟨hp, g, d, tk, os⟩ := s; obtain ⟨hl, hb, h⟩ := h
      have f3 := PySem.AutoSeq1.sub_list_list
      have f2 := PySem.AutoSeq1.sub_tuple_tuple
      have f4 := PySem.AutoSeq1.sub_tuple_list
      have f5 := PySem.AutoSeq1.sub_list_tuple
      have hz' : (items ++ items2).size ≤ sizeLine + 1 := by rw [Array.size_append]; exact hs2
      wp_walk using (wpAny_updateSeq hl rfl (hz := hs1) (_hz' := hz')), wpAny_loadPart' hl, wpAny_loadPart' hb
      exact ⟨_, rfl, h⟩
  · exact .of_wp fun prog w A R s h => by
      obtain ⟨hp, g, d, tk, os⟩ := s; obtain ⟨hl, hb, h⟩ := h
      have f3 := PySem.AutoSeq1.sub_list_list
      have f2 := PySem.AutoSeq1.sub_tuple_tuple
      have f4 := PySem.AutoSeq1.sub_tuple_list
      have f5 := PySem.AutoSeq1.sub_list_tuple
      have hz' : (items ++ items2).size ≤ sizeLine + 1 := by rw [Array.size_append]; exact hs2
      wp_walk using (wpAny_updateSeq hl rfl (hz := hs1) (_hz' := hz')), wpAny_loadPart' hl, wpAny_loadPart' hb
      exact ⟨_, rfl, h⟩
theorem mt_ext {X : Cx} : MtR X "list.extend" fun x vs H Q => ∃ l b xs zs, x = .ref l ∧ vs = [.ref b] ∧ H l = some (.lst xs) ∧ (SqL X.K H b zs ∨ SqT X.K H b zs) ∧ xs.length + zs.length ≤ sizeLine ∧ Q .non (upd H l (.lst (xs ++ zs))) := by
  intro pins s σ H x vs v us Q I rx rv h
  obtain ⟨l, b, xs, zs, rfl, rfl, hH, hB, hz, q⟩ := h
  cases rx
  obtain ⟨u, rfl, ru⟩ := rv.one
  cases ru
  obtain ⟨z, its, n, r, hl, e⟩ := I.lstM hH
  have src : ∃ (its2 : List Value) (n2 : Nat) (dd : Option Addr) (sl2 : Array (Option Value)) (T : String), (T = "list" ∨ T = "tuple") ∧ Vals zs its2 ∧ s.heap.get? b = some ⟨.type T, dd, .seq its2.toArray n2, sl2⟩ := by
    rcases hB with hB | hB
    · obtain ⟨its2, r2, ⟨⟨c2, d2, t2, s2⟩, n2, e2, g4, g5, g6⟩, _⟩ := I.list hB
      simp only at g4 g5 g6
      subst g4 g5 g6
      exact ⟨its2, n2, _, _, _, .inl rfl, r2, e2⟩
    · obtain ⟨its2, r2, ⟨⟨c2, d2, t2, s2⟩, e2, g4, n2, g5⟩, _⟩ := I.tuple hB
      simp only at g4 g5
      subst g4 g5
      exact ⟨its2, n2, _, _, _, .inr rfl, r2, e2⟩
  obtain ⟨its2, n2, dd, sl2, T, hT, r2, e2⟩ := src
  have l2 := r2.length
  have hsz : its.toArray.size + its2.toArray.size ≤ sizeLine := by rw [List.size_toArray, List.size_toArray]; omega
  have hlong : ¬ (!its.toArray.isEmpty && Builtin.List.listTooLong (its.toArray.size + its2.toArray.size)) = true := by
    rw [notLongL hsz, Bool.and_false]
    exact Bool.false_ne_true
  refine call_meets F.slot_list_extend ⟨_, e, rfl⟩ F.entry_list_extend (F.args_list_extend_2 _ _)
    (lst_extW l its.toArray n b dd its2.toArray n2 sl2 T hT hlong (by rw [List.size_toArray]; omega) (by omega)) ⟨e, e2, ?_⟩
  refine ⟨.non, _, I.lset (its' := its ++ its2) hH e (by simp) (r.append r2) ?_, rfl, q⟩
  rw [List.length_append]
  omega
theorem se_ext {i : Nat} {x : Str} {p apos cpos : Pos} {a : E} (hi : N[i]? = some x) (hv : isVis sc x = true) (hp : plainName x = true) (ha : SO N sc CX ey φ (opW (evalE φ a) a)) (hline : (apos.endLine == cpos.line) = true) (hn : noStar ey = true) :
    SE N sc CX (.Call (.Attribute (.Name x p) (Str.ofString "extend") apos) [ey] [] cpos) φ (evalE φ (.ext i a)) := by
  intro X G e w e' hr F H σ Q rel k
  simp only [evalE] at hr
  split at hr
  case isFalse => cases hr
  rename_i hc
  obtain ⟨xs0, g0⟩ := isC_of hc
  obtain ⟨⟨oa, e1⟩, r1, r2⟩ := bind_inv hr
  obtain ⟨y, r3, r4⟩ := bind_inv r2
  dsimp only at r4
  obtain ⟨l, vs0, hσ, hl, _, _⟩ := rel.cellAt g0
  refine RE.of (pe_m1 PySem.F.plainAttrs_list PySem.F.slot_list_extend PySem.F.type_list_extend mt_ext rfl hline hn) ?_
  refine RE.of (pe_name G hi hv hp) ⟨.ref l, hσ, ty_list (SqL.of hl), ha X G e oa e1 r1 F H σ _ rel fun v F1 H1 p1 o1 _ => ?_⟩
  have vw := o1.view p1.rel (ofO_inv r3)
  split at r4
  · rename_i xs ys g1
    split at r4
    case isFalse => cases r4
    rename_i hz
    cases r4
    obtain ⟨l', vs, hσ', hl', _, hd⟩ := p1.rel.cellAt g1
    rw [hσ] at hσ'; cases hσ'
    obtain ⟨b, us, rfl, h1, h2⟩ := vw.list p1.rel.sub
    exact ⟨l, b, vs, us, rfl, rfl, hl', .inl h1, by rw [rpAll_len hd, rpAll_len h2]; exact hz, k _ _ _ (p1.trans (Post.cell p1.rel g1 hσ (rpAll_app hd h2))) .non trivial⟩
  · rename_i xs ys g1
    split at r4
    case isFalse => cases r4
    rename_i hz
    cases r4
    obtain ⟨l', vs, hσ', hl', _, hd⟩ := p1.rel.cellAt g1
    rw [hσ] at hσ'; cases hσ'
    obtain ⟨b, us, rfl, h1, h2⟩ := vw.tup p1.rel.sub
    exact ⟨l, b, vs, us, rfl, rfl, hl', .inr (p1.rel.sub.sqT h1.sq), by rw [rpAll_len hd, rpAll_len h2]; exact hz, k _ _ _ (p1.trans (Post.cell p1.rel g1 hσ (rpAll_app hd h2))) .non trivial⟩
  · cases r4
/-! ### targets -/
/-- an item that comes: data, or a new tuple of data -/
def IR (K : Frag) (F H : Hp) (v : L2.V) (d : D) : Prop := Rp K F v d ∨ ∃ a vs ds, v = .ref a ∧ d = .tuple ds ∧ SqT K H a vs ∧ RpAll K F vs ds
mutual
def slotsT : T → List Nat
  | .n i => [i]
  | .p ts => slotsTs ts
def slotsTs : List T → List Nat
  | [] => []
  | t :: ts => slotsT t ++ slotsTs ts
end
def isP : T → Bool | .p _ => true | _ => false
structure Stored (K : Frag) (F H : Hp) (σ : L2.St) (e : Env) (l : List Nat) (σ' : L2.St) (e' : Env) : Prop where
  post : Post K F H σ e F H σ' e'
  kept : ∀ j, j ∉ l → σ'[j]? = σ[j]?
  len : σ'.length = σ.length
def TgOk (X : Cx) (tg : Expr) (t : T) : Prop := ∃ g, PG X tg g ∧ ∀ (F H : Hp) (e : Env) (v : L2.V) (d : D) (e' : Env) (σ : L2.St) (Q : L2.St → Hp → Prop), σ.length = X.N.length → Rel X.K F H σ e → (Rp X.K F v d ∨ (isP t = true ∧ IR X.K F H v d)) → asgT t d e = some e' →
  (∀ σ', Stored X.K F H σ e (slotsT t) σ' e' → Q σ' H) → g v σ H Q
def TgsOk (X : Cx) (tgs : List Expr) (ts : List T) : Prop := ∃ g, PGs X tgs g ∧ ∀ (F H : Hp) (e : Env) (vs : List L2.V) (ds : List D) (e' : Env) (σ : L2.St) (Q : L2.St → Hp → Prop), σ.length = X.N.length → Rel X.K F H σ e → RpAll X.K F vs ds → ds.length = ts.length → asgTs ts ds e = some e' →
  (∀ σ', Stored X.K F H σ e (slotsTs ts) σ' e' → Q σ' H) → g vs σ H Q
theorem tg_n {X : Cx} {i : Nat} {x : Str} {p : Pos} (hN : X.N.Nodup) (hi : X.N[i]? = some x) (hx : Loc X.env.scope x) (hf : X.fn x = true ∨ X.env.scope.names.lookup x = some .local) : TgOk X (.Name x p) (.n i) := by
  refine ⟨_, pg_name hN hi hx hf, fun F H e v d e' σ Q hl rel r ha k => ?_⟩
  have hd : Rp X.K F v d := by
    rcases r with r | ⟨z, _⟩
    · exact r
    · cases z
  simp only [asgT] at ha
  cases ha
  have hiσ : i < σ.length := by rw [hl]; exact (List.getElem?_eq_some_iff.mp hi).1
  exact k _ ⟨Post.set (Post.refl rel) (w := .d d) hiσ hd trivial, fun j hj => List.getElem?_set_ne fun q => hj (by simp [slotsT, q]), by simp⟩
theorem tgs_nil {X : Cx} : TgsOk X [] [] := by
  refine ⟨_, pgs_nil, fun F H e vs ds e' σ Q hl rel r hn ha k => ?_⟩
  simp only [asgTs] at ha
  cases ha
  cases ds with
  | nil => cases r; exact ⟨rfl, k σ ⟨Post.refl rel, fun _ _ => rfl, rfl⟩⟩
  | cons _ _ => cases hn
theorem tgs_cons {X : Cx} {tg : Expr} {tgs : List Expr} {t : T} {ts : List T} (hs : noStar tg = true) (h1 : TgOk X tg t) (h2 : TgsOk X tgs ts) : TgsOk X (tg :: tgs) (t :: ts) := by
  obtain ⟨g1, p1, q1⟩ := h1
  obtain ⟨g2, p2, q2⟩ := h2
  refine ⟨_, pgs_cons p1 p2 (by cases tg <;> first | rfl | cases hs), fun F H e vs ds e' σ Q hl rel r hn ha k => ?_⟩
  cases ds with
  | nil => cases hn
  | cons d ds =>
    cases r with
    | cons r1 r2 =>
      rename_i v vs'
      simp only [asgTs, Option.bind_eq_some_iff] at ha
      obtain ⟨e1, a1, a2⟩ := ha
      refine ⟨v, vs', rfl, q1 F H e v d e1 σ _ hl rel (.inl r1) a1 fun σ1 s1 => ?_⟩
      refine q2 F H e1 vs' ds e' σ1 Q (by rw [s1.len]; exact hl) s1.post.rel r2 (by simpa using hn) a2 fun σ2 s2 => ?_
      exact k σ2 ⟨s1.post.trans s2.post, fun j hj => by
        simp only [slotsTs, List.mem_append, not_or] at hj
        rw [s2.kept j hj.2, s1.kept j hj.1], by rw [s2.len, s1.len]⟩
def allNoStar : List Expr → Bool
  | [] => true
  | e :: r => noStar e && allNoStar r
theorem star_find {tgs : List Expr} {env : PySem.Env} (h : allNoStar tgs = true) : (assignEach tgs env).findIdx? (·.1) = none := by
  rw [List.findIdx?_eq_none_iff]
  induction tgs with
  | nil => intro x hx; cases hx
  | cons e r ih =>
    simp only [allNoStar, Bool.and_eq_true] at h
    have he : ∃ f, assignEach (e :: r) env = (false, f) :: assignEach r env := by
      cases e <;> first | exact ⟨_, rfl⟩ | (cases h.1; done)
    obtain ⟨f, he⟩ := he
    rw [he]
    intro x hx
    rcases List.mem_cons.mp hx with rfl | hx
    · rfl
    · exact ih h.2 x hx
theorem len_assign {tgs : List Expr} {env : PySem.Env} : (assignEach tgs env).length = tgs.length := by
  induction tgs with
  | nil => rfl
  | cons e r ih =>
    have he : ∃ f, assignEach (e :: r) env = f :: assignEach r env := by cases e <;> exact ⟨_, rfl⟩
    obtain ⟨f, he⟩ := he
    rw [he, List.length_cons, ih, List.length_cons]
theorem pg_or {X : Cx} {tg : Expr} {g1 g2 : TG} (h1 : PG X tg g1) (h2 : PG X tg g2) : PG X tg (fun v σ H Q => g1 v σ H Q ∨ g2 v σ H Q) :=
  ⟨fun pins s σ H v u Q I r h => h.elim (h1.run pins s σ H v u Q I r) (h2.run pins s σ H v u Q I r)⟩
theorem tg_p {X : Cx} {tgs : List Expr} {ts : List T} {c : Nat} {p : Pos} (hc : X.calm = true) (hs : allNoStar tgs = true) (hn : tgs.length = ts.length) (h : TgsOk X tgs ts) : TgOk X (.Tuple tgs c p) (.p ts) := by
  obtain ⟨g, p1, q1⟩ := h
  refine ⟨_, pg_or (pg_tup hc p1 (n := tgs.length) len_assign (star_find hs)) (pg_lst hc p1 (n := tgs.length) len_assign (star_find hs)), fun F H e v d e' σ Q hl rel r ha k => ?_⟩
  simp only [asgT] at ha
  cases d <;> first | (cases ha; done) | skip
  · rename_i ds
    dsimp only at ha
    split at ha
    case isFalse => cases ha
    rename_i hz
    have lst : ∃ a vs, v = .ref a ∧ SqL X.K H a vs ∧ RpAll X.K F vs ds := by
      have seq : Rp X.K F v (.list ds) → ∃ a vs, v = .ref a ∧ SqL X.K H a vs ∧ RpAll X.K F vs ds := fun r => by
        cases r with
        | lst h1 h2 => exact ⟨_, _, rfl, rel.sub.sqL h1, h2⟩
      rcases r with r | ⟨_, r | ⟨a, vs, ds', h1, h2, h3, h4⟩⟩
      · exact seq r
      · exact seq r
      · cases h2
    obtain ⟨a, vs, rfl, h1, h2⟩ := lst
    exact .inr ⟨a, vs, rfl, h1, by rw [rpAll_len h2, hz, hn], q1 F H e vs ds e' σ Q hl rel h2 hz ha fun σ' s' => k σ' s'⟩
  rename_i ds
  dsimp only at ha
  split at ha
  case isFalse => cases ha
  rename_i hz
  have tup : ∃ a vs, v = .ref a ∧ SqT X.K H a vs ∧ RpAll X.K F vs ds := by
    have seq : Rp X.K F v (.tuple ds) → ∃ a vs, v = .ref a ∧ SqT X.K H a vs ∧ RpAll X.K F vs ds := fun r => by
      cases r with
      | tup h1 h2 => exact ⟨_, _, rfl, rel.sub.sqT h1.sq, h2⟩
    rcases r with r | ⟨_, r | ⟨a, vs, ds', h1, h2, h3, h4⟩⟩
    · exact seq r
    · exact seq r
    · cases h2; exact ⟨a, vs, h1, h3, h4⟩
  obtain ⟨a, vs, rfl, h1, h2⟩ := tup
  exact .inl ⟨a, vs, rfl, h1, by rw [rpAll_len h2, hz, hn], q1 F H e vs ds e' σ Q hl rel h2 hz ha fun σ' s' => k σ' s'⟩
/-! ### statements -/
structure GoodS (N : List Str) (sc : Scope) (CX : CXT) (X : Cx) (φ : Orc) : Prop extends Good N sc CX X φ where
  fnc : ∀ x, sc.names.lookup x = some .cell → X.fn x = true
  nox : ∀ v s, ¬ X.xe v s
  kind : sc.kind = .function
def Kept (pr : Nat → Bool) (σ σ' : L2.St) : Prop := ∀ i, pr i = true → σ'[i]? = σ[i]?
def EndK (pr : Nat → Bool) (K : Frag) (F H : Hp) (σ : L2.St) (e : Env) (Dn : Ends) : SR → Prop
  | .nx e' => ∀ σ' F' H', Post K F H σ e F' H' σ' e' → Kept pr σ σ' → Dn.nx σ' H'
  | .bk e' => ∀ σ' F' H', Post K F H σ e F' H' σ' e' → Kept pr σ σ' → Dn.bk σ' H'
  | .ct e' => ∀ σ' F' H', Post K F H σ e F' H' σ' e' → Kept pr σ σ' → Dn.ct σ' H'
  | .rt w e' => ∀ v σ' F' H', Post K F H σ e F' H' σ' e' → Kept pr σ σ' → ResR K F' H' σ' e' w v → From H σ e w v → Dn.rt v H'
  | .exc _ => False
  | .bad => False
def SS (N : List Str) (sc : Scope) (CX : CXT) (pr : Nat → Bool) (st : Stmt) (φ : Orc) (r : Env → SR) : Prop :=
  ∀ X, GoodS N sc CX X φ → ∀ e F H σ Dn, Rel X.K F H σ e → EndK pr X.K F H σ e Dn (r e) → RS X st Dn σ H
def SSs (N : List Str) (sc : Scope) (CX : CXT) (pr : Nat → Bool) (sts : List Stmt) (φ : Orc) (r : Env → SR) : Prop :=
  ∀ X, GoodS N sc CX X φ → ∀ e F H σ Dn, Rel X.K F H σ e → EndK pr X.K F H σ e Dn (r e) → RSs X sts Dn σ H
theorem Kept.refl {pr : Nat → Bool} {σ : L2.St} : Kept pr σ σ := fun _ _ => rfl
theorem Kept.trans {pr : Nat → Bool} {σ σ1 σ2 : L2.St} (h1 : Kept pr σ σ1) (h2 : Kept pr σ1 σ2) : Kept pr σ σ2 := fun i hi => (h2 i hi).trans (h1 i hi)
theorem EndK.trans {pr : Nat → Bool} {K : Frag} {F H F1 H1 : Hp} {σ σ1 : L2.St} {e e1 : Env} {Dn : Ends} (p : Post K F H σ e F1 H1 σ1 e1) (q : Kept pr σ σ1) : ∀ {r : SR}, EndK pr K F H σ e Dn r → EndK pr K F1 H1 σ1 e1 Dn r
  | .nx _, h => fun σ' F' H' p' q' => h σ' F' H' (p.trans p') (q.trans q')
  | .bk _, h => fun σ' F' H' p' q' => h σ' F' H' (p.trans p') (q.trans q')
  | .ct _, h => fun σ' F' H' p' q' => h σ' F' H' (p.trans p') (q.trans q')
  | .rt _ _, h => fun v σ' F' H' p' q' r f => h v σ' F' H' (p.trans p') (q.trans q') r (From.trans p f)
  | .exc _, h => h
  | .bad, h => h
variable {pr : Nat → Bool} {st : Stmt} {sts : List Stmt}
theorem ofR_ok' {α : Type} {pr : Nat → Bool} {K : Frag} {F H : Hp} {σ : L2.St} {e : Env} {Dn : Ends} {r : R α} {f : α → SR} (h : EndK pr K F H σ e Dn (SR.ofR r f)) : ∃ a, r = .ok a ∧ EndK pr K F H σ e Dn (f a) := by
  cases r with
  | ok a => exact ⟨a, rfl, h⟩
  | exc c => exact False.elim h
  | bad => exact False.elim h
theorem sss_nil : SSs N sc CX pr [] φ (execs φ .nil) := by
  intro X G e F H σ Dn rel k
  simp only [execs] at k
  exact RSs.of pss_nil (k σ F H (Post.refl rel) Kept.refl)
theorem sss_cons {s : S} {r : Ss} (h1 : SS N sc CX pr st φ (exec φ s)) (h2 : SSs N sc CX pr sts φ (execs φ r)) : SSs N sc CX pr (st :: sts) φ (execs φ (.cons s r)) := by
  intro X G e F H σ Dn rel k
  simp only [execs] at k
  refine RSs.of (pss_cons (psS st) (pssS sts)) (h1 X G e F H σ _ rel ?_)
  revert k
  cases exec φ s e with
  | nx e1 => exact fun k σ1 F1 H1 p1 q1 => h2 X G e1 F1 H1 σ1 Dn p1.rel (k.trans p1 q1)
  | bk e1 => exact fun k => k
  | ct e1 => exact fun k => k
  | rt w e1 => exact fun k => k
  | exc c => exact fun k => k
  | bad => exact fun k => k
theorem Live.len {X : Cx} {σ : L2.St} {H : Hp} (l : Live X σ H) : σ.length = X.N.length := by
  obtain ⟨_, _, I⟩ := l
  exact I.len
def isLoc (sc : Scope) (x : Str) : Bool := match sc.names.lookup x with | some .local => true | some .cell => true | _ => false
theorem isLoc_of {x : Str} (h : isLoc sc x = true) : sc.names.lookup x = some .local ∨ sc.names.lookup x = some .cell := by
  unfold isLoc at h
  split at h
  · exact .inl (by assumption)
  · exact .inr (by assumption)
  · cases h
theorem GoodS.loc {X : Cx} (G : GoodS N sc CX X φ) {x : Str} (h : isLoc sc x = true) : Loc X.env.scope x ∧ (X.fn x = true ∨ X.env.scope.names.lookup x = some .local) := by
  rw [G.hsc]
  rcases isLoc_of h with z | z
  · exact ⟨.inl z, .inr z⟩
  · exact ⟨.inr z, .inl (G.fnc x z)⟩
def isComp : Expr → Bool
  | .ListComp _ _ _ _ => true
  | .SetComp _ _ _ _ => true
  | .DictComp _ _ _ _ _ => true
  | _ => false
theorem sw_false {t : Option Expr} {l : Nat} {env : PySem.Env} (h : isComp ex = false) : swapsWith ex t l env = pure false := by
  cases ex <;> first | rfl | cases h
theorem kept_set {σ : L2.St} {i : Nat} {v : Option L2.V} (h : pr i = false) : Kept pr σ (σ.set i v) := fun j hj => List.getElem?_set_ne fun q => by subst q; rw [h] at hj; cases hj
theorem ss_asg {i : Nat} {x : Str} {p pos : Pos} {a : E} (hi : N[i]? = some x) (hl : isLoc sc x = true) (hp : pr i = false) (hc : isComp ex = false) (h : SE N sc CX ex φ (evalE φ a)) : SS N sc CX pr (.Assign [.Name x p] ex pos) φ (exec φ (.asg i a)) := by
  intro X G e F H σ Dn rel k
  simp only [exec] at k
  obtain ⟨⟨w, e1⟩, r1, k⟩ := ofR_ok' k
  refine RS.know fun l => RS.of (ps_set (by rw [G.hN]; exact G.nd) (by rw [G.hN]; exact hi) (G.loc hl).1 (peE ex) (sw_false hc) (G.loc hl).2) (h X G.toGood e w e1 r1 F H σ _ rel fun v F1 H1 p1 d1 f1 => ?_)
  have hiσ : i < σ.length := by rw [l.len, G.hN]; exact (List.getElem?_eq_some_iff.mp hi).1
  exact k _ F1 H1 (Post.set p1 hiσ d1 f1) (kept_set hp)
theorem ss_asgT {t : T} {tg : Expr} {pos : Pos} {a : E} (htg : ∀ X, GoodS N sc CX X φ → TgOk X tg t) (hpr : ∀ j ∈ slotsT t, pr j = false) (hsw : ∀ (env : PySem.Env) (l : Nat), swapsWith ex (some tg) l env = pure false) (hst : ∀ env : PySem.Env, swappedStores [tg] ex env = pure none)
    (has : ∀ env : PySem.Env, (assignEach [tg] env).map (·.2) = [assign tg env]) (h : SD N sc CX ex φ (daW (evalE φ a))) : SS N sc CX pr (.Assign [tg] ex pos) φ (exec φ (.asgT t a)) := by
  intro X G e F H σ Dn rel k
  simp only [exec] at k
  obtain ⟨⟨d, e1⟩, r1, k⟩ := ofR_ok' k
  dsimp only at k
  split at k
  case h_2 => exact False.elim k
  rename_i e2 hA
  obtain ⟨g, pg, q⟩ := htg X G
  refine RS.know fun l => RS.of (ps_asg (peE ex) pg (hsw _ _) (hst _) (has _)) (h X G.toGood e d e1 r1 F H σ _ rel fun v F1 H1 p1 d1 => ?_)
  refine q F1 H1 e1 v d e2 σ _ l.len p1.rel (.inl d1) hA fun σ' s' => ?_
  exact k σ' F1 H1 (p1.trans s'.post) fun j hj => s'.kept j fun z => by rw [hpr j z] at hj; cases hj
theorem ss_aug {i : Nat} {x : Str} {p pos : Pos} {a : E} (hi : N[i]? = some x) (hl : isLoc sc x = true) (hp : pr i = false) (h : SD N sc CX ex φ (daW (evalE φ a))) : SS N sc CX pr (.AugAssign (.Name x p) .Add ex pos) φ (exec φ (.aug i .add a)) := by
  intro X G e F H σ Dn rel k
  simp only [exec] at k
  split at k
  case h_2 => exact False.elim k
  rename_i n hg
  obtain ⟨⟨d, e1⟩, r1, k⟩ := ofR_ok' k
  dsimp only at k
  split at k
  case h_2 => exact False.elim k
  rename_i m
  simp only [if_true] at k
  have q := rel.slot i
  rw [hg] at q
  obtain ⟨v, hσ, hv⟩ := q
  cases hv
  refine RS.know fun l => RS.of (ps_aug (by rw [G.hN]; exact G.nd) (by rw [G.hN]; exact hi) (G.loc hl).1 (peE ex) ip_add (G.loc hl).2) ⟨_, hσ, h X G.toGood e _ e1 r1 F H σ _ rel fun v F1 H1 p1 d1 => ?_⟩
  cases d1
  have hiσ : i < σ.length := by rw [l.len, G.hN]; exact (List.getElem?_eq_some_iff.mp hi).1
  exact ⟨n, m, rfl, rfl, k _ F1 H1 (Post.set p1 (w := .d (.int (n + m))) hiσ (.int _) trivial) (kept_set hp)⟩
def isSl : Expr → Bool
  | .Slice _ _ _ _ => true
  | _ => false
theorem sub_assign {o i : Expr} {p : Pos} {env : PySem.Env} (h : isSl i = false) (v : Value) : assign (.Subscript o i p) env v = (do
    let ov ← holding [v] (eval o env)
    let iv ← holding [v, ov] (eval i env)
    standAt p
    holding [v, ov, iv] (setItem ov iv v)
    release [v, ov, iv] []) := by
  cases i <;> first | rfl | cases h
theorem setC_inv {e : Env} {i : Nat} {x v : D} {e1 : Env} (h : setC e i x v = some e1) : ∃ xs k j, get e i = .c xs ∧ x = .int k ∧ ixN xs.length k = some j ∧ e1 = e.set i (.c (xs.set j v)) := by
  unfold setC at h
  split at h
  · rename_i xs k hg
    simp only [Option.map_eq_some_iff] at h
    obtain ⟨j, h1, rfl⟩ := h
    exact ⟨xs, k, j, hg, rfl, h1, rfl⟩
  · cases h
/-- the store of one item -/
theorem sub_run {X : Cx} (G : Good N sc CX X φ) {i : Nat} {x : Str} {ix : E} (hi : N[i]? = some x) (hv : isVis sc x = true) (hp : plainName x = true) (h : SD N sc CX ex φ (daW (evalE φ ix))) {F H : Hp} {σ : L2.St} {e : Env} {v : L2.V} {d : D} {y : D} {e1 e2 : Env} {Q : L2.St → Hp → Prop}
    (rel : Rel X.K F H σ e) (hc : isC (get e i) = true) (r1 : daW (evalE φ ix) e = .ok (y, e1)) (hs : setC e1 i y d = some e2) (hd : Rp X.K F v d) (k : ∀ F' H', Post X.K F H σ e F' H' σ e2 → Q σ H') : gSub (tVar i) (RE X ex) rSetL v σ H Q := by
  obtain ⟨xs0, g0⟩ := isC_of hc
  obtain ⟨l, vs0, hσ, hl, _, _⟩ := rel.cellAt g0
  refine ⟨.ref l, hσ, h X G e y e1 r1 F H σ _ rel fun u F1 H1 p1 d1 => ?_⟩
  obtain ⟨xs, n, j, g1, rfl, hj, rfl⟩ := setC_inv hs
  cases d1
  obtain ⟨l', vs, hσ', hl', _, hd'⟩ := p1.rel.cellAt g1
  rw [hσ] at hσ'; cases hσ'
  exact ⟨l, vs, n, j, rfl, rfl, hl', by rw [← ixN_eq, rpAll_len hd']; exact hj, k _ _ (p1.trans (Post.cell p1.rel g1 hσ (rpAll_set hd' (p1.grow.rp _ _ hd) j)))⟩
theorem ss_st {i : Nat} {x : Str} {p p2 pos : Pos} {ix a : E} (hi : N[i]? = some x) (hv : isVis sc x = true) (hp : plainName x = true) (h : SD N sc CX ex φ (daW (evalE φ a))) (h2 : SD N sc CX ey φ (daW (evalE φ ix))) (hsl : isSl ey = false) :
    SS N sc CX pr (.Assign [.Subscript (.Name x p) ey p2] ex pos) φ (exec φ (.st i ix a)) := by
  intro X G e F H σ Dn rel k
  simp only [exec] at k
  obtain ⟨⟨d, e1⟩, r1, k⟩ := ofR_ok' k
  dsimp only at k
  split at k
  case isFalse => exact False.elim k
  rename_i hc
  obtain ⟨⟨y, e2⟩, r2, k⟩ := ofR_ok' k
  dsimp only at k
  split at k
  case h_2 => exact False.elim k
  rename_i e3 hs
  refine RS.of (ps_asg (peE ex) (pg_sub (pe_name G.toGood hi hv hp) (peE ey) set_list (sub_assign hsl)) (by cases ex <;> rfl) (by rfl) (by rfl)) (h X G.toGood e d e1 r1 F H σ _ rel fun v F1 H1 p1 d1 => ?_)
  exact sub_run G.toGood hi hv hp h2 p1.rel hc r2 hs d1 fun F' H' p' => k σ F' H' (p1.trans p') Kept.refl
theorem swap2 {a b c d : Expr} {k1 k2 : Nat} {p1 p2 p3 p4 : Pos} {env : PySem.Env} {o1 i1 o2 i2 : Expr} : swappedStores [.Tuple [.Subscript o1 i1 p1, .Subscript o2 i2 p2] k1 p3] (.Tuple [a, b] k2 p4) env = pure none := by
  unfold swappedStores
  simp only [List.length_cons, List.length_nil, List.filterMap_cons, List.filterMap_nil]
  split
  · rfl
  · split
    · rfl
    · rfl
theorem ss_st2 {i j : Nat} {x y : Str} {p q p1 p2 p3 p4 pos : Pos} {k1 k2 : Nat} {ix jx a b : E} {e1x e2x ia ja : Expr} (hi : N[i]? = some x) (hv : isVis sc x = true) (hp : plainName x = true) (hi' : N[j]? = some y) (hv' : isVis sc y = true) (hp' : plainName y = true)
    (ha : SD N sc CX e1x φ (daW (evalE φ a))) (hb : SD N sc CX e2x φ (daW (evalE φ b))) (hix : SD N sc CX ia φ (daW (evalE φ ix))) (hjx : SD N sc CX ja φ (daW (evalE φ jx))) (hs1 : noStar e1x = true) (hs2 : noStar e2x = true) (hl1 : isSl ia = false) (hl2 : isSl ja = false) :
    SS N sc CX pr (.Assign [.Tuple [.Subscript (.Name x p) ia p1, .Subscript (.Name y q) ja p2] k1 p3] (.Tuple [e1x, e2x] k2 p4) pos) φ (exec φ (.st2 i ix j jx a b)) := by
  intro X G e F H σ Dn rel k
  simp only [exec] at k
  obtain ⟨⟨d1, e1⟩, r1, k⟩ := ofR_ok' k
  obtain ⟨⟨d2, e2⟩, r2, k⟩ := ofR_ok' k
  dsimp only at k
  split at k
  case isFalse => exact False.elim k
  rename_i hc1
  obtain ⟨⟨y1, e3⟩, r3, k⟩ := ofR_ok' k
  dsimp only at k
  split at k
  case h_2 => exact False.elim k
  rename_i e4 hS1
  split at k
  case isFalse => exact False.elim k
  rename_i hc2
  obtain ⟨⟨y2, e5⟩, r4, k⟩ := ofR_ok' k
  dsimp only at k
  split at k
  case h_2 => exact False.elim k
  rename_i e6 hS2
  refine RS.of (ps_asg (pe_tupF (pa_cons (peE e1x) (pa_cons (peE e2x) pa_nil (star_of hs2)) (star_of hs1))) (pg_tup G.calm (n := 2) (pgs_cons (pg_sub (pe_name G.toGood hi hv hp) (peE ia) set_list (sub_assign hl1)) (pgs_cons (pg_sub (pe_name G.toGood hi' hv' hp') (peE ja) set_list (sub_assign hl2)) pgs_nil)) rfl rfl) (by rfl) (swap2 (c := e1x) (d := e1x)) (by rfl)) ?_
  refine ha X G.toGood e d1 e1 r1 F H σ _ rel fun v1 F1 H1 p1 h1 => ?_
  refine hb X G.toGood e1 d2 e2 r2 F1 H1 σ _ p1.rel fun v2 F2 H2 p2 h2 => ?_
  refine ⟨by show 2 ≤ sizeLine; decide, fun t o ht ho => ?_⟩
  have pp := p1.trans p2
  obtain ⟨z1, z2⟩ := data_res pp ht ho (RpAll.cons (p2.grow.rp _ _ h1) (RpAll.cons h2 RpAll.nil))
  have up : Sub F2 (upd F2 t (.frz o (.tup [v1, v2]))) := by
    refine sub_upd ?_ _
    cases q : F2 t with
    | none => rfl
    | some u => have := pp.rel.sub t u q; rw [ht] at this; cases this
  refine ⟨t, [v1, v2], rfl, .inl (.inr ⟨o, upd_same⟩), rfl, v1, [v2], rfl, ?_⟩
  refine sub_run G.toGood hi hv hp hix z1.rel hc1 r3 hS1 (up.rp _ _ (p2.grow.rp _ _ h1)) fun F3 H3 p3 => ⟨v2, [], rfl, ?_⟩
  refine sub_run G.toGood hi' hv' hp' hjx p3.rel hc2 r4 hS2 (p3.grow.rp _ _ (up.rp _ _ h2)) fun F4 H4 p4 => ⟨rfl, ?_⟩
  exact k σ F4 H4 ((z1.trans p3).trans p4) Kept.refl
theorem ss_ex {a : E} {pos : Pos} (hc : isComp ex = false) (h : SE N sc CX ex φ (evalE φ a)) : SS N sc CX pr (.Expr ex pos) φ (exec φ (.ex a)) := by
  intro X G e F H σ Dn rel k
  simp only [exec] at k
  obtain ⟨⟨w, e1⟩, r1, k⟩ := ofR_ok' k
  exact RS.of (ps_expr (peE ex) (sw_false hc)) (h X G.toGood e w e1 r1 F H σ _ rel fun v F1 H1 p1 _ _ => k σ F1 H1 p1 Kept.refl)
theorem ss_ret {a : E} {pos : Pos} (h : SE N sc CX ex φ (evalE φ a)) : SS N sc CX pr (.Return (some ex) pos) φ (exec φ (.ret a)) := by
  intro X G e F H σ Dn rel k
  simp only [exec] at k
  obtain ⟨⟨w, e1⟩, r1, k⟩ := ofR_ok' k
  exact RS.of (ps_ret (peE ex)) (h X G.toGood e w e1 r1 F H σ _ rel fun v F1 H1 p1 d1 f1 => k v σ F1 H1 p1 Kept.refl d1 f1)
theorem ss_retN {pos : Pos} : SS N sc CX pr (.Return none pos) φ (exec φ .retN) := by
  intro X G e F H σ Dn rel k
  simp only [exec] at k
  exact RS.of ps_retN (k .non σ F H (Post.refl rel) Kept.refl .non trivial)
theorem ss_iff {t : Te} {a b : Ss} {as bs : List Stmt} {pos : Pos} (ht : ST N sc CX ex φ (evalT φ t)) (ha : SSs N sc CX pr as φ (execs φ a)) (hb : SSs N sc CX pr bs φ (execs φ b)) : SS N sc CX pr (.If ex as bs pos) φ (exec φ (.iff t a b)) := by
  intro X G e F H σ Dn rel k
  simp only [exec] at k
  obtain ⟨⟨c, e1⟩, r1, k⟩ := ofR_ok' k
  refine RS.of (ps_if (ptT ex) (pssS as) (pssS bs)) (ht X G.toGood e c e1 r1 F H σ _ rel fun F1 H1 p1 => ?_)
  cases c with
  | true => exact ha X G e1 F1 H1 σ Dn p1.rel (EndK.trans p1 Kept.refl k)
  | false => exact hb X G e1 F1 H1 σ Dn p1.rel (EndK.trans p1 Kept.refl k)
theorem ss_pass {pos : Pos} : SS N sc CX pr (.Pass pos) φ (exec φ .pass) := by
  intro X G e F H σ Dn rel k
  simp only [exec] at k
  exact RS.of ps_pass (k σ F H (Post.refl rel) Kept.refl)
theorem ss_brk {pos : Pos} : SS N sc CX pr (.Break pos) φ (exec φ .brk) := by
  intro X G e F H σ Dn rel k
  simp only [exec] at k
  exact RS.of ps_break (k σ F H (Post.refl rel) Kept.refl)
theorem ss_cnt {pos : Pos} : SS N sc CX pr (.Continue pos) φ (exec φ .cnt) := by
  intro X G e F H σ Dn rel k
  simp only [exec] at k
  exact RS.of ps_continue (k σ F H (Post.refl rel) Kept.refl)
end
end Sw
end T_SwK
section T_SwL
set_option autoImplicit false
set_option linter.all false
set_option Elab.async false
set_option maxRecDepth 100000
set_option maxHeartbeats 1000000
/-! SwL: what loops walk: lists, tuples, ranges, enumerate, zip. -/
namespace Sw
open PySem L2
/-! ### lists and tuples alike -/
def SqB (K : Frag) (H : Hp) (b : Bool) (a : Addr) (xs : List L2.V) : Prop := match b with | true => SqL K H a xs | false => SqT K H a xs
def IterB (h : Heap) (b : Bool) (it a : Addr) (i : Nat) : Prop := match b with | true => h.IsListIter it a i | false => h.IsTupleIter it a i
def HoldB (h : Heap) (b : Bool) (a : Addr) (items : Array Value) : Prop := match b with | true => h.IsList a items | false => h.IsTuple a items
theorem seqB {X : Cx} {pins : List (Addr × Obj)} {σ : L2.St} {H : Hp} {s : Shared} {b : Bool} {a : Addr} {xs : List L2.V} (I : Inv X pins σ H s) (h : SqB X.K H b a xs) : ∃ its : List Value, Vals xs its ∧ HoldB s.heap b a its.toArray ∧ xs.length ≤ sizeLine := by
  cases b with
  | true => obtain ⟨its, r, p, z⟩ := I.list h; exact ⟨its, r, p.isList, z⟩
  | false => obtain ⟨its, r, p, z⟩ := I.tuple h; exact ⟨its, r, p, z⟩
theorem seqB_inj {X : Cx} {pins : List (Addr × Obj)} {σ : L2.St} {H : Hp} {s : Shared} {b : Bool} {a : Addr} {xs ys : List L2.V} (I : Inv X pins σ H s) (h : SqB X.K H b a xs) (g : SqB X.K H b a ys) : xs = ys := by
  cases b with
  | true => exact I.list_inj h g
  | false => exact I.tuple_inj h g
theorem drawsB {prog : Program} {w : World} {A : Around} (hh : A.handled = none) (b : Bool) (it l : Addr) (hne : l ≠ it) (items : Array Value) : Draws prog w A it [it, l] items.size (fun i v => items[i]? = some v) (fun i h => IterB h b it l i ∧ HoldB h b l items) := by
  cases b with
  | true => exact Draws.list hh it l hne items
  | false => exact Draws.tuple hh it l hne items
def iterObj (b : Bool) (a : Addr) : Obj := { cls := .type (if b then "list_iterator" else "tuple_iterator"), data := .fields #[.ref a, .int 0 0] }
theorem beginsB (b : Bool) (a : Addr) (items : Array Value) : Begins (.ref a) (iterObj b a) fun h => HoldB h b a items := by
  cases b with
  | true => exact begins_list a items
  | false => exact begins_tuple a items
theorem iterB_new {h : Heap} {b : Bool} {it a : Addr} (e : h.get? it = some (iterObj b a)) : IterB h b it a 0 := by
  cases b with
  | true => exact ⟨_, e, rfl, rfl⟩
  | false => exact ⟨_, e, rfl, rfl⟩
theorem IterB.at {h h' : Heap} {b : Bool} {it a : Addr} {i : Nat} (p : IterB h b it a i) (k : ∀ o, h.get? it = some o → h'.get? it = some o) : IterB h' b it a i := by
  cases b with
  | true => exact Heap.IsListIter.at p k
  | false => exact Heap.IsTupleIter.at p k
theorem IterB.obj {h : Heap} {b : Bool} {it a : Addr} {i : Nat} (p : IterB h b it a i) : ∃ o, h.get? it = some o ∧ ∀ v, o.data ≠ .cell v := by
  cases b with
  | true => obtain ⟨o, e, _, d⟩ := p; exact ⟨o, e, fun v q => by rw [d] at q; cases q⟩
  | false => obtain ⟨o, e, _, d⟩ := p; exact ⟨o, e, fun v q => by rw [d] at q; cases q⟩
theorem HoldB.lt {h : Heap} {b : Bool} {a : Addr} {items : Array Value} (p : HoldB h b a items) : a < h.objs.size := by
  cases b with
  | true => obtain ⟨o, e, _⟩ := p; exact Heap.lt_size e
  | false => obtain ⟨o, e, _⟩ := p; exact Heap.lt_size e
/-! ### a walk that gives new tuples -/
structure Wk (P : Program) (w : World) (K : Frag) (J : It) (I0 : Addr) (fp wr : List Addr) (tn : Nat → Heap → Prop) (Yt : Nat → Hp → List L2.V → Prop) : Prop where
  mem : I0 ∈ fp
  sub : ∀ b ∈ wr, b ∈ fp
  obj : ∀ i h, tn i h → ∀ b ∈ fp, ∃ o, h.get? b = some o ∧ ∀ v, o.data ≠ .cell v
  keep : ∀ i h h', tn i h → (∀ b ∈ fp, ∀ o, h.get? b = some o → h'.get? b = some o) → tn i h'
  self : ∀ (A : Around) (i : Nat) (s : Shared) (Q : Value → Shared → Prop) (E : Value → Shared → Prop), tn i s.heap → Q (.ref I0) s → wpAny (model P w) A (pyIter (.ref I0)) Q E s
  yld : ∀ i H v H', (∃ T vs, v = .ref T ∧ H T = none ∧ H' = upd H T (.tup vs) ∧ Yt i H vs) → J.yld i H v H'
  walk : ∀ (X : Cx), X.prog = P → X.w = w → X.K = K → X.calm = true → ∀ (i : Nat) (pins : List (Addr × Obj)) (s : Shared) (σ : L2.St) (H : Hp), Inv X pins σ H s → tn i s.heap → (J.go i H ∨ J.stop i H) →
    ∃ n fpw Pt St Mid, WalksT P w X.A I0 fpw wr n Pt St Mid ∧ St i s.heap ∧ (∀ h, St (i + 1) h → tn (i + 1) h) ∧ (J.go i H → i < n) ∧ (J.stop i H → i = n) ∧ ∀ vals, Pt i vals → ∃ vs, Vals vs vals.toList ∧ vs.length ≤ sizeLine ∧ Yt i H vs
theorem turn_wk {P : Program} {w : World} {K : Frag} {J : It} {I0 : Addr} {fp wr : List Addr} {tn : Nat → Heap → Prop} {Yt : Nat → Hp → List L2.V → Prop} {elts : List Expr} {kk : Nat} {tpos : Pos} (W : Wk P w K J I0 fp wr tn Yt) : Turn P w K (.Tuple elts kk tpos) J fp I0 tn where
  mem := W.mem
  obj := W.obj
  keep := W.keep
  item := by
    intro X hP hw hK hc i pins s σ H E I hf st hg
    obtain ⟨n, fpw, Pt, St, Mid, W0, st0, step, lt, _, val⟩ := W.walk X hP hw hK hc i pins s σ H I st (.inl hg)
    refine W0.item i s _ E (lt hg) st0 fun T vals h' tk pt hT tup mid hk => ⟨.ref T, rfl, ?_⟩
    refine W0.go elts kk tpos i T _ _ E mid fun h'' st'' hk'' => ?_
    obtain ⟨vs, rv, hz, y⟩ := val vals pt
    obtain ⟨o, ho, hcl, m, hd⟩ := tup
    have hTn : H T = none := I.hok.fresh hT
    have new : ObjOk X.prog X.w (upd H T (.tup vs)) h'' T (.tup vs) := ⟨hz, vals.toList, rv, ⟨o, hk'' T o (W0.apart _ _ _ mid) ho, hcl, m, by rw [Array.toArray_toList]; exact hd⟩⟩
    have I1 := I.turnedNew (t' := tk) (ch := wr) (fun b o hb e => hk'' b o hb (hk b o hb e)) (fun b hb => hf b (W.sub b hb)) hT new
    refine ⟨.ref T, _, I1, rfl, W.yld _ _ _ _ ⟨T, vs, rfl, hTn, rfl, y⟩, step h'' st'', fun b hb => ?_⟩
    obtain ⟨o', e', _⟩ := W.obj _ _ st b hb
    rw [upd_ne (Nat.ne_of_lt (Nat.lt_of_lt_of_le (Heap.lt_size e') hT))]
    exact (hf b hb).1
  done := by
    intro X hP hw hK hc i pins s σ H E I hf st hg
    obtain ⟨n, fpw, Pt, St, Mid, W0, st0, step, _, eq, _⟩ := W.walk X hP hw hK hc i pins s σ H I st (.inr hg)
    have e := eq hg
    subst e
    exact W0.done s _ E st0 fun h' tk hk => ⟨rfl, I.turnedL (ch := wr) hk fun b hb => hf b (W.sub b hb)⟩
  self := W.self
/-! ### enumerate -/
def JE (K : Frag) (b : Bool) (a : Addr) : It :=
  ⟨fun i H => ∃ xs, SqB K H b a xs ∧ i < xs.length, fun i H v H' => ∃ T vs, v = .ref T ∧ H T = none ∧ H' = upd H T (.tup vs) ∧ ∃ x, vs = [.int (i : Nat), x] ∧ ∀ xs, SqB K H b a xs → xs[i]? = some x, fun i H => ∃ xs, SqB K H b a xs ∧ xs.length = i⟩
theorem wk_enum {P : Program} {w : World} {K : Frag} {b : Bool} {a e it : Addr} (hei : e ≠ it) (hai : a ≠ it) (hae : e ≠ a) :
    Wk P w K (JE K b a) e [e, it] [e, it] (fun i h => (∃ old, IsEnum h e it ((i : Nat) : Int) old) ∧ IterB h b it a i) (fun i H vs => ∃ x, vs = [.int (i : Nat), x] ∧ ∀ xs, SqB K H b a xs → xs[i]? = some x) where
  mem := by simp
  sub := fun _ h => h
  obj := fun i h st c hc => by
    obtain ⟨⟨old, he⟩, hi⟩ := st
    have q : c = e ∨ c = it := by simpa using hc
    rcases q with q | q
    · rw [q]; exact ⟨_, he, fun v z => nomatch z⟩
    · rw [q]; exact hi.obj
  keep := fun i h h' st k => let ⟨⟨old, he⟩, hi⟩ := st; ⟨⟨old, k e (by simp) _ he⟩, hi.at fun o q => k it (by simp) o q⟩
  self := fun A i s Q E st h => let ⟨⟨_, he⟩, _⟩ := st; wpAny_pyIter_enum he h
  yld := fun i H v H' y => y
  walk := by
    intro X hP hw hK hc i pins s σ H I st hg
    subst hP hw hK
    have src : ∃ xs, SqB X.K H b a xs := by
      rcases hg with ⟨xs, h, _⟩ | ⟨xs, h, _⟩
      · exact ⟨xs, h⟩
      · exact ⟨xs, h⟩
    obtain ⟨xs, hq⟩ := src
    obtain ⟨its, rv, hold, hz⟩ := seqB I hq
    obtain ⟨⟨old, he⟩, hi⟩ := st
    have hl := rv.length
    refine ⟨its.toArray.size, _, _, _, _, WalksT.enumFrom 0 (drawsB (A := X.A.in1) (I.ok.hd hc) b it a hai its.toArray) e hei (by simp [hei, hae]) (by simp), ⟨⟨old, by rw [Int.zero_add]; exact he⟩, hi, hold⟩, fun h st' => ?_, fun ⟨ys, hy, hlt⟩ => ?_, fun ⟨ys, hy, hlt⟩ => ?_, fun vals hp => ?_⟩
    · obtain ⟨⟨o2, he2⟩, hi2, _⟩ := st'
      exact ⟨⟨o2, by rw [Int.zero_add] at he2; exact he2⟩, hi2⟩
    · rw [seqB_inj I hy hq] at hlt
      rw [List.size_toArray]; omega
    · rw [seqB_inj I hy hq] at hlt
      rw [List.size_toArray]; omega
    · obtain ⟨t, x, hx, rfl⟩ := hp
      have hx' : its[i]? = some x := by simpa using hx
      have hi' : i < its.length := (List.getElem?_eq_some_iff.mp hx').1
      obtain ⟨y, hy⟩ : ∃ y, xs[i]? = some y := ⟨xs[i]'(by omega), List.getElem?_eq_getElem (by omega)⟩
      obtain ⟨u, hu, ru⟩ := rv.get hy
      rw [hx'] at hu; cases hu
      exact ⟨[.int (i : Nat), y], .cons ⟨t, by rw [Int.zero_add]⟩ (.cons ru .nil), by show 2 ≤ sizeLine; decide, y, rfl, fun zs hz => by rw [seqB_inj I hz hq]; exact hy⟩
theorem meets_enum1 {v : Value} {o : Obj} {H : Heap → Prop} (B : Begins v o H) :
    Meets (Builtin.«enumerate.__new__» ⟨[.type "enumerate", v], []⟩) (fun _ R s => H s.heap ∧
      R (.ok (.ret (.ref (s.heap.push o).objs.size))) { s with heap := (s.heap.push o).push { cls := .type "enumerate", data := .fields #[.none, .bool false, .ref s.heap.objs.size, rawInt 0, .none, .none] } }) :=
  .of_wp fun prog w A R s h => by
    obtain ⟨hp, g, d, tk, os⟩ := s; obtain ⟨h1, h⟩ := h
    have hsub := sub_enumerate
    have q1 : ∀ {A' : Around} {E : Value → Shared → Prop} {Q : Value → Shared → Prop}, Q (.ref hp.objs.size) ⟨hp.push o, g, d, tk, os⟩ → wpAny (model prog w) A' (pyIter v) Q E ⟨hp, g, d, tk, os⟩ :=
      fun q => B.iter prog w _ _ ⟨hp, g, d, tk, os⟩ _ h1 q
    wp_walk using q1
    refine wpAny_stack_any fun st => wpAny_pure ?_
    split
    · rename_i c _ _ _ _ _
      cases (c == Value.type "enumerate")
      · wp_walk using q1
        exact ⟨_, rfl, h⟩
      · wp_walk using q1
        exact ⟨_, rfl, h⟩
    · wp_walk using q1
      exact ⟨_, rfl, h⟩
theorem call_enum1 {prog : Program} {w : World} {A : Around} {E : Value → Shared → Prop} {s : Shared} {v : Value} {o : Obj} {H : Heap → Prop} {Q : Value → Shared → Prop} (B : Begins v o H) (h1 : H s.heap)
    (h : ∀ h', IsEnum h' (s.heap.objs.size + 1) s.heap.objs.size 0 .none → h'.get? s.heap.objs.size = some o → (∀ b u, s.heap.get? b = some u → h'.get? b = some u) → Q (.ref (s.heap.objs.size + 1)) { s with heap := h' }) :
    wpAny (model prog w) A (call (.type "enumerate") [v]) Q E s := by
  refine callType_new F.called_enumerate (by decide) (F.typeCall_enumerate_1 _) (F.newCall_enumerate_1 _) (fun obj => F.args_object_init_2 obj _) F.entry_enumerate_new (meets_enum1 B) ⟨h1, ?_⟩
  have hz : (s.heap.push o).objs.size = s.heap.objs.size + 1 := Heap.size_push ..
  have he := Heap.get?_push_size (s.heap.push o) (o := { cls := .type "enumerate", data := .fields #[.none, .bool false, .ref s.heap.objs.size, rawInt 0, .none, .none] }) rfl
  show _ ∧ _
  rw [hz] at he ⊢
  exact ⟨⟨_, he, rfl⟩, h _ he (Heap.get?_push_of_some _ (Heap.get?_push_size _ B.free)) fun b u x => Heap.get?_push_of_some _ (Heap.get?_push_of_some _ x)⟩
def iEnumB (K : Frag) (te : TE) : TI := fun σ H R => te σ H fun x H1 => ∃ b a xs, x = .ref a ∧ SqB K H1 b a xs ∧ R (JE K b a) H1
theorem pi_enumB {X : Cx} {ex : Expr} {te : TE} {p pos tpos : Pos} {elts : List Expr} {kk : Nat} (hg : Gl X "enumerate") (hm : X.mg "enumerate" = none) (he : PE X ex te) (hs : noStar ex = true) :
    PI X (.Tuple elts kk tpos) (.Call (.Name "enumerate" p) [ex] [] pos) (iEnumB X.K te) := by
  refine ⟨fun pins s σ H R I h => ?_⟩
  refine PyProof.Rows.Call_ (ld_blt I hg hm PyProof.Rows.boot_enumerate (PyProof.Rows.callWith_type1 (one_arg he I h (fun v s1 x H1 I1 r1 q1 => ?_) (star_of hs)) (star_of hs) rfl))
  obtain ⟨b, a, xs, rfl, hq, q⟩ := q1
  cases r1
  obtain ⟨its, rv, hold, hz⟩ := seqB I1 hq
  have la := hold.lt
  refine call_enum1 (beginsB b a its.toArray) hold fun h' hen hit hk => wpAny_pyIter_enum hen ?_
  have I2 : Inv X pins σ H1 { s1 with heap := h' } := I1.kept (t' := s1.toks) hk
  refine ⟨s1.heap.objs.size + 1, [s1.heap.objs.size + 1, s1.heap.objs.size], _, _, H1, rfl, I2, turn_wk (wk_enum (Nat.succ_ne_self _) (Nat.ne_of_lt la) (Nat.ne_of_gt (Nat.lt_succ_of_lt la))), ⟨⟨.none, hen⟩, iterB_new hit⟩, fun c hc => ?_, q⟩
  have q : c = s1.heap.objs.size + 1 ∨ c = s1.heap.objs.size := by simpa using hc
  have hle : s1.heap.objs.size ≤ c := by
    rcases q with q | q
    · rw [q]; exact Nat.le_succ _
    · rw [q]; exact Nat.le_refl _
  exact I1.fpOk hle (I1.hok.fresh hle)
/-! ### zip of two -/
def JZ (K : Frag) (b1 : Bool) (a1 : Addr) (b2 : Bool) (a2 : Addr) : It :=
  ⟨fun i H => ∃ xs ys, SqB K H b1 a1 xs ∧ SqB K H b2 a2 ys ∧ i < min xs.length ys.length, fun i H v H' => ∃ T vs, v = .ref T ∧ H T = none ∧ H' = upd H T (.tup vs) ∧ ∃ x y, vs = [x, y] ∧ (∀ xs, SqB K H b1 a1 xs → xs[i]? = some x) ∧ ∀ ys, SqB K H b2 a2 ys → ys[i]? = some y,
    fun i H => ∃ xs ys, SqB K H b1 a1 xs ∧ SqB K H b2 a2 ys ∧ min xs.length ys.length = i⟩
theorem wk_zip {P : Program} {w : World} {K : Frag} {b1 b2 : Bool} {a1 a2 z TI TO i1 i2 : Addr} (S : ZipSep2 z TI TO i1 i2 [i1, a1] [i2, a2]) (n1 : a1 ≠ i1) (n2 : a2 ≠ i2) :
    Wk P w K (JZ K b1 a1 b2 a2) z [z, TI, TO, i1, i2] [z, TO, i1, i2] (fun i h => IsZip h z TI TO .none ∧ IsTupOf2 h TI (.ref i1) (.ref i2) ∧ (∃ x y, IsTupOf2 h TO x y) ∧ IterB h b1 i1 a1 i ∧ IterB h b2 i2 a2 i)
      (fun i H vs => ∃ x y, vs = [x, y] ∧ (∀ xs, SqB K H b1 a1 xs → xs[i]? = some x) ∧ ∀ ys, SqB K H b2 a2 ys → ys[i]? = some y) where
  mem := by simp
  sub := fun c hc => by
    have q : c = z ∨ c = TO ∨ c = i1 ∨ c = i2 := by simpa using hc
    rcases q with q | q | q | q <;> rw [q] <;> simp
  obj := fun i h st c hc => by
    obtain ⟨hz, hTI, ⟨x, y, hTO⟩, h1, h2⟩ := st
    have q : c = z ∨ c = TI ∨ c = TO ∨ c = i1 ∨ c = i2 := by simpa using hc
    rcases q with q | q | q | q | q
    · rw [q]; exact ⟨_, hz, fun v z => nomatch z⟩
    · rw [q]; exact ⟨_, hTI, fun v z => nomatch z⟩
    · rw [q]; exact ⟨_, hTO, fun v z => nomatch z⟩
    · rw [q]; exact h1.obj
    · rw [q]; exact h2.obj
  keep := fun i h h' st k => by
    obtain ⟨hz, hTI, ⟨x, y, hTO⟩, h1, h2⟩ := st
    exact ⟨k z (by simp) _ hz, k TI (by simp) _ hTI, ⟨x, y, k TO (by simp) _ hTO⟩, h1.at fun o q => k i1 (by simp) o q, h2.at fun o q => k i2 (by simp) o q⟩
  self := fun A i s Q E st h => wpAny_pyIter_zip st.1 h
  yld := fun i H v H' y => y
  walk := by
    intro X hP hw hK hc i pins s σ H I st hg
    subst hP hw hK
    have src : ∃ xs ys, SqB X.K H b1 a1 xs ∧ SqB X.K H b2 a2 ys := by
      rcases hg with ⟨xs, ys, h, g, _⟩ | ⟨xs, ys, h, g, _⟩
      · exact ⟨xs, ys, h, g⟩
      · exact ⟨xs, ys, h, g⟩
    obtain ⟨xs, ys, hq1, hq2⟩ := src
    obtain ⟨its1, rv1, hold1, hz1⟩ := seqB I hq1
    obtain ⟨its2, rv2, hold2, hz2⟩ := seqB I hq2
    obtain ⟨hz, hTI, ⟨x, y, hTO⟩, h1, h2⟩ := st
    have l1 := rv1.length
    have l2 := rv2.length
    refine ⟨min its1.toArray.size its2.toArray.size, _, _, _, _, WalksT.zipD2 S (drawsB (A := X.A.in1) (I.ok.hd hc) b1 i1 a1 n1 its1.toArray) (drawsB (A := X.A.in1) (I.ok.hd hc) b2 i2 a2 n2 its2.toArray), ⟨hz, hTI, ⟨x, y, hTO⟩, ⟨h1, hold1⟩, ⟨h2, hold2⟩⟩, fun h st' => ?_, fun ⟨zs, ws, g1, g2, hlt⟩ => ?_, fun ⟨zs, ws, g1, g2, hlt⟩ => ?_, fun vals hp => ?_⟩
    · obtain ⟨hz', hTI', hTO', ⟨h1', _⟩, ⟨h2', _⟩⟩ := st'
      exact ⟨hz', hTI', hTO', h1', h2'⟩
    · rw [seqB_inj I g1 hq1, seqB_inj I g2 hq2] at hlt
      rw [List.size_toArray, List.size_toArray]; omega
    · rw [seqB_inj I g1 hq1, seqB_inj I g2 hq2] at hlt
      rw [List.size_toArray, List.size_toArray]; omega
    · obtain ⟨x1, x2, hx1, hx2, rfl⟩ := hp
      have e1 : its1[i]? = some x1 := by simpa using hx1
      have e2 : its2[i]? = some x2 := by simpa using hx2
      have k1 : i < its1.length := (List.getElem?_eq_some_iff.mp e1).1
      have k2 : i < its2.length := (List.getElem?_eq_some_iff.mp e2).1
      obtain ⟨v1, hv1⟩ : ∃ y, xs[i]? = some y := ⟨xs[i]'(by omega), List.getElem?_eq_getElem (by omega)⟩
      obtain ⟨v2, hv2⟩ : ∃ y, ys[i]? = some y := ⟨ys[i]'(by omega), List.getElem?_eq_getElem (by omega)⟩
      obtain ⟨u1, hu1, ru1⟩ := rv1.get hv1
      obtain ⟨u2, hu2, ru2⟩ := rv2.get hv2
      rw [e1] at hu1; cases hu1
      rw [e2] at hu2; cases hu2
      exact ⟨[v1, v2], .cons ru1 (.cons ru2 .nil), by show 2 ≤ sizeLine; decide, v1, v2, rfl, fun zs hz => by rw [seqB_inj I hz hq1]; exact hv1, fun zs hz => by rw [seqB_inj I hz hq2]; exact hv2⟩
def iZipB (K : Frag) (ta : TA) : TI := fun σ H R => ta σ H fun vs H2 => ∃ x y, vs = [x, y] ∧ ∃ b1 a1 xs b2 a2 ys, x = .ref a1 ∧ y = .ref a2 ∧ SqB K H2 b1 a1 xs ∧ SqB K H2 b2 a2 ys ∧ R (JZ K b1 a1 b2 a2) H2
theorem pi_zipB {X : Cx} {ex ey : Expr} {ta : TA} {p pos tpos : Pos} {elts : List Expr} {kk : Nat} (hg : Gl X "zip") (hm : X.mg "zip" = none) (ha : PA X [ex, ey] ta) (hs : noStar ex = true) (hs2 : noStar ey = true) :
    PI X (.Tuple elts kk tpos) (.Call (.Name "zip" p) [ex, ey] [] pos) (iZipB X.K ta) := by
  refine ⟨fun pins s σ H R I h => ?_⟩
  refine PyProof.Rows.Call_ (ld_blt I hg hm PyProof.Rows.boot_zip (PyProof.Rows.callWith_type1 (thn (ha.run pos pins s σ H _ I h) fun us s1 ⟨vs, H1, I1, r1, q1⟩ => ?_) (star_of hs) (plain_of (es := [ey]) (by simp [noStars, hs2]))))
  · obtain ⟨x, y, rfl, b1, a1, xs, b2, a2, ys, rfl, rfl, hq1, hq2, q⟩ := q1
    obtain ⟨u, v, rfl, ru, rv⟩ := Vals.two r1
    cases ru
    cases rv
    obtain ⟨its1, rv1, hold1, _⟩ := seqB I1 hq1
    obtain ⟨its2, rv2, hold2, _⟩ := seqB I1 hq2
    have l1 := hold1.lt
    have l2 := hold2.lt
    refine zip_begins2 (beginsB b1 a1 its1.toArray) (beginsB b2 a2 its2.toArray) hold1 hold2 fun h' hz hTI hTO h1 h2 hsz hk => wpAny_pyIter_zip hz ?_
    have I2 : Inv X pins σ H1 { s1 with heap := h' } := I1.kept (t' := s1.toks) hk
    refine ⟨s1.heap.objs.size + 4, [s1.heap.objs.size + 4, s1.heap.objs.size + 2, s1.heap.objs.size + 3, s1.heap.objs.size, s1.heap.objs.size + 1], _, _, H1, rfl, I2,
      turn_wk (wk_zip (zip_sep2 (N := s1.heap.objs.size) (fp1 := [a1]) (fp2 := [a2]) (by simpa using l1) (by simpa using l2)) (Nat.ne_of_lt l1) (Nat.ne_of_lt (Nat.lt_succ_of_lt l2))), ⟨hz, hTI, ⟨_, _, hTO⟩, iterB_new h1, iterB_new h2⟩, fun c hcm => ?_, q⟩
    have e' : c = s1.heap.objs.size + 4 ∨ c = s1.heap.objs.size + 2 ∨ c = s1.heap.objs.size + 3 ∨ c = s1.heap.objs.size ∨ c = s1.heap.objs.size + 1 := by simpa using hcm
    have hle : s1.heap.objs.size ≤ c := by
      rcases e' with z | z | z | z | z <;> rw [z] <;> first | exact Nat.le_add_right _ _ | exact Nat.le_refl _
    exact I1.fpOk hle (I1.hok.fresh hle)
end Sw
end T_SwL
section T_SwM
set_option autoImplicit false
set_option linter.all false
set_option Elab.async false
set_option maxRecDepth 100000
set_option maxHeartbeats 1000000
/-! SwM: sources, for, while. -/
namespace Sw
open PySem L2
def YD (K : Frag) (F' : Hp) (pl : Bool) (xs : List D) : Nat → Hp → L2.V → Hp → Prop := fun i H x H' => ∃ d, xs[i]? = some d ∧
  match pl with
  | true => H' = H ∧ Rp K F' x d
  | false => ∃ T vs ds, x = .ref T ∧ H T = none ∧ H' = upd H T (.tup vs) ∧ d = .tuple ds ∧ RpAll K F' vs ds
section
variable {N : List Str} {sc : Scope} {CX : CXT} {φ : Orc} {ex ey ez big tg iter : Expr} {exs : List Expr} {pl : Bool}
def Srcs (N : List Str) (sc : Scope) (CX : CXT) (tg iter : Expr) (φ : Orc) (pl : Bool) (r : Env → R (List D × Env)) : Prop :=
  ∀ X, Good N sc CX X φ → ∃ wi, PI X tg iter wi ∧ ∀ e xs e', r e = .ok (xs, e') → ∀ F H σ (R : It → Hp → Prop), Rel X.K F H σ e →
    (∀ J F' H', Post X.K F H σ e F' H' σ e' → Walk J xs.length (fun H1 => Sub F' H1) (YD X.K F' pl xs) → R J H') → wi σ H R
/-! ### a list or a tuple -/
def JL (K : Frag) : Bool → Addr → It | true, a => Itl K a | false, a => Itt K a
def iSeqB (K : Frag) (te : TE) : TI := fun σ H R => te σ H fun x H1 => ∃ b a xs, x = .ref a ∧ SqB K H1 b a xs ∧ R (JL K b a) H1
theorem pi_seqB {X : Cx} {te : TE} (he : PE X ex te) : PI X tg ex (iSeqB X.K te) := by
  refine ⟨fun pins s σ H R I h => thn (he.run pins s σ H _ I h) fun v s1 ⟨x, H1, I1, r1, b, a, xs, ex, hq, q⟩ => ?_⟩
  subst ex
  cases r1
  obtain ⟨its, rv, hold, hz⟩ := seqB I1 hq
  refine (beginsB b a its.toArray).iter _ _ _ _ _ _ hold ?_
  have st : IterB (s1.heap.push (iterObj b a)) b s1.heap.objs.size a 0 := iterB_new (Heap.get?_push_size _ (beginsB b a its.toArray).free)
  cases b with
  | true => exact pi_one (tk := s1.toks) I1 _ (turn_list a _) st q
  | false => exact pi_one (tk := s1.toks) I1 _ (turn_tuple a _) st q
theorem rp_seqB {K : Frag} {F : Hp} {v : L2.V} {d : D} {xs : List D} (r : Rp K F v d) (h : seqOf d = some xs) : ∃ b a vs, v = .ref a ∧ SqB K F b a vs ∧ RpAll K F vs xs := by
  cases r with
  | lst h1 h2 => cases h; exact ⟨true, _, _, rfl, h1, h2⟩
  | tup h1 h2 => cases h; exact ⟨false, _, _, rfl, h1.sq, h2⟩
  | non => cases h
  | bl _ => cases h
  | int _ => cases h
  | str _ => cases h
  | dct _ => cases h
theorem Sub.sqB {K : Frag} {F H : Hp} (h : Sub F H) {b : Bool} {a : Addr} {xs : List L2.V} (r : SqB K F b a xs) : SqB K H b a xs := by
  cases b with
  | true => exact h.sqL r
  | false => exact h.sqT r
theorem walk_seqB {K : Frag} {F : Hp} {b : Bool} {a : Addr} {vs : List L2.V} {xs : List D} (h1 : SqB K F b a vs) (h2 : RpAll K F vs xs) : Walk (JL K b a) xs.length (fun H1 => Sub F H1) (YD K F true xs) := by
  have hl := rpAll_len h2
  have y : ∀ (i : Nat) (H : Hp) (x : L2.V) (H' : Hp), YAt vs i H x H' → YD K F true xs i H x H' := fun i H x H' y => by
    obtain ⟨d, e, r⟩ := rpAll_get' h2 y.2
    exact ⟨d, e, y.1, r⟩
  rw [← hl]
  cases b with
  | true => exact walk_list.mono (fun H s => s.sqL h1) fun i H x H' _ _ q => y i H x H' q
  | false => exact walk_tup.mono (fun H s => s.sqT h1) fun i H x H' _ _ q => y i H x H' q
theorem src_seq {a : E} (h : SD N sc CX ex φ (daW (evalE φ a))) : Srcs N sc CX tg ex φ true (evalSrc φ (.seq a)) := by
  intro X G
  refine ⟨_, pi_seqB (peE ex), fun e xs e' hr F H σ R rel k => ?_⟩
  simp only [evalSrc] at hr
  obtain ⟨⟨d, e1⟩, r1, r2⟩ := bind_inv hr
  obtain ⟨ys, r3, r4⟩ := bind_inv r2
  cases r4
  refine h X G e d _ r1 F H σ _ rel fun v F1 H1 p1 d1 => ?_
  obtain ⟨b, a, vs, rfl, h1, h2⟩ := rp_seqB d1 (ofO_inv r3)
  exact ⟨b, a, vs, rfl, p1.rel.sub.sqB h1, k _ F1 H1 p1 (walk_seqB h1 h2)⟩
/-! ### ranges -/
theorem rangeD_len (a : Int) (n : Nat) (c : Int) : (rangeD a n c).length = n := by simp [rangeD]
theorem rangeD_get {a : Int} {n : Nat} {c : Int} {i : Nat} (h : i < n) : (rangeD a n c)[i]? = some (.int (a + (i : Int) * c)) := by
  unfold rangeD
  rw [List.getElem?_map, List.getElem?_range h]; rfl
theorem walk_rangeD {K : Frag} {F : Hp} {lo : Int} {n : Nat} : Walk (Itr lo n) (rangeD lo n 1).length (fun H1 => Sub F H1) (YD K F true (rangeD lo n 1)) := by
  rw [rangeD_len]
  refine walk_range.mono (fun _ _ => trivial) fun i H x H' hi _ y => ?_
  obtain ⟨y1, rfl⟩ := y
  exact ⟨_, rangeD_get hi, y1, by rw [Int.mul_one]; exact .int _⟩
theorem walk_rangeCD {K : Frag} {F : Hp} {lo c : Int} {n : Nat} : Walk (Itc lo c n) (rangeD lo n c).length (fun H1 => Sub F H1) (YD K F true (rangeD lo n c)) := by
  rw [rangeD_len]
  refine walk_rangeC.mono (fun _ _ => trivial) fun i H x H' hi _ y => ?_
  obtain ⟨y1, rfl⟩ := y
  exact ⟨_, rangeD_get hi, y1, .int _⟩
theorem range2_inv {a b : D} {xs : List D} (h : range2 a b = some xs) : ∃ i j, a = .int i ∧ b = .int j ∧ (-(2 ^ 62) ≤ i ∧ i < 2 ^ 62 ∧ -(2 ^ 62) ≤ j ∧ j < 2 ^ 62) ∧ (j - i).toNat ≤ lim ∧ xs = rangeD i (j - i).toNat 1 := by
  unfold range2 at h
  split at h
  · split at h
    · rename_i i j hc
      rw [Bool.and_eq_true] at hc
      cases h
      exact ⟨i, j, rfl, rfl, of_decide_eq_true hc.1, of_decide_eq_true hc.2, rfl⟩
    · cases h
  · cases h
theorem src_rng1 {a : E} {p pos : Pos} (hg : GlS sc (Str.ofString "range")) (hs : noStar ex = true) (h : SD N sc CX ex φ (daW (evalE φ a))) : Srcs N sc CX tg (.Call (.Name (Str.ofString "range") p) [ex] [] pos) φ true (evalSrc φ (.rng1 a)) := by
  intro X G
  refine ⟨_, pi_range1 (G.gl hg) (G.blt "range" (by decide)) (pa_cons (peE ex) pa_nil (star_of hs)) (by rw [star_of hs]; rfl), fun e xs e' hr F H σ R rel k => ?_⟩
  simp only [evalSrc] at hr
  obtain ⟨⟨d, e1⟩, r1, r2⟩ := bind_inv hr
  obtain ⟨ys, r3, r4⟩ := bind_inv r2
  cases r4
  obtain ⟨i, j, hi, rfl, hb, hl, rfl⟩ := range2_inv (ofO_inv r3)
  cases hi
  refine h X G e _ _ r1 F H σ _ rel fun v F1 H1 p1 d1 => ?_
  cases d1
  have q := k _ F1 H1 p1 walk_rangeD
  rw [Int.sub_zero] at q
  exact ⟨j, rfl, hb.2.2.1, hb.2.2.2, q⟩
theorem src_rng2 {a b : E} {p pos : Pos} (hg : GlS sc (Str.ofString "range")) (hs : noStar ex = true) (hs2 : noStar ey = true) (h : SD N sc CX ex φ (daW (evalE φ a))) (h2 : SD N sc CX ey φ (daW (evalE φ b))) : Srcs N sc CX tg (.Call (.Name (Str.ofString "range") p) [ex, ey] [] pos) φ true (evalSrc φ (.rng2 a b)) := by
  intro X G
  refine ⟨_, pi_range2 (G.gl hg) (G.blt "range" (by decide)) (pa_cons (peE ex) (pa_cons (peE ey) pa_nil (star_of hs2)) (star_of hs)) (by rw [star_of hs, star_of hs2]; rfl) (by rw [star_of hs2]; rfl), fun e xs e' hr F H σ R rel k => ?_⟩
  simp only [evalSrc] at hr
  obtain ⟨⟨d, e1⟩, r1, r2⟩ := bind_inv hr
  obtain ⟨⟨d', e2⟩, r1', r2⟩ := bind_inv r2
  obtain ⟨ys, r3, r4⟩ := bind_inv r2
  cases r4
  obtain ⟨i, j, rfl, rfl, hb, hl, rfl⟩ := range2_inv (ofO_inv r3)
  refine h X G e _ _ r1 F H σ _ rel fun v F1 H1 p1 d1 => ?_
  refine h2 X G e1 _ _ r1' F1 H1 σ _ p1.rel fun v' F2 H2 p2 d2 => ?_
  cases d1
  cases d2
  exact ⟨i, j, rfl, hb, k _ F2 H2 (p1.trans p2) walk_rangeD⟩
theorem range3_inv {a b c : D} {xs : List D} (h : range3 a b c = some xs) : ∃ i j k n, a = .int i ∧ b = .int j ∧ c = .int k ∧ RgC i j k n ∧ n ≤ lim ∧ xs = rangeD i n k := by
  unfold range3 at h
  split at h
  · split at h
    · rename_i i j k hc
      simp only [Bool.and_eq_true, decide_eq_true_eq] at hc
      cases h
      exact ⟨i, j, k, _, rfl, rfl, rfl, ⟨hc.1.1.1, hc.1.1.2, hc.1.2, by omega⟩, hc.2.2, rfl⟩
    · cases h
  · cases h
theorem src_rng3 {a b c : E} {p pos : Pos} (hg : GlS sc (Str.ofString "range")) (hs : noStar ex = true) (hs2 : noStar ey = true) (hs3 : noStar ez = true) (h : SD N sc CX ex φ (daW (evalE φ a))) (h2 : SD N sc CX ey φ (daW (evalE φ b))) (h3 : SD N sc CX ez φ (daW (evalE φ c))) :
    Srcs N sc CX tg (.Call (.Name (Str.ofString "range") p) [ex, ey, ez] [] pos) φ true (evalSrc φ (.rng3 a b c)) := by
  intro X G
  refine ⟨_, pi_range3 (G.gl hg) (G.blt "range" (by decide)) (pa_cons (peE ex) (pa_cons (peE ey) (pa_cons (peE ez) pa_nil (star_of hs3)) (star_of hs2)) (star_of hs)) (star_of hs) (plain_of (es := [ey, ez]) (by simp [noStars, hs2, hs3])), fun e xs e' hr F H σ R rel k => ?_⟩
  simp only [evalSrc] at hr
  obtain ⟨⟨d, e1⟩, r1, r2⟩ := bind_inv hr
  obtain ⟨⟨d', e2⟩, r1', r2⟩ := bind_inv r2
  obtain ⟨⟨d'', e3⟩, r1'', r2⟩ := bind_inv r2
  obtain ⟨ys, r3, r4⟩ := bind_inv r2
  cases r4
  obtain ⟨i, j, q, n, rfl, rfl, rfl, hb, hl, rfl⟩ := range3_inv (ofO_inv r3)
  refine h X G e _ _ r1 F H σ _ rel fun v F1 H1 p1 d1 => ?_
  refine h2 X G e1 _ _ r1' F1 H1 σ _ p1.rel fun v' F2 H2 p2 d2 => ?_
  refine h3 X G e2 _ _ r1'' F2 H2 σ _ p2.rel fun v'' F3 H3 p3 d3 => ?_
  cases d1
  cases d2
  cases d3
  exact ⟨i, j, q, n, rfl, hb, k _ F3 H3 (p1.trans (p2.trans p3)) walk_rangeCD⟩
/-! ### enumerate, zip -/
theorem enum_len : ∀ (xs : List D) (n : Nat), (enumFrom n xs).length = xs.length
  | [], _ => rfl
  | x :: r, n => by simp [enumFrom, enum_len r]
theorem enum_get : ∀ {xs : List D} {n i : Nat} {d : D}, xs[i]? = some d → (enumFrom n xs)[i]? = some (.tuple [.int ((n + i : Nat) : Int), d])
  | x :: r, n, 0, d, h => by simp at h; subst h; simp [enumFrom]
  | x :: r, n, i + 1, d, h => by
    have h' : r[i]? = some d := by simpa using h
    have := enum_get (n := n + 1) h'
    simp only [enumFrom, List.getElem?_cons_succ]
    rw [this, Nat.add_assoc, Nat.add_comm 1 i]
theorem walk_enumB {K : Frag} {F : Hp} {b : Bool} {a : Addr} {vs : List L2.V} {xs : List D} (h1 : SqB K F b a vs) (h2 : RpAll K F vs xs) : Walk (JE K b a) (enumFrom 0 xs).length (fun H1 => Sub F H1) (YD K F false (enumFrom 0 xs)) := by
  have hl := rpAll_len h2
  rw [enum_len, ← hl]
  refine ⟨fun i H hi s => ⟨vs, s.sqB h1, hi⟩, fun H s => ⟨vs, s.sqB h1, rfl⟩, fun i H v H' hi s y => ?_⟩
  obtain ⟨T, ws, e1, e2, e3, x, rfl, hx⟩ := y
  obtain ⟨d, hd, r⟩ := rpAll_get' h2 (hx vs (s.sqB h1))
  refine ⟨_, enum_get hd, T, _, [.int (i : Nat), d], e1, e2, e3, by rw [Nat.zero_add], .cons (.int _) (.cons r .nil)⟩
theorem src_enum {a : E} {p pos tpos : Pos} {elts : List Expr} {kk : Nat} (hg : GlS sc (Str.ofString "enumerate")) (hs : noStar ex = true) (h : SD N sc CX ex φ (daW (evalE φ a))) : Srcs N sc CX (.Tuple elts kk tpos) (.Call (.Name (Str.ofString "enumerate") p) [ex] [] pos) φ false (evalSrc φ (.enum a)) := by
  intro X G
  refine ⟨_, pi_enumB (G.gl hg) (G.blt "enumerate" (by decide)) (peE ex) hs, fun e xs e' hr F H σ R rel k => ?_⟩
  simp only [evalSrc] at hr
  obtain ⟨⟨d, e1⟩, r1, r2⟩ := bind_inv hr
  obtain ⟨ys, r3, r4⟩ := bind_inv r2
  cases r4
  have r3 := ofO_inv r3
  unfold enumD at r3
  simp only [Option.map_eq_some_iff] at r3
  obtain ⟨zs, r5, rfl⟩ := r3
  refine h X G e d _ r1 F H σ _ rel fun v F1 H1 p1 d1 => ?_
  obtain ⟨b, a, vs, rfl, h1, h2⟩ := rp_seqB d1 r5
  exact ⟨b, a, vs, rfl, p1.rel.sub.sqB h1, k _ F1 H1 p1 (walk_enumB h1 h2)⟩
theorem walk_zipB {K : Frag} {F : Hp} {b1 b2 : Bool} {a1 a2 : Addr} {vs ws : List L2.V} {xs ys : List D} (h1 : SqB K F b1 a1 vs) (h2 : RpAll K F vs xs) (g1 : SqB K F b2 a2 ws) (g2 : RpAll K F ws ys) :
    Walk (JZ K b1 a1 b2 a2) (List.zipWith (fun x y => PyData.tuple [x, y]) xs ys).length (fun H1 => Sub F H1) (YD K F false (List.zipWith (fun x y => PyData.tuple [x, y]) xs ys)) := by
  rw [List.length_zipWith, ← rpAll_len h2, ← rpAll_len g2]
  refine ⟨fun i H hi s => ⟨vs, ws, s.sqB h1, s.sqB g1, hi⟩, fun H s => ⟨vs, ws, s.sqB h1, s.sqB g1, rfl⟩, fun i H v H' hi s y => ?_⟩
  obtain ⟨T, us, e1, e2, e3, x, y, rfl, hx, hy⟩ := y
  obtain ⟨d, hd, r⟩ := rpAll_get' h2 (hx vs (s.sqB h1))
  obtain ⟨d', hd', r'⟩ := rpAll_get' g2 (hy ws (s.sqB g1))
  refine ⟨.tuple [d, d'], ?_, T, _, [d, d'], e1, e2, e3, rfl, .cons r (.cons r' .nil)⟩
  rw [List.getElem?_zipWith, hd, hd']
theorem src_zip {a b : E} {p pos tpos : Pos} {elts : List Expr} {kk : Nat} (hg : GlS sc (Str.ofString "zip")) (hs : noStar ex = true) (hs2 : noStar ey = true) (h : SD N sc CX ex φ (daW (evalE φ a))) (h2 : SD N sc CX ey φ (daW (evalE φ b))) :
    Srcs N sc CX (.Tuple elts kk tpos) (.Call (.Name (Str.ofString "zip") p) [ex, ey] [] pos) φ false (evalSrc φ (.zip2 a b)) := by
  intro X G
  refine ⟨_, pi_zipB (G.gl hg) (G.blt "zip" (by decide)) (pa_cons (peE ex) (pa_cons (peE ey) pa_nil (star_of hs2)) (star_of hs)) hs hs2, fun e xs e' hr F H σ R rel k => ?_⟩
  simp only [evalSrc] at hr
  obtain ⟨⟨d, e1⟩, r1, r2⟩ := bind_inv hr
  obtain ⟨⟨d', e2⟩, r1', r2⟩ := bind_inv r2
  obtain ⟨ys, r3, r4⟩ := bind_inv r2
  cases r4
  have r3 := ofO_inv r3
  unfold zipD at r3
  simp only [Option.bind_eq_some_iff, Option.map_eq_some_iff] at r3
  obtain ⟨as, r5, bs, r6, rfl⟩ := r3
  refine h X G e d _ r1 F H σ _ rel fun v F1 H1 p1 d1 => ?_
  refine h2 X G e1 d' _ r1' F1 H1 σ _ p1.rel fun v' F2 H2 p2 d2 => ?_
  obtain ⟨b1, a1, vs, rfl, g1, g2⟩ := rp_seqB (p2.grow.rp _ _ d1) r5
  obtain ⟨b2, a2, ws, rfl, g3, g4⟩ := rp_seqB d2 r6
  exact ⟨.ref a1, .ref a2, rfl, b1, a1, vs, b2, a2, ws, rfl, rfl, p2.rel.sub.sqB g1, p2.rel.sub.sqB g3, k _ F2 H2 (p1.trans p2) (walk_zipB g1 g2 g3 g4)⟩
/-! ### for -/
def RG (X : Cx) (tg : Expr) : TG := fun v σ H Q => ∀ pins s u, Inv X pins σ H s → RelV v u → wpAny (model X.prog X.w) X.A (assign tg X.env u) (fun _ s' => ∃ σ' H', Inv X pins σ' H' s' ∧ Q σ' H') X.xe s
theorem pgG {X : Cx} : PG X tg (RG X tg) := ⟨fun pins s σ H v u Q I r h => h pins s u I r⟩
theorem TgOk.rg {X : Cx} {t : T} (h : TgOk X tg t) {F H : Hp} {e : Env} {v : L2.V} {d : D} {e' : Env} {σ : L2.St} {Q : L2.St → Hp → Prop} (rel : Rel X.K F H σ e) (r : Rp X.K F v d ∨ (isP t = true ∧ IR X.K F H v d)) (ha : asgT t d e = some e')
    (k : ∀ σ', Stored X.K F H σ e (slotsT t) σ' e' → Q σ' H) : RG X tg v σ H Q := by
  obtain ⟨g, pg, q⟩ := h
  exact fun pins s u I rv => pg.run pins s σ H v u Q I rv (q F H e v d e' σ Q I.len rel r ha k)
def isSetE : Expr → Bool | .Set _ _ _ => true | _ => false
theorem noFold {env : PySem.Env} (h : isSetE iter = false) (x : Value) : foldedSetIterable iter env x = pure x := by
  cases iter <;> first | rfl | cases h
variable {pr : Nat → Bool} {st : Stmt} {sts : List Stmt}
def loopR (kill : List Nat) (next : Env → SR) : SR → SR
  | .nx e1 => next (killAll kill e1)
  | .ct e1 => next (killAll kill e1)
  | .bk e1 => .nx (killAll kill e1)
  | .rt v e1 => .rt v e1
  | .exc c => .exc c
  | .bad => .bad
theorem loop_end {K : Frag} {F H F2 H2 : Hp} {σ σ2 : L2.St} {e e2 : Env} {Dn : Ends} {r : SR} {next : Env → SR} {kill : List Nat} {P : L2.St → Hp → Prop} (k : EndK pr K F H σ e Dn (loopR kill next r)) (p : Post K F H σ e F2 H2 σ2 e2) (kp : Kept pr σ σ2)
    (hP : ∀ σ' F' H' e1, Rel K F' H' σ' e1 → Sub F2 F' → EndK pr K F' H' σ' e1 Dn (next e1) → P σ' H') : EndK pr K F2 H2 σ2 e2 { Dn with nx := P, ct := P, bk := Dn.nx } r := by
  have go : ∀ e1, EndK pr K F H σ e Dn (next (killAll kill e1)) → ∀ σ' F' H', Post K F2 H2 σ2 e2 F' H' σ' e1 → Kept pr σ2 σ' → P σ' H' := fun e1 k σ' F' H' p' q' => by
    have z := Post.kill p'.rel kill (σ' := σ') (fun _ _ => rfl)
    exact hP σ' F' H' _ z.rel p'.grow (EndK.trans (p.trans (p'.trans z)) (kp.trans q') k)
  cases r with
  | nx e1 => exact go e1 k
  | ct e1 => exact go e1 k
  | bk e1 => exact fun σ' F' H' p' q' => k σ' F' H' (p.trans (p'.trans (Post.kill p'.rel kill (fun _ _ => rfl)))) (kp.trans q')
  | rt w e1 => exact fun v σ' F' H' p' q' r f => k v σ' F' H' (p.trans p') (kp.trans q') r (From.trans p f)
  | exc c => exact False.elim k
  | bad => exact False.elim k
theorem forL_cons (f : D → Env → SR) (kill : List Nat) (x : D) (xs : List D) (e : Env) : forL f kill (x :: xs) e = loopR kill (forL f kill xs) (f x e) := by
  simp only [forL]
  cases f x e <;> rfl
theorem stored_kept {K : Frag} {F H : Hp} {σ σ' : L2.St} {e e' : Env} {l : List Nat} (s : Stored K F H σ e l σ' e') (h : ∀ j ∈ l, pr j = false) : Kept pr σ σ' := fun j hj => s.kept j fun z => by rw [h j z] at hj; cases hj
theorem ss_for {t : T} {s : Src} {b : Ss} {kill : List Nat} {body : List Stmt} {pos : Pos} (hs : Srcs N sc CX tg iter φ pl (evalSrc φ s)) (htg : ∀ X, GoodS N sc CX X φ → TgOk X tg t) (hpl : pl = true ∨ isP t = true) (hpr : ∀ j ∈ slotsT t, pr j = false) (hset : isSetE iter = false)
    (hb : SSs N sc CX pr body φ (execs φ b)) : SS N sc CX pr (.For tg iter body [] pos) φ (exec φ (.forr t s b kill)) := by
  intro X G e F H σ Dn rel k
  simp only [exec] at k
  obtain ⟨⟨xs, e1⟩, r1, k⟩ := ofR_ok' k
  obtain ⟨wi, hi, src⟩ := hs X G.toGood
  have hp : PassesOwn (model X.prog X.w) X.A X.env X.xe := fun v s h => absurd h (G.nox v s)
  refine RS.of (ps_for hp G.calm hi pgG (pssS body) (noFold hset)) (src e xs e1 r1 F H σ _ rel fun J F1 H1 p1 w => ?_)
  dsimp only at k
  generalize hf : (fun x e1 => match asgT t x e1 with | some e2 => execs φ b e2 | none => SR.bad) = f at k
  refine for_it w (fun i σ' H' => ∃ e' F', Sub F1 F' ∧ Rel X.K F' H' σ' e' ∧ EndK pr X.K F' H' σ' e' Dn (forL f kill (xs.drop i) e')) ⟨e1, F1, Sub.refl _, p1.rel, EndK.trans p1 Kept.refl k⟩ (fun i σ' H' _ ⟨e', F', h1, h2, _⟩ => h1.trans h2.sub) (fun i x σ' H' H'' hi' ⟨e', F', h1, h2, h3⟩ y => ?_) fun σ' H' ⟨e', F', h1, h2, h3⟩ => ?_
  · obtain ⟨d, hd, y⟩ := y
    have hdr : xs.drop i = d :: xs.drop (i + 1) := by
      rw [List.drop_eq_getElem_cons hi']
      have := (List.getElem?_eq_some_iff.mp hd).2
      rw [this]
    rw [hdr, forL_cons] at h3
    have hfd : f d e' = match asgT t d e' with | some e2 => execs φ b e2 | none => SR.bad := by rw [← hf]
    cases ha : asgT t d e' with
    | none =>
      rw [hfd, ha] at h3
      exact False.elim h3
    | some e2 =>
      rw [hfd, ha] at h3
      have item : ∃ Z : Post X.K F' H' σ' e' F' H'' σ' e', Rp X.K F' x d ∨ (isP t = true ∧ IR X.K F' H'' x d) := by
        cases pl with
        | true =>
          obtain ⟨rfl, r⟩ := y
          exact ⟨Post.refl h2, .inl (h1.rp _ _ r)⟩
        | false =>
          obtain ⟨T, vs, ds, rfl, hT, rfl, rfl, r⟩ := y
          have hp : isP t = true := by
            rcases hpl with z | z
            · cases z
            · exact z
          exact ⟨Post.fresh h2 hT _, .inr ⟨hp, .inr ⟨T, vs, ds, rfl, rfl, .inl (.inl upd_same), h1.rpAll _ _ r⟩⟩⟩
      obtain ⟨z, it⟩ := item
      refine (htg X G).rg z.rel it ha fun σ2 s2 => ?_
      have pz := z.trans s2.post
      refine hb X G e2 F' H'' σ2 _ s2.post.rel ?_
      refine loop_end h3 pz (stored_kept s2 hpr) fun σ3 F3 H3 e3 rel3 sub3 k3 => ⟨e3, F3, h1.trans sub3, rel3, k3⟩
  · rw [List.drop_length] at h3
    simp only [forL] at h3
    exact h3 σ' F' H' (Post.refl h2) Kept.refl
/-! ### while -/
theorem ss_while {t : Te} {b : Ss} {kill : List Nat} {body : List Stmt} {pos : Pos} (ht : ST N sc CX ex φ (evalT φ t)) (hb : SSs N sc CX pr body φ (execs φ b)) : SS N sc CX pr (.While ex body [] pos) φ (exec φ (.whil t b kill)) := by
  intro X G e F H σ Dn rel k
  simp only [exec] at k
  have hp : PassesOwn (model X.prog X.w) X.A X.env X.xe := fun v s h => absurd h (G.nox v s)
  refine RS.of (ps_while hp (ptT ex) (pssS body)) ⟨fun m σ' H' => ∃ e' F', Rel X.K F' H' σ' e' ∧ EndK pr X.K F' H' σ' e' Dn (whileL (evalT φ t) (execs φ b) kill m e'), ⟨fuel, e, F, rel, k⟩, ?_⟩
  rintro m σ' H' ⟨e', F', h2, h3⟩
  cases m with
  | zero => exact False.elim h3
  | succ m =>
    simp only [whileL] at h3
    obtain ⟨⟨c, e1⟩, r1, h3⟩ := ofR_ok' h3
    refine ht X G.toGood e' c e1 r1 F' H' σ' _ h2 fun F1 H1 p1 => ?_
    cases c with
    | true =>
      simp only [if_true] at h3 ⊢
      refine ⟨fun σ' H' => ∃ e' F', Rel X.K F' H' σ' e' ∧ EndK pr X.K F' H' σ' e' Dn (whileL (evalT φ t) (execs φ b) kill m e'), fun σ3 H3 h => ⟨m, Nat.lt_succ_self _, h⟩, ?_⟩
      refine hb X G e1 F1 H1 σ' _ p1.rel (loop_end (kill := kill) (next := whileL (evalT φ t) (execs φ b) kill m) ?_ p1 Kept.refl fun σ3 F3 H3 e3 rel3 sub3 k3 => ⟨e3, F3, rel3, k3⟩)
      revert h3
      unfold loopR
      cases execs φ b e1 <;> exact id
    | false => exact h3 σ' F1 H1 p1 Kept.refl
end
end Sw
end T_SwM
section T_SwN
set_option autoImplicit false
set_option linter.all false
set_option Elab.async false
set_option maxRecDepth 100000
set_option maxHeartbeats 1000000
/-! SwN: list comprehensions. -/
namespace Sw
open PySem L2
/-! ### the heap without one address -/
def del (H : Hp) (D : Addr) : Hp := fun a => if a = D then none else H a
theorem del_ne {H : Hp} {D a : Addr} (h : a ≠ D) : del H D a = H a := if_neg h
theorem del_self {H : Hp} {D : Addr} : del H D D = none := if_pos rfl
theorem del_upd {H : Hp} {D : Addr} {o : HO} : del (upd H D o) D = del H D := by
  funext a
  by_cases h : a = D
  · subst h; rw [del_self, del_self]
  · rw [del_ne h, del_ne h, upd_ne h]
theorem del_none {H : Hp} {D : Addr} (h : H D = none) : del H D = H := by
  funext a
  by_cases z : a = D
  · subst z; rw [del_self, h]
  · rw [del_ne z]
theorem upd_del {H : Hp} {D : Addr} {o : HO} (h : H D = some o) : upd (del H D) D o = H := by
  funext a
  by_cases z : a = D
  · subst z; rw [upd_same, h]
  · rw [upd_ne z, del_ne z]
theorem del_some {H : Hp} {D a : Addr} {o : HO} (h : del H D a = some o) : a ≠ D ∧ H a = some o := by
  by_cases z : a = D
  · subst z; rw [del_self] at h; cases h
  · rw [del_ne z] at h; exact ⟨z, h⟩
section
variable {K : Frag} {F H F1 H1 F2 H2 : Hp} {σ σ1 : L2.St} {e e1 : Env} {A : Addr}
theorem Rel.undel (r : Rel K F (del H A) σ e) : Rel K F H σ e :=
  r.moved (fun a o h => (del_some (r.sub a o h)).2) (Sub.refl _) (fun _ _ _ h => (del_some h).2) fun _ _ h => h
theorem Rel.notDel (r : Rel K F (del H A) σ e) : F A = none ∧ ¬ Own (del H A) σ e A := by
  refine ⟨?_, fun h => ?_⟩
  · cases q : F A with
    | none => rfl
    | some o => exact absurd rfl (del_some (r.sub A o q)).1
  · obtain ⟨_, o, h⟩ := r.own h
    exact absurd rfl (del_some h).1
theorem Rel.own_undel (r : Rel K F (del H A) σ e) {a : Addr} : Own H σ e a ↔ Own (del H A) σ e a := by
  constructor
  · exact r.own_back fun _ _ _ h => (del_some h).2
  · rintro ⟨i, h⟩
    refine ⟨i, ?_⟩
    rcases h with h | ⟨hg, c, kv, k, g1, g2, g3⟩
    · exact .inl h
    · exact .inr ⟨hg, c, kv, k, g1, (del_some g2).2, g3⟩
theorem Post.del (r : Rel K F (del H A) σ e) {o : HO} (hA : H A = some o) (p : Post K F H σ e F1 H1 σ1 e1) : H1 A = some o ∧ Post K F (Sw.del H A) σ e F1 (Sw.del H1 A) σ1 e1 := by
  obtain ⟨fA, oA'⟩ := r.notDel
  have oA : ¬ Own H σ e A := fun h => oA' (r.own_undel.mp h)
  have h1 : H1 A = some o := p.keep A o hA oA
  have f1 : F1 A = none := by
    cases q : F1 A with
    | none => rfl
    | some u =>
      rcases p.new A (by rw [q]; simp) with z | z | z
      · exact absurd fA z
      · rw [hA] at z; cases z
      · exact absurd z oA
  have o1 : ¬ Own H1 σ1 e1 A := fun z => by
    rcases p.own A z with z | z
    · exact oA z
    · rw [hA] at z; cases z
  have kH : ∀ a u, Own H1 σ1 e1 a → H1 a = some u → Sw.del H1 A a = some u := fun a u h hu => by
    rw [del_ne (fun z => o1 (by rw [← z]; exact h))]; exact hu
  refine ⟨h1, p.grow, p.rel.moved (fun a u h => ?_) (Sub.refl _) kH (fun _ _ h => h), fun a u h n => ?_, fun a h => ?_, fun a h => ?_, fun a h => ?_⟩
  · have z : a ≠ A := fun z => by rw [z, f1] at h; cases h
    rw [del_ne z]; exact p.rel.sub a u h
  · obtain ⟨z, h⟩ := del_some h
    rw [del_ne z]; exact p.keep a u h fun y => n (r.own_undel.mp y)
  · rcases p.new a h with z | z | z
    · exact .inl z
    · refine .inr (.inl ?_)
      by_cases q : a = A
      · rw [q, del_self]
      · rw [del_ne q]; exact z
    · exact .inr (.inr (r.own_undel.mp z))
  · by_cases q : a = A
    · rw [q, del_self]
    · rw [del_ne q] at h ⊢; exact p.dom a h
  · rcases p.own a (p.rel.own_back kH h) with z | z
    · exact .inl (r.own_undel.mp z)
    · refine .inr ?_
      by_cases q : a = A
      · rw [q, del_self]
      · rw [del_ne q]; exact z
/-! ### the block's own slots, back as they were -/
theorem restore_len {old e : Env} : ∀ l : List Nat, (Sw.restore old l e).length = e.length
  | [] => rfl
  | k :: r => by unfold Sw.restore; rw [List.length_set, restore_len r]
theorem get_restore {old : Env} {i : Nat} : ∀ {l : List Nat} {e : Env}, get (restore old l e) i = if i ∈ l ∧ i < e.length then get old i else get e i
  | [], e => by simp [restore]
  | j :: r, e => by
    have hl : (restore old r e).length = e.length := restore_len r
    unfold restore
    rw [get_set, hl, get_restore]
    by_cases h : i = j
    · subst h
      by_cases hi : i < e.length
      · simp [hi]
      · simp [hi]
    · simp [h]
theorem Post.restore {σw : L2.St} {e' : Env} {own : List Nat} (r : Rel K F H σ e) (hs : ∀ i, i ∉ own → σw[i]? = σ[i]?) (p : Post K F H σw (killAll own e) F1 H1 σw e') : Post K F H σ e F1 H1 σ (Sw.restore e own e') := by
  have kown : ∀ a, Own H σw (killAll own e) a → Own H σ e a := fun a ⟨i, h⟩ => by
    obtain ⟨o1, n1⟩ := kill_own h
    rw [hs i n1] at o1
    exact ⟨i, o1⟩
  -- what one's own slot holds is not held by another, behind
  have nown : ∀ i a, i ∈ own → HasV H (get e i) σ[i]? a → ¬ Own H σw (killAll own e) a := fun i a hi h ⟨l, g⟩ => by
    obtain ⟨o1, n1⟩ := kill_own g
    rw [hs l n1] at o1
    have := r.sep i l a h o1
    subst this
    exact n1 hi
  have kH : ∀ i, i ∈ own → ∀ a u, HasV H (get e i) σ[i]? a → H a = some u → H1 a = some u := fun i hi a u h hu => p.keep a u hu (nown i a hi h)
  have side : ∀ i a, HasV H1 (get (Sw.restore e own e') i) σ[i]? a → (i ∈ own ∧ HasV H (get e i) σ[i]? a) ∨ (i ∉ own ∧ HasV H1 (get e' i) σ[i]? a) := fun i a h => by
    rw [get_restore] at h
    split at h
    · rename_i z; exact .inl ⟨z.1, h.back (r.slot i) (kH i z.1)⟩
    · rename_i z
      by_cases hi : i ∈ own
      · rw [get_ge (by have : ¬ i < e'.length := fun q => z ⟨hi, q⟩; omega)] at h
        exact absurd h (HasV.not rfl)
      · exact .inr ⟨hi, h⟩
  have mixed : ∀ i j a, i ∈ own → HasV H (get e i) σ[i]? a → j ∉ own → HasV H1 (get e' j) σ[j]? a → False := fun i j a h1 h2 h3 h4 => by
    rw [← hs j h3] at h4
    rcases p.own a ⟨j, h4⟩ with z | z
    · exact nown i a h1 h2 z
    · obtain ⟨_, o, ho⟩ := (r.slot i).has h2
      rw [ho] at z; cases z
  refine ⟨p.grow, ⟨p.rel.sub, fun i => ?_, fun i j a h1 h2 => ?_⟩, fun a o h n => p.keep a o h fun z => n (kown a z), fun a h => ?_, p.dom, fun a ⟨i, h⟩ => ?_⟩
  · rw [get_restore]
    split
    · rename_i z
      refine (r.slot i).move p.grow (kH i z.1) fun a h hu => ?_
      cases q : F1 a with
      | none => rfl
      | some u =>
        rcases p.new a (by rw [q]; simp) with y | y | y
        · exact absurd hu y
        · obtain ⟨_, o, ho⟩ := (r.slot i).has h
          rw [ho] at y; cases y
        · exact absurd y (nown i a z.1 h)
    · rename_i z
      by_cases hi : i ∈ own
      · rw [get_ge (by have : ¬ i < e'.length := fun q => z ⟨hi, q⟩; omega)]; trivial
      · rw [← hs i hi]; exact p.rel.slot i
  · rcases side i a h1 with ⟨m1, o1⟩ | ⟨m1, o1⟩
    · rcases side j a h2 with ⟨m2, o2⟩ | ⟨m2, o2⟩
      · exact r.sep i j a o1 o2
      · exact (mixed i j a m1 o1 m2 o2).elim
    · rcases side j a h2 with ⟨m2, o2⟩ | ⟨m2, o2⟩
      · exact (mixed j i a m2 o2 m1 o1).elim
      · rw [← hs i m1] at o1
        rw [← hs j m2] at o2
        exact p.rel.sep i j a o1 o2
  · rcases p.new a h with z | z | z
    · exact .inl z
    · exact .inr (.inl z)
    · exact .inr (.inr (kown a z))
  · rcases side i a h with ⟨m1, o1⟩ | ⟨m1, o1⟩
    · exact .inl ⟨i, o1⟩
    · rw [← hs i m1] at o1
      rcases p.own a ⟨i, o1⟩ with z | z
      · exact .inl (kown a z)
      · exact .inr z
end
theorem wipe_get {σ : L2.St} {j : Nat} : ∀ {l : List Nat}, (wipe σ l)[j]? = if j ∈ l ∧ j < σ.length then some none else σ[j]?
  | [] => by simp [wipe]
  | i :: r => by
    unfold wipe
    by_cases h : i = j
    · subst h
      by_cases hi : i < σ.length
      · rw [List.getElem?_set_self (by rw [wipe_length]; exact hi)]; simp [hi]
      · rw [List.getElem?_eq_none (by rw [List.length_set, wipe_length]; omega), if_neg (fun z => hi z.2), List.getElem?_eq_none (by omega)]
    · rw [List.getElem?_set_ne h, wipe_get]
      have : ¬ j = i := fun z => h z.symm
      simp [this]
theorem wipe_out {σ : L2.St} {l : List Nat} {j : Nat} (h : j ∉ l) : (wipe σ l)[j]? = σ[j]? := by rw [wipe_get, if_neg (fun z => h z.1)]
theorem wipe_same {σ σ2 : L2.St} {l : List Nat} (h : ∀ j, j ∉ l → σ2[j]? = (wipe σ l)[j]?) (hl : σ2.length = (wipe σ l).length) : wipe σ2 l = wipe σ l := by
  apply List.ext_getElem?
  intro j
  rw [wipe_length] at hl
  by_cases z : j ∈ l
  · rw [wipe_get, wipe_get, hl]
    by_cases q : j < σ.length
    · rw [if_pos ⟨z, q⟩, if_pos ⟨z, q⟩]
    · rw [if_neg (fun w => q w.2), if_neg (fun w => q w.2), List.getElem?_eq_none (by omega), List.getElem?_eq_none (by omega)]
  · rw [wipe_out z, h j z]
/-! ### the context of a block -/
theorem relS_lookup {scope sc : Scope} {x : Str} : (relS scope sc).names.lookup x = (scope.names.lookup x).map fun k => if (k == .free && sc.kind == .function && sc.names.lookup x == some .cell) then .cell else k := by
  have hf : (relS scope sc).names = scope.names.map fun y => (y.1, if (y.2 == .free && sc.kind == .function && sc.names.lookup y.1 == some .cell) then NameKind.cell else y.2) := by
    unfold relS
    refine List.map_congr_left fun y _ => ?_
    obtain ⟨n, k⟩ := y
    dsimp only
    split <;> rfl
  rw [hf]
  induction scope.names with
  | nil => rfl
  | cons y r ih =>
    obtain ⟨n, k⟩ := y
    rw [List.map_cons, List.lookup_cons, List.lookup_cons]
    by_cases h : x == n
    · have e : x = n := eq_of_beq h
      subst e
      simp only [h]
      rfl
    · have h' : (x == n) = false := by simpa using h
      simp only [h']
      exact ih
theorem Good.blk {N : List Str} {sc : Scope} {CX : CXT} {φ : Orc} {X : Cx} (G : Good N sc CX X φ) (s : Shared) (H : Hp) (scope : Scope) (C : Addr) (cl : List (Str × Addr)) (fp : List Addr) :
    Good N (relS scope sc) CX (X.blk s H scope (compEnvC scope cl C X.env) fp) φ := by
  refine ⟨G.hN, G.nd, ?_, G.calm, G.guards, G.units, G.blt, G.cx, G.con, G.fn⟩
  rw [← G.hsc]; rfl
/-- where targets are stored -/
structure GoodT (N : List Str) (L : Str → Bool) (X : Cx) : Prop where
  hN : X.N = N
  nd : N.Nodup
  calm : X.calm = true
  loc : ∀ x, L x = true → Loc X.env.scope x ∧ (X.fn x = true ∨ X.env.scope.names.lookup x = some .local)
section
variable {N : List Str} {sc : Scope} {CX : CXT} {φ : Orc} {ex ey ez big tg iter elt : Expr} {exs : List Expr} {pl : Bool}
theorem GoodS.tgt {X : Cx} (G : GoodS N sc CX X φ) : GoodT N (isLoc sc) X := ⟨G.hN, G.nd, G.calm, fun x h => G.loc h⟩
theorem Good.tgtB {X : Cx} (G : Good N sc CX X φ) (s : Shared) (H : Hp) (scope : Scope) (C : Addr) (cl : List (Str × Addr)) (fp : List Addr) : GoodT N (isLoc scope) (X.blk s H scope (compEnvC scope cl C X.env) fp) := by
  refine ⟨G.hN, G.nd, G.calm, fun x h => ?_⟩
  have e : (X.blk s H scope (compEnvC scope cl C X.env) fp).env.scope = relS scope X.env.scope := rfl
  rw [e]
  rcases isLoc_of h with z | z
  · have q : (relS scope X.env.scope).names.lookup x = some .local := by rw [relS_lookup, z]; rfl
    exact ⟨.inl q, .inr q⟩
  · have q : (relS scope X.env.scope).names.lookup x = some .cell := by rw [relS_lookup, z]; rfl
    refine ⟨.inr q, .inl ?_⟩
    show (scope.names.lookup x == some .cell) = true
    rw [z]; rfl
/-! ### the tests of a clause -/
def RTs (X : Cx) (ifs : List Expr) : TT := fun σ H Q => ∀ pins s, Inv X pins σ H s →
  wpAny (model X.prog X.w) X.A (forIn ifs true fun c r => if r = true then do let ok ← isTrue c X.env (eval c X.env); pure (ForInStep.yield ok) else pure (ForInStep.yield r)) (TP X pins σ Q) X.xe s
def SCo (N : List Str) (sc : Scope) (CX : CXT) (ifs : List Expr) (φ : Orc) (r : Env → R (Bool × Env)) : Prop :=
  ∀ X, Good N sc CX X φ → ∀ e w e', r e = .ok (w, e') → ∀ F H σ (Q : Bool → Hp → Prop), Rel X.K F H σ e →
    (∀ F' H', Post X.K F H σ e F' H' σ e' → Q w H') → RTs X ifs σ H Q
theorem sco_no : SCo N sc CX [] φ (evalC φ .no) := by
  intro X G e w e' hr F H σ Q rel k
  simp only [evalC] at hr
  cases hr
  exact fun pins s I => pts_nil.run pins s σ H Q I (k F H (Post.refl rel))
theorem sco_yes {t : Te} (h : ST N sc CX ex φ (evalT φ t)) : SCo N sc CX [ex] φ (evalC φ (.yes t)) := by
  intro X G e w e' hr F H σ Q rel k
  simp only [evalC] at hr
  exact fun pins s I => (pts_one (ptT ex)).run pins s σ H Q I (h X G e w e' hr F H σ Q rel k)
abbrev BX (X : Cx) (scope : Scope) (s0 : Shared) (H0 : Hp) (C : Addr) (cl : List (Str × Addr)) (fp : List Addr) : Cx := X.blk s0 H0 scope (compEnvC scope cl C X.env) fp
def gB (X : Cx) (scope : Scope) (tg : Expr) : TG := fun v σ H Q => ∀ s0 H0 C cl fp, RG (BX X scope s0 H0 C cl fp) tg v σ H Q
def tB' (X : Cx) (scope : Scope) (ifs : List Expr) : TT := fun σ H Q => ∀ s0 H0 C cl fp, RTs (BX X scope s0 H0 C cl fp) ifs σ H Q
def eB (X : Cx) (scope : Scope) (elt : Expr) : TE := fun σ H Q => ∀ s0 H0 C cl fp, RE (BX X scope s0 H0 C cl fp) elt σ H Q
theorem lc_run {X : Cx} (G : Good N sc CX X φ) {scope : Scope} {ownS : List (Str × Nat)} {t : T} {s : Src} {cond : Co} {a : E} {ifs : List Expr} {wi : TI}
    (src : ∀ e xs e', evalSrc φ s e = .ok (xs, e') → ∀ F H σ (R : It → Hp → Prop), Rel X.K F H σ e → (∀ J F' H', Post X.K F H σ e F' H' σ e' → Walk J xs.length (fun H1 => Sub F' H1) (YD X.K F' pl xs) → R J H') → wi σ H R)
    (htg : ∀ X', GoodT N (isLoc scope) X' → TgOk X' tg t) (hpl : pl = true ∨ isP t = true) (hin : ∀ j ∈ slotsT t, j ∈ ownS.map (·.2)) (hc : SCo N (relS scope sc) CX ifs φ (evalC φ cond)) (he : SD N (relS scope sc) CX elt φ (daW (evalE φ a)))
    {e : Env} {w : V} {e' : Env} (hr : evalE φ (.comp (ownS.map (·.2)) t s cond a) e = .ok (w, e')) {F H : Hp} {σ : L2.St} {Q : VK} (rel : Rel X.K F H σ e)
    (k : ∀ v F' H', Post X.K F H σ e F' H' σ e' → ResR X.K F' H' σ e' w v → From H σ e w v → Q v H') : tLc wi (gB X scope tg) (tB' X scope ifs) (eB X scope elt) (ownS.map (·.2)) σ H Q := by
  generalize hown : ownS.map (·.2) = own at hr hin ⊢
  rw [evalE_comp] at hr
  obtain ⟨⟨xs, e1⟩, r1, r2⟩ := bind_inv hr
  dsimp only at r2
  split at r2
  case isTrue => cases r2
  rename_i hlim
  obtain ⟨⟨ys, e2⟩, r3, r4⟩ := bind_inv r2
  cases r4
  refine src e xs e1 r1 F H σ _ rel fun J F1 H1 p1 wk A hA => ?_
  have out : ∀ i, i ∉ own → (wipe σ own)[i]? = σ[i]? := fun i hi => wipe_out hi
  refine lc_it wk (fun i H' => ∃ e' F' vs acc rest, Post X.K F1 H1 (wipe σ own) (killAll own e1) F' (del H' A) (wipe σ own) e' ∧ H' A = some (.lst vs) ∧ RpAll X.K F' vs acc ∧ vs.length ≤ i ∧ compL (stepC φ t cond a) own (xs.drop i) e' = .ok (rest, e2) ∧ acc ++ rest = ys)
    ⟨killAll own e1, F1, [], [], ys, ?_, upd_same, .nil, Nat.le_refl _, r3, rfl⟩ (fun i H' _ ⟨e', F', vs, acc, rest, q1, _⟩ => fun b o hb => (del_some (q1.rel.sub b o (q1.grow b o hb))).2) (fun i x H' H'' hi ⟨e', F', vs, acc, rest, q1, q2, q3, q4, q5, q6⟩ y => ?_) fun H' ⟨e', F', vs, acc, rest, q1, q2, q3, q4, q5, q6⟩ => ?_
  · rw [del_upd, del_none hA]
    have z := Post.kill p1.rel own out
    exact Post.refl z.rel
  · -- one turn
    obtain ⟨d, hd, y⟩ := y
    have hdr : xs.drop i = d :: xs.drop (i + 1) := by
      rw [List.drop_eq_getElem_cons hi]
      rw [(List.getElem?_eq_some_iff.mp hd).2]
    rw [hdr] at q5
    simp only [compL] at q5
    obtain ⟨⟨od, e3⟩, f1, f2⟩ := bind_inv q5
    obtain ⟨⟨rest2, e4⟩, f3, f4⟩ := bind_inv f2
    cases f4
    unfold stepC at f1
    obtain ⟨ea, f5, f6⟩ := bind_inv f1
    obtain ⟨⟨b, eb⟩, f7, f8⟩ := bind_inv f6
    have f5 := ofO_inv f5
    have rel' := q1.rel.undel
    have sub1 : Sub F1 F' := q1.grow
    have item : ∃ Z : Post X.K F' H' (wipe σ own) e' F' H'' (wipe σ own) e', Rp X.K F' x d ∨ (isP t = true ∧ IR X.K F' H'' x d) := by
      cases pl with
      | true =>
        obtain ⟨rfl, r⟩ := y
        exact ⟨Post.refl rel', .inl (sub1.rp _ _ r)⟩
      | false =>
        obtain ⟨T, us, ds, rfl, hT, rfl, rfl, r⟩ := y
        have hp : isP t = true := by
          rcases hpl with z | z
          · cases z
          · exact z
        exact ⟨Post.fresh rel' hT _, .inr ⟨hp, .inr ⟨T, us, ds, rfl, rfl, .inl (.inl upd_same), sub1.rpAll _ _ r⟩⟩⟩
    obtain ⟨z, it⟩ := item
    intro s0 H0 C cl fp
    refine (htg _ (G.tgtB s0 H0 scope C cl fp)).rg z.rel it f5 fun σ2 s2 => ⟨?_, ?_⟩
    · exact wipe_same (fun j hj => s2.kept j fun q => hj (hin j q)) s2.len
    have back : ∀ i, i ∉ own → (wipe σ own)[i]? = σ2[i]? := fun j hj => (s2.kept j fun q => hj (hin j q)).symm
    -- from the turn's start to the tests
    have pa := z.trans s2.post
    intro s0 H0 C cl fp
    refine hc _ (G.blk s0 H0 scope C cl fp) ea b eb f7 F' H'' σ2 _ s2.post.rel fun F3 H3 p3 => ?_
    have pb := pa.trans p3
    have fin : ∀ {F5 H5 : Hp} {e5 : Env}, Post X.K F' H' (wipe σ own) e' F5 H5 σ2 e5 → H5 A = some (.lst vs) ∧ Post X.K F1 H1 (wipe σ own) (killAll own e1) F5 (del H5 A) (wipe σ own) (killAll own e5) := fun {F5 H5 e5} p5 => by
      obtain ⟨g1, g2⟩ := Post.del q1.rel q2 p5
      have g3 := Post.kill (σ' := wipe σ own) g2.rel own back
      exact ⟨g1, q1.trans (g2.trans g3)⟩
    cases b with
    | true =>
      simp only [if_true] at f8 ⊢
      obtain ⟨⟨dy, e5⟩, f9, f10⟩ := bind_inv f8
      cases f10
      intro s0 H0 C cl fp
      refine he _ (G.blk s0 H0 scope C cl fp) eb dy _ f9 F3 H3 σ2 _ p3.rel fun v F4 H4 p4 d4 => ?_
      obtain ⟨g1, g2⟩ := fin (pb.trans p4)
      refine ⟨vs, g1, ?_, ?_⟩
      · have : sizeLine = lim := lim_eq
        omega
      · refine ⟨_, F4, vs ++ [v], acc ++ [dy], rest2, by rw [del_upd]; exact g2, upd_same, rpAll_app ((pb.trans p4).grow.rpAll _ _ q3) (.cons d4 .nil), by rw [List.length_append, List.length_singleton]; omega, f3, ?_⟩
        rw [← q6]; simp
    | false =>
      simp only [Bool.false_eq_true, if_false] at f8 ⊢
      cases f8
      obtain ⟨g1, g2⟩ := fin pb
      refine ⟨_, F3, vs, acc, rest2, g2, g1, pb.grow.rpAll _ _ q3, by omega, f3, ?_⟩
      rw [← q6]; simp
  · -- the end
    rw [List.drop_length] at q5
    simp only [compL] at q5
    cases q5
    rw [List.append_nil] at q6
    subst q6
    have b1 := Post.restore p1.rel out q1
    have b2 := Post.fresh b1.rel (p := A) del_self (.lst vs)
    rw [upd_del q2] at b2
    have b3 := p1.trans (b1.trans b2)
    refine k _ F' H' b3 ⟨A, vs, rfl, q2, q1.rel.notDel.1, q3, fun z => b1.rel.notDel.2 (b1.rel.own_undel.mp z)⟩ fun c hc => ?_
    cases hc
    exact .inl (p1.dom A hA)
theorem pgB {X : Cx} {scope : Scope} : ∀ (s : Shared) (H : Hp) (C : Addr) (cl : List (Str × Addr)) (fp : List Addr), PG (X.blk s H scope (compEnvC scope cl C X.env) fp) tg (gB X scope tg) := fun s H C cl fp => ⟨fun pins s' σ H' v u Q I r h => h s H C cl fp pins s' u I r⟩
theorem ptB {X : Cx} {scope : Scope} {ifs : List Expr} : ∀ (s : Shared) (H : Hp) (C : Addr) (cl : List (Str × Addr)) (fp : List Addr), PTs (X.blk s H scope (compEnvC scope cl C X.env) fp) ifs (tB' X scope ifs) := fun s H C cl fp => ⟨fun pins s' σ H' Q I h => h s H C cl fp pins s' I⟩
theorem peB {X : Cx} {scope : Scope} : ∀ (s : Shared) (H : Hp) (C : Addr) (cl : List (Str × Addr)) (fp : List Addr), PE (X.blk s H scope (compEnvC scope cl C X.env) fp) elt (eB X scope elt) := fun s H C cl fp => ⟨fun pins s' σ H' Q I h => h s H C cl fp pins s' I⟩
theorem se_comp {scope : Scope} {ownS : List (Str × Nat)} {t : T} {s : Src} {cond : Co} {a : E} {ifs : List Expr} {pos : Pos} (hs : Srcs N sc CX tg iter φ pl (evalSrc φ s)) (htg : ∀ X', GoodT N (isLoc scope) X' → TgOk X' tg t) (hpl : pl = true ∨ isP t = true) (hin : ∀ j ∈ slotsT t, j ∈ ownS.map (·.2))
    (hok : blkC N sc scope ownS = true) (hset : isSetE iter = false) (hc : SCo N (relS scope sc) CX ifs φ (evalC φ cond)) (he : SD N (relS scope sc) CX elt φ (daW (evalE φ a))) : SE N sc CX (.ListComp elt [⟨tg, iter, ifs, 0⟩] scope pos) φ (evalE φ (.comp (ownS.map (·.2)) t s cond a)) := by
  intro X G e w e' hr F H σ Q rel k
  obtain ⟨wi, hi, src⟩ := hs X G
  exact RE.of (pe_lc G.calm (by rw [G.hN]; exact G.nd) hi (by rw [G.hN, G.hsc]; exact blkOk_by hok) pgB ptB peB (noFold hset)) (lc_run G src htg hpl hin hc he hr rel k)
theorem ss_setLc {pr : Nat → Bool} {i : Nat} {y : Str} {py : Pos} {scope : Scope} {ownS : List (Str × Nat)} {t : T} {s : Src} {cond : Co} {a : E} {ifs : List Expr} {pos spos : Pos} (hi : N[i]? = some y) (hl : sc.names.lookup y = some .local) (hp : pr i = false) (hline : (py.line == pos.line) = true)
    (hna : (scope.names.any fun (n, k) => n == y && (k == .local || k == .cell)) = false)
    (hs : Srcs N sc CX tg iter φ pl (evalSrc φ s)) (htg : ∀ X', GoodT N (isLoc scope) X' → TgOk X' tg t) (hpl : pl = true ∨ isP t = true) (hin : ∀ j ∈ slotsT t, j ∈ ownS.map (·.2))
    (hok : blkC N sc scope ownS = true) (hset : isSetE iter = false) (hc : SCo N (relS scope sc) CX ifs φ (evalC φ cond)) (he : SD N (relS scope sc) CX elt φ (daW (evalE φ a))) :
    SS N sc CX pr (.Assign [.Name y py] (.ListComp elt [⟨tg, iter, ifs, 0⟩] scope pos) spos) φ (exec φ (.asg i (.comp (ownS.map (·.2)) t s cond a))) := by
  intro X G e F H σ Dn rel k
  simp only [exec] at k
  obtain ⟨⟨w, e1⟩, r1, k⟩ := ofR_ok' k
  obtain ⟨wi, hi', src⟩ := hs X G.toGood
  have hl' : X.env.scope.names.lookup y = some .local := by rw [G.hsc]; exact hl
  refine RS.know fun l => RS.of (ps_setLc G.calm (by rw [G.hN]; exact G.nd) (by rw [G.hN]; exact hi) hl' (sw_true (by rw [G.hsc]; exact G.kind) hl' hline hna) hi' (by rw [G.hN, G.hsc]; exact blkOk_by hok) pgB ptB peB (noFold hset)) (lc_run G.toGood src htg hpl hin hc he r1 rel fun v F1 H1 p1 d1 f1 => ?_)
  have hiσ : i < σ.length := by rw [l.len, G.hN]; exact (List.getElem?_eq_some_iff.mp hi).1
  exact k _ F1 H1 (Post.set p1 hiσ d1 f1) (kept_set hp)
end
end Sw
end T_SwN
section T_SwO
set_option autoImplicit false
set_option linter.all false
set_option Elab.async false
set_option maxRecDepth 100000
set_option maxHeartbeats 1000000
/-! SwO: list and tuple of a range. -/
namespace Sw
open PySem L2
section
variable {N : List Str} {sc : Scope} {CX : CXT} {φ : Orc} {ex ey ez big tg iter elt : Expr} {exs : List Expr} {pl : Bool}
/-- an expression that makes a range -/
def RRg (X : Cx) (e : Expr) : L2.St → Hp → (Int → Int → Int → Hp → Prop) → Prop := fun σ H Q => ∀ pins s, Inv X pins σ H s →
  wpAny (model X.prog X.w) X.A (eval e X.env) (fun x s' => ∃ r a b c t u v H', x = .ref r ∧ IsRange s'.heap r a b c t u v ∧ Inv X pins σ H' s' ∧ Q a b c H') X.xe s
def GRg (i j k : Int) (n : Nat) : Prop := Builtin.Range.small i j k = true ∧ Builtin.Range.rangeSize i j k = n ∧ n ≤ 2 ^ 24
theorem vals_rgC {a c : Int} {n : Nat} {acc : Array Value} (h : ItemsOf (fun i v => ∃ t, v = .int (a + i * c) t) acc n) : Vals ((List.range n).map fun (i : Nat) => L2.V.int (a + (i : Int) * c)) acc.toList := by
  have e : acc.toList.length = n := by rw [Array.length_toList]; exact h.1
  rw [← e]
  refine vals_of_get acc.toList _ fun j u hj => ?_
  obtain ⟨t, rfl⟩ := h.2 j u (by rw [← hj, Array.getElem?_toList])
  exact ⟨t, rfl⟩
theorem pe_lstRg {X : Cx} {p pos : Pos} (hc : X.calm = true) (hg : Gl X (Str.ofString "list")) (hm : X.mg (Str.ofString "list") = none) (na : noStar ex = true) : PE X (.Call (.Name (Str.ofString "list") p) [ex] [] pos) fun σ H Q => RRg X ex σ H fun a b c H1 => ∃ n, GRg a b c n ∧
    ∀ q, H1 q = none → Q (.ref q) (upd H1 q (.lst ((List.range n).map fun (i : Nat) => L2.V.int (a + (i : Int) * c)))) := by
  refine ⟨fun pins s σ H Q I h => ?_⟩
  refine PyProof.Rows.Call_ (ld_blt I hg hm PySem.Pv.boot_list (PyProof.Rows.callWith_type1 (PyProof.Rows.args_cons (thn (h pins s I) fun x s1 ⟨r, a, b, c, t, u, v, H1, ex, hr, I1, n, g, q⟩ => PyProof.Rows.args_nil ?_) (star_of na)) (star_of na)))
  subst ex
  obtain ⟨g1, g2, g3⟩ := g
  refine call_list_range (n := n) (I1.ok.hd hc) hr g1 g2 g3 fun h' tk acc c' hk e' hi => ?_
  have rv := vals_rgC hi
  refine ⟨.ref s1.heap.objs.size, _, I1.laid hk (Nat.le_refl _) (show ObjOk X.prog X.w _ _ _ (.lst _) from ⟨?_, acc.toList, c', rv, ?_⟩), rfl, q _ (I1.hok.fresh (Nat.le_refl _))⟩
  · rw [List.length_map, List.length_range, sizeLine_eq]; omega
  · rw [Array.toArray_toList]; exact e'
theorem pe_tupRgF {X : Cx} {p pos : Pos} (hc : X.calm = true) (hg : Gl X (Str.ofString "tuple")) (hm : X.mg (Str.ofString "tuple") = none) (na : noStar ex = true) : PE X (.Call (.Name (Str.ofString "tuple") p) [ex] [] pos) fun σ H Q => RRg X ex σ H fun a b c H1 => ∃ n, GRg a b c n ∧
    ∀ q o, H1 q = none → o.dict = none → Q (.ref q) (upd H1 q (.frz o (.tup ((List.range n).map fun (i : Nat) => L2.V.int (a + (i : Int) * c))))) := by
  refine ⟨fun pins s σ H Q I h => ?_⟩
  refine PyProof.Rows.Call_ (ld_blt I hg hm PySem.Pv.boot_tuple (PyProof.Rows.callWith_type1 (PyProof.Rows.args_cons (thn (h pins s I) fun x s1 ⟨r, a, b, c, t, u, v, H1, ex, hr, I1, n, g, q⟩ => PyProof.Rows.args_nil ?_) (star_of na)) (star_of na)))
  subst ex
  obtain ⟨g1, g2, g3⟩ := g
  refine call_tuple_range (n := n) (I1.ok.hd hc) hr g1 g2 g3 fun h' tk acc hk hi => ?_
  have rv := vals_rgC hi
  have I2 : Inv X pins σ H1 { s1 with heap := h', toks := tk } := I1.kept hk
  have get := Heap.get?_push_size h' (o := { cls := .type "tuple", data := .seq acc }) rfl
  refine ⟨.ref h'.objs.size, _, I2.laid (o := .frz { cls := .type "tuple", data := .seq acc } (.tup ((List.range n).map fun (i : Nat) => L2.V.int (a + (i : Int) * c)))) (t' := tk) (fun c o e => Heap.get?_push_of_some _ e) (Nat.le_refl _) (show ObjOk X.prog X.w _ _ _ (.frz _ _) from ⟨get, ?_, acc.toList, rv, ?_⟩), rfl, q _ { cls := .type "tuple", data := .seq acc } (I2.hok.fresh (Nat.le_refl _)) rfl⟩
  · rw [List.length_map, List.length_range, sizeLine_eq]; omega
  · rw [Array.toArray_toList]; exact ⟨_, get, rfl, _, rfl⟩
theorem rg_rp {K : Frag} {F : Hp} {a c : Int} {n : Nat} : RpAll K F ((List.range n).map fun (i : Nat) => L2.V.int (a + (i : Int) * c)) (rangeD a n c) := by
  refine rpAll_of (by simp [rangeD]) fun i v d h1 h2 => ?_
  by_cases hi : i < n
  · rw [rangeD_get hi] at h2
    rw [List.getElem?_map, List.getElem?_range hi] at h1
    cases h1
    cases h2
    exact .int _
  · rw [List.getElem?_eq_none (by simp; omega)] at h1
    cases h1
/-- what makes a range, of the core's range -/
def RgS (N : List Str) (sc : Scope) (CX : CXT) (ex : Expr) (φ : Orc) (r : Env → R (List D × Env)) : Prop :=
  ∀ X, Good N sc CX X φ → ∀ e xs e', r e = .ok (xs, e') → ∀ F H σ (Q : Int → Int → Int → Hp → Prop), Rel X.K F H σ e →
    (∀ a b c n F' H', Post X.K F H σ e F' H' σ e' → GRg a b c n → xs = rangeD a n c → Q a b c H') → RRg X ex σ H Q
theorem grg2 {i j : Int} (h : -(2 ^ 62) ≤ i ∧ i < 2 ^ 62 ∧ -(2 ^ 62) ≤ j ∧ j < 2 ^ 62) (hl : (j - i).toNat ≤ lim) : GRg i j 1 (j - i).toNat := ⟨small_one h.1 h.2.1 h.2.2.1 h.2.2.2, PyProof.Rows.rangeSize_nat i j, hl⟩
theorem rgs1 {a : E} {p pos : Pos} (hg : GlS sc (Str.ofString "range")) (hs : noStar ex = true) (h : SD N sc CX ex φ (daW (evalE φ a))) : RgS N sc CX (.Call (.Name (Str.ofString "range") p) [ex] [] pos) φ (evalSrc φ (.rng1 a)) := by
  intro X G e xs e' hr F H σ Q rel k
  simp only [evalSrc] at hr
  obtain ⟨⟨d, e1⟩, r1, r2⟩ := bind_inv hr
  obtain ⟨ys, r3, r4⟩ := bind_inv r2
  cases r4
  obtain ⟨i, j, hi, rfl, hb, hl, rfl⟩ := range2_inv (ofO_inv r3)
  cases hi
  have z := prg_1 (pos := pos) (p := p) (G.gl hg) (G.blt "range" (by decide)) (peE ex) (star_of hs)
  intro pins s I
  refine thn (z pins s σ H (fun a b H' => Q a b 1 H') I ?_) fun x s' ⟨r, a, b, t, u, v, H', h1, h2, h3, h4⟩ => ⟨r, a, b, 1, t, u, v, H', h1, h2, h3, h4⟩
  refine h X G e _ _ r1 F H σ _ rel fun v F1 H1 p1 d1 => ?_
  cases d1
  exact ⟨j, rfl, k 0 j 1 _ F1 H1 p1 (grg2 hb hl) rfl⟩
theorem rgs2 {a b : E} {p pos : Pos} (hg : GlS sc (Str.ofString "range")) (hs : noStar ex = true) (hs2 : noStar ey = true) (h : SD N sc CX ex φ (daW (evalE φ a))) (h2 : SD N sc CX ey φ (daW (evalE φ b))) : RgS N sc CX (.Call (.Name (Str.ofString "range") p) [ex, ey] [] pos) φ (evalSrc φ (.rng2 a b)) := by
  intro X G e xs e' hr F H σ Q rel k
  simp only [evalSrc] at hr
  obtain ⟨⟨d, e1⟩, r1, r2⟩ := bind_inv hr
  obtain ⟨⟨d', e2⟩, r1', r2⟩ := bind_inv r2
  obtain ⟨ys, r3, r4⟩ := bind_inv r2
  cases r4
  obtain ⟨i, j, rfl, rfl, hb, hl, rfl⟩ := range2_inv (ofO_inv r3)
  have z := prg_2 (pos := pos) (p := p) (G.gl hg) (G.blt "range" (by decide)) (peE ex) (peE ey) (star_of hs) (star_of hs2) (plain_of (es := [ey]) (by simp [noStars, hs2]))
  intro pins s I
  refine thn (z pins s σ H (fun a b H' => Q a b 1 H') I ?_) fun x s' ⟨r, a, b, t, u, v, H', h1, h2, h3, h4⟩ => ⟨r, a, b, 1, t, u, v, H', h1, h2, h3, h4⟩
  refine h X G e _ _ r1 F H σ _ rel fun v F1 H1 p1 d1 => ?_
  refine h2 X G e1 _ _ r1' F1 H1 σ _ p1.rel fun v' F2 H2 p2 d2 => ?_
  cases d1
  cases d2
  exact ⟨i, j, rfl, rfl, k i j 1 _ F2 H2 (p1.trans p2) (grg2 hb hl) rfl⟩
theorem rgs3 {a b c : E} {p pos : Pos} (hg : GlS sc (Str.ofString "range")) (hs : noStar ex = true) (hs2 : noStar ey = true) (hs3 : noStar ez = true) (h : SD N sc CX ex φ (daW (evalE φ a))) (h2 : SD N sc CX ey φ (daW (evalE φ b))) (h3 : SD N sc CX ez φ (daW (evalE φ c))) :
    RgS N sc CX (.Call (.Name (Str.ofString "range") p) [ex, ey, ez] [] pos) φ (evalSrc φ (.rng3 a b c)) := by
  intro X G e xs e' hr F H σ Q rel k
  simp only [evalSrc] at hr
  obtain ⟨⟨d, e1⟩, r1, r2⟩ := bind_inv hr
  obtain ⟨⟨d', e2⟩, r1', r2⟩ := bind_inv r2
  obtain ⟨⟨d'', e3⟩, r1'', r2⟩ := bind_inv r2
  obtain ⟨ys, r3, r4⟩ := bind_inv r2
  cases r4
  obtain ⟨i, j, q, n, rfl, rfl, rfl, hb, hl, rfl⟩ := range3_inv (ofO_inv r3)
  intro pins s I
  have ha := pa_cons (peE ex) (pa_cons (peE ey) (pa_cons (peE ez) (pa_nil (X := X)) (star_of hs3)) (star_of hs2)) (star_of hs)
  refine PyProof.Rows.Call_ (ld_blt I (G.gl hg) (G.blt "range" (by decide)) PyProof.Rows.boot_range (PyProof.Rows.callWith_type1 (thn (ha.run pos pins s σ H (fun vs H1 => vs = [.int i, .int j, .int q] ∧ Q i j q H1) I ?_) fun us s1 ⟨vs, H1, I1, rv, ev, hq⟩ => ?_) (star_of hs) (plain_of (es := [ey, ez]) (by simp [noStars, hs2, hs3]))))
  · refine h X G e _ _ r1 F H σ _ rel fun v F1 H1 p1 d1 => ?_
    refine h2 X G e1 _ _ r1' F1 H1 σ _ p1.rel fun v' F2 H2 p2 d2 => ?_
    refine h3 X G e2 _ _ r1'' F2 H2 σ _ p2.rel fun v'' F3 H3 p3 d3 => ?_
    cases d1
    cases d2
    cases d3
    exact ⟨rfl, k i j q n F3 H3 (p1.trans (p2.trans p3)) ⟨hb.2.2.1, hb.2.2.2, hl⟩ rfl⟩
  · subst ev
    cases rv with
    | cons u1 rv =>
      cases rv with
      | cons u2 rv =>
        cases rv with
        | cons u3 rv =>
          cases rv
          obtain ⟨t, rfl⟩ := u1
          obtain ⟨t', rfl⟩ := u2
          obtain ⟨t'', rfl⟩ := u3
          exact call_range_3 hb.1 ⟨_, i, j, q, _, _, _, H1, rfl, IsRange.new .., I1.kept (t' := s1.toks) fun b o e => Heap.get?_push_of_some _ e, hq⟩ (.inl (PyProof.noPylong_small hb.2.1))
theorem se_ofRg {s : Src} {tup : Bool} {p pos : Pos} (hg : GlS sc (Str.ofString (if tup then "tuple" else "list"))) (hs : noStar ex = true) (h : RgS N sc CX ex φ (evalSrc φ s)) : SE N sc CX (.Call (.Name (Str.ofString (if tup then "tuple" else "list")) p) [ex] [] pos) φ (evalE φ (.ofSrc tup s)) := by
  intro X G e w e' hr F H σ Q rel k
  simp only [evalE] at hr
  obtain ⟨⟨xs, e1⟩, r1, r2⟩ := bind_inv hr
  cases tup with
  | true =>
    simp only [if_true] at r2 hg ⊢
    cases r2
    refine RE.of (pe_tupRgF G.calm (G.gl hg) (G.blt "tuple" (by decide)) hs) (h X G e xs _ r1 F H σ _ rel fun a b c n F1 H1 p1 g ex => ⟨n, g, fun q o hq ho => ?_⟩)
    subst ex
    obtain ⟨z1, z2⟩ := data_res p1 hq ho rg_rp
    exact k _ _ _ z1 z2 trivial
  | false =>
    simp only [Bool.false_eq_true, if_false] at r2 hg ⊢
    cases r2
    refine RE.of (pe_lstRg G.calm (G.gl hg) (G.blt "list" (by decide)) hs) (h X G e xs _ r1 F H σ _ rel fun a b c n F1 H1 p1 g ex => ⟨n, g, fun q hq => ?_⟩)
    subst ex
    obtain ⟨z1, z2, z3⟩ := fresh_res p1 hq rg_rp
    exact k _ _ _ z1 z2 z3
end
end Sw
end T_SwO
section T_SwFb
set_option autoImplicit false
set_option linter.all false
set_option Elab.async false
set_option maxRecDepth 100000
/-! SwFb: more operators of one operand: isinstance. -/
namespace Sw
open PySem L2
section
variable {N : List Str} {sc : Scope} {CX : CXT} {φ : Orc} {ex big : Expr} {K : Frag} {F H : Hp}
def tyN : D → String
  | .none => "NoneType"
  | .bool _ => "bool"
  | .int _ => "int"
  | .str _ => "str"
  | .list _ => "list"
  | .tuple _ => "tuple"
  | .dict _ => "dict"
theorem ty_of {v : L2.V} {x : D} (s : Sub F H) (h : VwR K F H v x) : TyX K H v (.type (tyN x)) := by
  cases x with
  | none => cases h.rp s; exact .base .non
  | bool b => cases h.rp s; exact .base (.bl b)
  | int i => cases h.rp s; exact .base (.int i)
  | str x => cases h.rp s; exact .base (.str x)
  | list xs =>
    obtain ⟨a, vs, rfl, h1, h2⟩ := h.list s
    rcases h1 with h1 | ⟨o, its, n, k1, k2, _⟩
    · rcases h1 with h1 | ⟨o, h1⟩
      · exact .base (.lst h1)
      · exact .base (.frz h1)
    · exact .kList k1 k2
  | tuple xs =>
    obtain ⟨a, vs, rfl, h1, h2⟩ := h.tup s
    rcases h1 with ⟨o, h1, _⟩ | ⟨o, its, n, k1, k2, _⟩
    · exact .fTuple (s _ _ h1)
    · exact .kTuple k1 k2
  | dict kvs =>
    cases h.rp s with
    | dct h1 => exact .base (.dK h1)
def isiS (t n : String) : Bool := match n with
  | "NoneType" => t == "NoneType"
  | "bool" => t == "bool" || t == "int"
  | n => t == n
theorem kit_all : ∀ t ∈ ["bool", "int", "str", "tuple"], ∀ n ∈ ["NoneType", "bool", "int", "str", "list", "tuple", "dict"], kitB n t = some (isiS t n) := by decide +kernel
theorem a1_isi {t : String} {p p2 pos : Pos} (hg : GlS sc (Str.ofString "isinstance")) (ht : isiOk t = true) (hg2 : GlS sc (Str.ofString t)) (hs : noStar ex = true) : A1 N sc CX φ (.isi t) ex (.Call (.Name (Str.ofString "isinstance") p) [ex, .Name (Str.ofString t) p2] [] pos) := by
  have tt : t = "bool" ∨ t = "int" ∨ t = "str" ∨ t = "tuple" := by
    simp only [isiOk, Bool.or_eq_true, beq_iff_eq] at ht
    rcases ht with ((h | h) | h) | h
    · exact .inl h
    · exact .inr (.inl h)
    · exact .inr (.inr (.inl h))
    · exact .inr (.inr (.inr h))
  have hb : t ∈ blts := by rcases tt with rfl | rfl | rfl | rfl <;> decide
  have hv : bootBuiltins (Str.ofString t) = some (.type t) := by rcases tt with rfl | rfl | rfl | rfl <;> rfl
  have hn1 : Str.ofString t ≠ Str.ofString "__name__" ∧ (Str.ofString t == Str.ofString "__debug__") = false := by rcases tt with rfl | rfl | rfl | rfl <;> decide
  have hm : ∀ x : D, kitB (tyN x) t = some (isiD t x) := by
    intro x
    have e : tyN x ∈ ["NoneType", "bool", "int", "str", "list", "tuple", "dict"] := by cases x <;> simp [tyN]
    have e2 : isiD t x = isiS t (tyN x) := by cases x <;> rfl
    rw [e2]
    exact kit_all t (by rcases tt with rfl | rfl | rfl | rfl <;> decide) _ e
  refine A1.mk (r := fun X v H Q => rIsi X.K [v, .ty t] H Q) (fun X G => pe_callB call_isi (G.gl hg) (G.blt "isinstance" (by decide)) (by rfl) (pa_cons (peE ex) (pa_cons (pe_bltn (G.gl hg2) (G.blt t hb) hv (v := .ty t) rfl hn1.1 hn1.2) pa_nil rfl) (star_of hs)) (by decide) (by decide) (star_of hs) rfl) fun X G σ H F e Q x w v hw l rel vw k => ?_
  simp only [op1, ht, if_true] at hw
  cases hw
  refine ⟨v, .ty t, .type (tyN x), .type t, isiD t x, rfl, .ty t, ty_of rel.sub vw, kit_ty (hm x), k.bl rel⟩
/-! ### sorted: of a list or a tuple, of ints or of pairs of ints -/
theorem insI_perm (x : Int) : ∀ l : List Int, (insI x l).Perm (x :: l)
  | [] => .refl _
  | y :: r => by
    unfold insI
    split
    · exact ((insI_perm x r).cons y).trans (List.Perm.swap ..)
    · exact .refl _
theorem sortI_perm : ∀ l : List Int, (sortI l).Perm l
  | [] => .refl _
  | x :: r => (insI_perm x _).trans ((sortI_perm r).cons x)
theorem insI_ord (x : Int) : ∀ l : List Int, l.Pairwise (· ≤ ·) → (insI x l).Pairwise (· ≤ ·)
  | [], _ => by simp [insI]
  | y :: r, h => by
    obtain ⟨h1, h2⟩ := List.pairwise_cons.mp h
    unfold insI
    split
    · refine List.pairwise_cons.mpr ⟨fun z hz => ?_, insI_ord x r h2⟩
      rcases List.mem_cons.mp ((insI_perm x r).mem_iff.mp hz) with q | q
      · subst q; omega
      · exact h1 z q
    · refine List.pairwise_cons.mpr ⟨fun z hz => ?_, h⟩
      rcases List.mem_cons.mp hz with q | q
      · subst q; omega
      · have := h1 z q; omega
theorem sortI_ord : ∀ l : List Int, (sortI l).Pairwise (· ≤ ·)
  | [] => .nil
  | x :: r => insI_ord x _ (sortI_ord r)
theorem sortI_eq {l r : List Int} (h : r.Perm l) (o : r.Pairwise (· ≤ ·)) : r = sortI l :=
  List.Perm.eq_of_pairwise (le := (· ≤ ·)) (fun a b _ _ h1 h2 => by omega) o (sortI_ord l) (h.trans (sortI_perm l).symm)
theorem ltP_iff {p q : Int × Int} : ltP p q = true ↔ p.1 < q.1 ∨ (p.1 = q.1 ∧ p.2 < q.2) := by
  unfold ltP
  by_cases h : p.1 = q.1
  · rw [if_pos h, decide_eq_true_eq]; omega
  · rw [if_neg h, decide_eq_true_eq]; omega
def leP (p q : Int × Int) : Prop := ltP q p = false
theorem leP_iff {p q : Int × Int} : leP p q ↔ ¬ (q.1 < p.1 ∨ (q.1 = p.1 ∧ q.2 < p.2)) := by
  unfold leP
  rw [← ltP_iff, Bool.not_eq_true]
theorem insP_perm (x : Int × Int) : ∀ l, (insP x l).Perm (x :: l)
  | [] => .refl _
  | y :: r => by
    unfold insP
    split
    · exact ((insP_perm x r).cons y).trans (List.Perm.swap ..)
    · exact .refl _
theorem sortP_perm : ∀ l, (sortP l).Perm l
  | [] => .refl _
  | x :: r => (insP_perm x _).trans ((sortP_perm r).cons x)
theorem insP_ord (x : Int × Int) : ∀ l, l.Pairwise leP → (insP x l).Pairwise leP
  | [], _ => by simp [insP]
  | y :: r, h => by
    obtain ⟨h1, h2⟩ := List.pairwise_cons.mp h
    unfold insP
    split
    · rename_i hy
      have hy := ltP_iff.mp hy
      refine List.pairwise_cons.mpr ⟨fun z hz => ?_, insP_ord x r h2⟩
      rcases List.mem_cons.mp ((insP_perm x r).mem_iff.mp hz) with q | q
      · subst q; exact leP_iff.mpr (by omega)
      · exact h1 z q
    · rename_i hy
      have hy := leP_iff.mp (show leP x y by unfold leP; simpa using hy)
      refine List.pairwise_cons.mpr ⟨fun z hz => ?_, h⟩
      rcases List.mem_cons.mp hz with q | q
      · subst q; exact leP_iff.mpr hy
      · have := leP_iff.mp (h1 z q); exact leP_iff.mpr (by omega)
theorem sortP_ord : ∀ l, (sortP l).Pairwise leP
  | [] => .nil
  | x :: r => insP_ord x _ (sortP_ord r)
theorem sortP_eq {l r : List (Int × Int)} (h : r.Perm l) (o : r.Pairwise leP) : r = sortP l :=
  List.Perm.eq_of_pairwise (le := leP) (fun a b _ _ h1 h2 => by
    have := leP_iff.mp h1
    have := leP_iff.mp h2
    exact Prod.ext (by omega) (by omega)) o (sortP_ord l) (h.trans (sortP_perm l).symm)
end
section
open PyProof.Rows Srt
variable {prog : Program} {w : World} {A : Around} {E : Value → Shared → Prop} {s : Shared}
/-- the items of a list or a tuple are gathered -/
theorem gather_seq {l : Addr} {T : String} {ob : Obj} {vs : List Value} {ep : Nat} {Q : List Value → Shared → Prop} (hT : T = "list" ∨ T = "tuple") (ho : s.heap.get? l = some ob) (hc : ob.cls = .type T) (hd : ob.data = .seq vs.toArray ep) (hsz : vs.length ≤ sizeLine)
    (h : Q vs { s with heap := (s.heap.push (seqObj "list" #[] 0)).update s.heap.objs.size (Obj.mapSeq (· ++ vs.toArray)) }) : wpAny (model prog w) A (collect (.ref l)) Q E s := by
  have fresh : (s.heap.push (seqObj "list" #[] 0)).get? s.heap.objs.size = some (seqObj "list" #[] 0) := Heap.get?_push_size _ rfl
  have old : (s.heap.push (seqObj "list" #[] 0)).get? l = some ob := Heap.get?_push_of_some _ ho
  unfold collect
  refine wpAny_bind (wpAny_runValue (codeAny_builtin entry_proto_collect' ?_))
  refine (show wpAny _ _ (newList [] >>= fun z => again (.builtin "list.__iadd__" ⟨[z, .ref l], []⟩)) _ _ s from ?_)
  refine wpAny_bind (wpAny_newList (wpAny_pure ⟨Code.quiet_builtin _ (by decide +kernel), codeAny_builtin entry_list_iadd' ?_⟩))
  refine (show wpAny _ _ (Builtin.List.listExtendWith (.ref s.heap.objs.size) (.ref l) _) _ _ { s with heap := s.heap.push (seqObj "list" #[] 0) } from ?_)
  unfold Builtin.List.listExtendWith
  refine wpAny_bind (wpAny_typeOf (T := T) ⟨ob, old, hc⟩ ?_)
  rw [if_pos (by rcases hT with rfl | rfl <;> simp)]
  refine wpAny_bind (listItems_at old hd ?_)
  refine wpAny_bind (listItems_at (xs := #[]) (n := 0) fresh rfl ?_)
  rw [if_neg (by simp)]
  refine wpAny_bind (listUpdate_at (xs := #[]) (n := 0) fresh rfl ?_ (Nat.zero_le _) ?_)
  · refine wpAny_pure ?_
    refine (show wpAny (model prog w) A (load s.heap.objs.size >>= fun z => match z.data with | .seq zs _ => pure zs.toList | _ => unsupported "internal:collect") Q E { s with heap := (s.heap.push (seqObj "list" #[] 0)).update s.heap.objs.size (Obj.mapSeq (· ++ vs.toArray)) } from ?_)
    refine wpAny_bind (wpAny_load (get?_update_seq fresh _) ?_)
    refine (show wpAny _ _ (pure ((#[] : Array Value) ++ vs.toArray).toList) Q E _ from ?_)
    have e : ((#[] : Array Value) ++ vs.toArray).toList = vs := by simp
    rw [e]
    exact wpAny_pure h
  · refine Nat.le_trans (m := sizeLine) ?_ (Nat.le_succ _)
    simpa using hsz
/-- sorted of a list or a tuple under a strict weak order -/
theorem sorted_seq {l : Addr} {T : String} {ob : Obj} {vs : List Value} {ep : Nat} {lt : Value → Value → Bool} {Q : Value → Shared → Prop} (O : SrtO.Swo lt) (hT : T = "list" ∨ T = "tuple") (ho : s.heap.get? l = some ob) (hc : ob.cls = .type T) (hd : ob.data = .seq vs.toArray ep) (hsz : vs.length ≤ sizeLine)
    (ask : 2 ≤ vs.length → ∀ (g : Heap) (a : Addr), g.get? a = some (seqObj "list" vs.toArray 0) → (∀ b o, s.heap.get? b = some o → b ≠ a ∧ g.get? b = some o) → SrtO.SortableO prog w A.in1.in1 { s with heap := g } a vs lt)
    (h : ∀ out : List Value, SrtO.Srtd lt out → SrtO.Stb lt out vs → Q (.ref (s.heap.objs.size + 1)) { s with heap := sortedAll s.heap vs out.toArray }) : wpAny (model prog w) A (call (.builtin "sorted") [.ref l]) Q E s := by
  refine Calls.call_function_entry kind_sorted plain_sorted entry_sorted (args_sorted1 _) ?_
  unfold Builtin.«sorted»
  refine wpAny_bind (m := checkCount "sorted" 1 1 _) (wpAny_pure ?_)
  refine wpAny_bind (gather_seq hT ho hc hd hsz ?_)
  refine wpAny_bind (wpAny_newList ?_ hsz)
  generalize hg0 : (s.heap.push (seqObj "list" #[] 0)).update s.heap.objs.size (Obj.mapSeq (· ++ vs.toArray)) = g0
  have z0 : g0.objs.size = s.heap.objs.size + 1 := by rw [← hg0, Heap.size_update, size_push']
  have top : (g0.push (seqObj "list" vs.toArray 0)).get? (s.heap.objs.size + 1) = some (seqObj "list" vs.toArray 0) := by
    rw [← z0]; exact Heap.get?_push_size _ rfl
  have kept : ∀ b o, s.heap.get? b = some o → b ≠ s.heap.objs.size + 1 ∧ (g0.push (seqObj "list" vs.toArray 0)).get? b = some o := fun b o q => by
    have lt0 := Heap.lt_size q
    refine ⟨Nat.ne_of_lt (Nat.lt_succ_of_lt lt0), Heap.get?_push_of_some _ ?_⟩
    rw [← hg0, Heap.get?_update_ne _ _ _ _ (Nat.ne_of_lt lt0)]
    exact Heap.get?_push_of_some _ q
  refine (show wpAny _ _ _ _ _ { s with heap := g0.push (seqObj "list" vs.toArray 0) } from ?_)
  rw [z0]
  refine wpAny_bind (wpAny_holding (wpAny_call_entry slot_list_sort ⟨_, top, rfl⟩ entry_list_sort (SrtO.list_sort_ord O top hsz (fun h2 => ask h2 _ _ top kept) fun out hs hb => ⟨_, rfl, ?_⟩) (args_list_sort _)))
  refine wpAny_pure ⟨_, rfl, ?_⟩
  have := h out hs hb
  unfold sortedAll at this
  rw [hg0] at this
  exact this
end
/-! ### the rule -/
section
open PyProof.Rows Srt
/-- the two ints of the tuple at a value -/
def keyH (h : Heap) : Value → Int × Int
  | .ref a => match h.get? a with
    | some ob => (match ob.data with
      | .seq xs _ => (match xs.toList with | [.int i _, .int j _] => (i, j) | _ => (0, 0))
      | _ => (0, 0))
    | none => (0, 0)
  | _ => (0, 0)
theorem keyH_of {h : Heap} {v : Value} {x y : Int} (p : IsPair h v x y) : keyH h v = (x, y) := by
  obtain ⟨a, o, t, u, n, rfl, ho, hc, hd⟩ := p
  simp only [keyH, ho, hd]
variable {X : Cx} {pins : List (Addr × Obj)} {σ : L2.St} {H : Hp} {s : Shared} {F : Hp}
theorem pair_rp {v : L2.V} {u : Value} {p : Int × Int} (I : Inv X pins σ H s) (sb : Sub F H) (r : RelV v u) (h : Rp X.K F v (pairD p)) : IsPair s.heap u p.1 p.2 ∧ ∃ a, v = .ref a ∧ u = .ref a := by
  unfold pairD at h
  cases h with
  | @tup a vs ds h1 h2 =>
    cases h2 with
    | cons q1 q2 =>
      cases q2 with
      | cons q3 q4 =>
        cases q4
        cases q1
        cases q3
        obtain ⟨its, rv, ht, _⟩ := I.tuple (sb.sqT h1.sq)
        obtain ⟨u1, u2, rfl, r1, r2⟩ := vals2 rv
        obtain ⟨t1, rfl⟩ := r1
        obtain ⟨t2, rfl⟩ := r2
        obtain ⟨o, ho, hc, n, hd⟩ := ht
        cases r
        exact ⟨⟨a, o, t1, t2, n, rfl, ho, hc, hd⟩, a, rfl, rfl⟩
theorem pairs_rp (I : Inv X pins σ H s) (sb : Sub F H) : ∀ (ps : List (Int × Int)) (vs : List L2.V) (us : List Value), RpAll X.K F vs (ps.map pairD) → Vals vs us →
    us.map (keyH s.heap) = ps ∧ ∀ u ∈ us, IsPair s.heap u (keyH s.heap u).1 (keyH s.heap u).2 ∧ ∃ a, u = .ref a ∧ Rp X.K F (.ref a) (pairD (keyH s.heap u))
  | [], _, _, h, r => by
    cases h
    cases r
    exact ⟨rfl, fun u hu => by cases hu⟩
  | p :: ps, _, _, h, r => by
    cases h with
    | cons h1 h2 =>
      cases r with
      | cons r1 r2 =>
        obtain ⟨k1, k2⟩ := pairs_rp I sb ps _ _ h2 r2
        obtain ⟨q1, a, rfl, rfl⟩ := pair_rp I sb r1 h1
        have e := keyH_of q1
        refine ⟨by rw [List.map_cons, k1, e], fun u hu => ?_⟩
        rcases List.mem_cons.mp hu with z | z
        · subst z
          rw [e]
          exact ⟨q1, a, rfl, h1⟩
        · exact k2 u z
theorem back_rp {h : Heap} : ∀ us : List Value, (∀ u ∈ us, ∃ a, u = .ref a ∧ Rp X.K F (.ref a) (pairD (keyH h u))) → RpAll X.K F (us.map backV) ((us.map (keyH h)).map pairD)
  | [], _ => .nil
  | u :: us, k => by
    obtain ⟨a, rfl, q⟩ := k _ List.mem_cons_self
    exact .cons q (back_rp us fun v hv => k v (List.mem_cons_of_mem _ hv))
def rSq (K : Frag) : List L2.V → Hp → VK → Prop := fun vs H Q => ∃ (a : Addr) (xs : List L2.V), vs = [.ref a] ∧ (SqL K H a xs ∨ SqT K H a xs) ∧
  ((∃ ns : List Int, xs = ns.map .int ∧ ∀ p, H p = none → Q (.ref p) (upd H p (.lst ((sortI ns).map .int)))) ∨
   ∃ (F : Hp) (ps : List (Int × Int)), Sub F H ∧ RpAll K F xs (ps.map pairD) ∧ ∀ p ys, H p = none → RpAll K F ys ((sortP ps).map pairD) → Q (.ref p) (upd H p (.lst ys)))
theorem sq_obj {a : Addr} {xs : List L2.V} (I : Inv X pins σ H s) (h : SqL X.K H a xs ∨ SqT X.K H a xs) : ∃ (us : List Value) (T : String) (ob : Obj) (ep : Nat), Vals xs us ∧ (T = "list" ∨ T = "tuple") ∧ s.heap.get? a = some ob ∧ ob.cls = .type T ∧ ob.data = .seq us.toArray ep ∧ us.length ≤ sizeLine := by
  rcases h with h | h
  · obtain ⟨us, r, hl, hz⟩ := I.list h
    obtain ⟨ob, ho, hc, ep, hd⟩ := hl.isList
    exact ⟨us, "list", ob, ep, r, .inl rfl, ho, hc, hd, by rw [← r.length]; exact hz⟩
  · obtain ⟨us, r, hl, hz⟩ := I.tuple h
    obtain ⟨ob, ho, hc, ep, hd⟩ := hl
    exact ⟨us, "tuple", ob, ep, r, .inr rfl, ho, hc, hd, by rw [← r.length]; exact hz⟩
theorem cr_sq : CallR X (.builtin "sorted") (rSq X.K) := by
  intro pins s σ H vs us Q I r h
  obtain ⟨a, xs, rfl, hs, h⟩ := h
  obtain ⟨its, T, ob, ep, rv, hT, ho, hc, hd, hz⟩ := sq_obj I hs
  rw [Vals.ref1 r]
  rcases h with ⟨ns, rfl, q⟩ | ⟨F, ps, sb, ha, q⟩
  · have hi := rv.ints
    refine sorted_seq SrtO.swo_int hT ho hc hd hz (fun h2 g b _ _ => SrtO.ints_sortable hi h2) fun out h1 h2 => ?_
    obtain ⟨k1, k2, k3⟩ := SrtO.ints_out hi h1 h2
    obtain ⟨ep2, at2⟩ := sortedAll_at s.heap its out.toArray
    have e := sortI_eq k2 k3
    have ln : ((sortI ns).map L2.V.int).length ≤ sizeLine := by
      rw [List.length_map, (sortI_perm ns).length_eq, ← List.length_map (f := L2.V.int), rv.length]
      exact hz
    rw [e] at k1
    exact ⟨.ref _, _, I.laid (t' := s.toks) (o := .lst ((sortI ns).map .int)) (fun _ _ => sortedAll_old) (Nat.le_succ _) ⟨ln, out, ep2, vals_of_ints k1, at2⟩, rfl, q _ (I.hok.fresh (Nat.le_succ _))⟩
  · obtain ⟨k1, k2⟩ := pairs_rp I sb ps xs its ha rv
    refine sorted_seq (SrtO.swo_lex (keyH s.heap)) hT ho hc hd hz (fun h2 g b hb kk => ?_) fun out h1 h2 => ?_
    · refine SrtO.pairs_sortableO (s := { s with heap := g }) (by omega) (fun v hv => (k2 v hv).1.keeps fun c oc e _ => (kk c oc e).2) fun oc e => ?_
      cases (show some oc = some (seqObj "list" its.toArray 0) from e.symm.trans hb)
      intro c
      exact absurd (Value.type.inj c) (by decide)
    · have mem : ∀ u ∈ out, ∃ a, u = .ref a ∧ Rp X.K F (.ref a) (pairD (keyH s.heap u)) := fun u hu => (k2 u (h2.perm.mem_iff.mp hu)).2
      have e : out.map (keyH s.heap) = sortP ps := by
        refine sortP_eq ?_ ?_
        · rw [← k1]; exact h2.perm.map _
        · exact List.pairwise_map.mpr (h1.imp fun {x y} z => z)
      obtain ⟨ep2, at2⟩ := sortedAll_at s.heap its out.toArray
      have d := back_rp (X := X) out mem
      rw [e] at d
      refine ⟨.ref _, _, I.laid (t' := s.toks) (o := .lst (out.map backV)) (fun _ _ => sortedAll_old) (Nat.le_succ _) ⟨?_, out, ep2, vals_back fun u hu => (mem u hu).imp fun a z => z.1, at2⟩, rfl, q _ _ (I.hok.fresh (Nat.le_succ _)) d⟩
      rw [List.length_map, h2.perm.length_eq]
      exact hz
end
section
variable {N : List Str} {sc : Scope} {CX : CXT} {φ : Orc} {ex : Expr}
theorem pairsI_eq : ∀ {xs : List D} {ps : List (Int × Int)}, pairsI xs = some ps → xs = ps.map pairD
  | [], _, h => by cases h; rfl
  | x :: r, _, h => by
    simp only [pairsI, Option.bind_eq_some_iff, Option.map_eq_some_iff] at h
    obtain ⟨p, h1, l, h2, rfl⟩ := h
    have e : x = pairD p := by
      unfold pairI at h1
      split at h1
      · cases h1; rfl
      · cases h1
    rw [List.map_cons, ← pairsI_eq h2, e]
theorem a1_sorted {p pos : Pos} (hg : GlS sc (Str.ofString "sorted")) (hs : noStar ex = true) : A1 N sc CX φ .sorted ex (.Call (.Name (Str.ofString "sorted") p) [ex] [] pos) := by
  refine A1.mk (fun X G => pe_blt1 G (by decide) cr_sq hg (by rfl) (by decide +kernel) hs) fun X G σ H F e Q x w v hw l rel vw k => ?_
  have main : ∀ (a : Addr) (vs : List L2.V) (xs : List D), (SqL X.K H a vs ∨ SqT X.K H a vs) → RpAll X.K F vs xs → (sortD xs).map V.c = some w → rSq X.K [.ref a] H Q := by
    intro a vs xs hq hr hw
    refine ⟨a, vs, rfl, hq, ?_⟩
    unfold sortD at hw
    split at hw
    · rename_i ns h0
      cases hw
      rw [ints_eq h0] at hr
      refine .inl ⟨ns, vs_ints hr, fun p hp => k.lst rel ?_ hp⟩
      exact rpAll_ints
    · simp only [Option.map_map, Option.map_eq_some_iff] at hw
      obtain ⟨ps, h0, rfl⟩ := hw
      rw [pairsI_eq h0] at hr
      exact .inr ⟨F, ps, rel.sub, hr, fun p ys hp d => k.lst rel d hp⟩
  simp only [op1, Option.bind_eq_some_iff] at hw
  obtain ⟨xs, h1, h2⟩ := hw
  cases x <;> first | (cases h1; done) | skip
  · cases h1
    obtain ⟨a, vs, rfl, q1, q2⟩ := vw.list rel.sub
    exact main a vs _ (.inl q1) q2 h2
  · cases h1
    obtain ⟨a, vs, rfl, q1, q2⟩ := vw.tup rel.sub
    exact main a vs _ (.inr (rel.sub.sqT q1.sq)) q2 h2
theorem metL_met (ns : List Int) : PyProof.Rows.firstMet (fun i => ns.getD i 0) ns.length = metL ns := by
  have e : (List.range ns.length).map (fun i => ns.getD i 0) = ns := by
    apply List.ext_getElem
    · rw [List.length_map, List.length_range]
    · intro i h1 h2
      rw [List.getElem_map, List.getElem_range, List.getD_eq_getElem?_getD, List.getElem?_eq_getElem h2]
      rfl
  unfold PyProof.Rows.firstMet metL
  rw [e]
  rfl
theorem metL_nodup {ns : List Int} (h : ns.Nodup) : metL ns = ns := by
  rw [← metL_met, RZ.firstMet_nodup h ns.length (Nat.le_refl _), List.take_length]
theorem metL_len (ns : List Int) : (metL ns).length ≤ ns.length := by
  rw [← metL_met]
  exact PyProof.Rows.firstMet_length_le _ _
open PySem.Spec PyProof.Rows in
theorem pe_lenSetW {X : Cx} {a : Expr} {ta : TE} {p p2 q pos : Pos} (hg : Gl X "len") (hm : X.mg "len" = none) (hg2 : Gl X "set") (hm2 : X.mg "set" = none) (ha : PE X a ta) (hc : X.calm = true)
    (na : starEach [a] X.env = (false, eval a X.env) :: starEach [] X.env := by rfl) : PE X (.Call (.Name "len" p) [.Call (.Name "set" p2) [a] [] q] [] pos) (fun σ H Q => ta σ H fun x H1 => ∃ (l : Addr) (ns : List Int), x = .ref l ∧ SqL X.K H1 l (ns.map L2.V.int) ∧ ns.length ≤ 4000 ∧ Q (.int ((metL ns).length : Nat)) H1) := by
  refine ⟨fun pins s σ H Q I h => ?_⟩
  refine Call_ (ld_blt I hg hm boot_len ?_)
  refine PyProof.Rows.callWith_builtin1 (PyProof.Rows.args_cons ?_ rfl) rfl rfl
  refine Call_ (ld_blt I hg2 hm2 PyProof.Rows.boot_set ?_)
  refine PyProof.Rows.callWith_type1 (PyProof.Rows.args_cons (thn (ha.run pins s σ H _ I h) fun v s1 ⟨x, H1, I1, r1, q1⟩ => PyProof.Rows.args_nil ?_) na) na rfl
  obtain ⟨l, ns, rfl, hq, hl, q1⟩ := q1
  cases r1
  obtain ⟨its, r, pl, hz⟩ := I1.list hq
  have hlen : its.toArray.size = ns.length := by rw [List.size_toArray, ← r.length, List.length_map]
  refine call_set_list (I1.ok.hd hc) pl.isList (by simpa using RZ.intsAre_vals r) (by rw [hlen]; unfold scanBound; omega) fun h' tk hS hk => ?_
  refine PyProof.Rows.args_nil ?_
  rw [hlen, metL_met] at hS
  obtain ⟨o, es, ep, t, ho, hex, hd, _, _, _, hf, hn⟩ := hS
  have ml := metL_len ns
  have I2 : Inv X pins σ H1 { s1 with heap := h', toks := tk } := I1.kept fun b o e => hk b o (Heap.lt_size e) e
  exact call_len_set ho hex hd hf (by rw [hn] <;> omega) ⟨.int (metL ns).length, H1, I2.tok _, ⟨_, by rw [hn]⟩, q1⟩
theorem a1_lenSet {p p2 q pos : Pos} (hg : GlS sc (Str.ofString "len")) (hg2 : GlS sc (Str.ofString "set")) (hs : noStar ex = true) : A1 N sc CX φ .lenSet ex (.Call (.Name (Str.ofString "len") p) [.Call (.Name (Str.ofString "set") p2) [ex] [] q] [] pos) := by
  refine A1.mk (r := fun X v H Q => ∃ (l : Addr) (ns : List Int), v = .ref l ∧ SqL X.K H l (ns.map L2.V.int) ∧ ns.length ≤ 4000 ∧ Q (.int ((metL ns).length : Nat)) H) (fun X G => pe_lenSetW (G.gl hg) (G.blt "len" (by decide)) (G.gl hg2) (G.blt "set" (by decide)) (peE ex) G.calm (star_of hs)) fun X G σ H F e Q x w v hw l rel vw k => ?_
  cases x <;> first | (cases hw; done) | skip
  simp only [op1, Option.bind_eq_some_iff] at hw
  obtain ⟨ns, h0, h1⟩ := hw
  have hz : ns.length ≤ 4000 ∧ w = .d (.int (metL ns).length) := by
    split at h1
    · rename_i hz
      cases h1
      rw [metL_nodup hz.2]
      exact ⟨hz.1, rfl⟩
    · split at h1
      · rename_i hz
        cases h1
        exact ⟨hz, rfl⟩
      · cases h1
  obtain ⟨hz, rfl⟩ := hz
  obtain ⟨a, vs, rfl, q1, q2⟩ := vw.list rel.sub
  rw [ints_eq h0] at q2
  have hv := vs_ints q2
  subst hv
  exact ⟨a, ns, rfl, q1, hz, k.int rel⟩
end
end Sw
end T_SwFb
section T_SwFd
set_option autoImplicit false
set_option linter.all false
set_option Elab.async false
set_option maxRecDepth 100000
/-! SwFd: x[::-1] of lists and tuples. -/
namespace Sw
open PySem PySem.Spec L2
section
open PyProof.Rows
variable {prog : Program} {w : World} {A : Around} {E : Value → Shared → Prop} {s : Shared}
theorem filter_some {α β : Type} (f : α → Option β) (g : α → β) : ∀ l : List α, (∀ k ∈ l, f k = some (g k)) → l.filterMap f = l.map g
  | [], _ => rfl
  | x :: r, h => by
    rw [List.filterMap_cons, h x List.mem_cons_self, List.map_cons, filter_some f g r fun k hk => h k (List.mem_cons_of_mem _ hk)]
theorem back_pick (its : List Value) : ((List.range its.length).filterMap fun (k : Nat) => its.toArray[(((its.length : Int) - 1) + (k : Int) * (-1)).toNat]?) = its.reverse := by
  have h : ∀ k ∈ List.range its.length, its.toArray[(((its.length : Int) - 1) + (k : Int) * (-1)).toNat]? = some (its.reverse.getD k .none) := fun k hk => by
    have hk : k < its.length := by simpa using hk
    have e : (((its.length : Int) - 1) + (k : Int) * (-1)).toNat = its.length - 1 - k := by omega
    rw [e, List.getElem?_toArray, List.getElem?_eq_getElem (by omega), List.getD_eq_getElem?_getD, List.getElem?_reverse hk, List.getElem?_eq_getElem (by omega)]
    rfl
  rw [filter_some _ _ _ h]
  apply List.ext_getElem?
  intro i
  by_cases hi : i < its.length
  · rw [List.getElem?_map, List.getElem?_range hi]
    simp only [Option.map_some]
    rw [List.getD_eq_getElem?_getD, List.getElem?_eq_getElem (by simpa using hi)]
    rfl
  · rw [List.getElem?_eq_none (by simpa using hi), List.getElem?_eq_none (by simpa using hi)]
theorem adj_back (n : Nat) : Builtin.Slice.sliceAdjust none none (-1) (n : Int) = ((n : Int) - 1, -1) := by rfl
theorem places_back (n : Nat) : Builtin.Slice.slicePlaces ((n : Int) - 1) (-1) (-1) = n := by
  unfold Builtin.Slice.slicePlaces
  simp
  try omega
theorem tup_back {t sl : Addr} {its : List Value} {vs : Value} {Q : Value → Shared → Prop} (ht : IsTup s.heap t its.toArray) (hs : s.heap.IsSliceOf sl .none .none vs) (ps : IsPart vs (some (-1)))
    (h : Q (.ref s.heap.objs.size) { s with heap := s.heap.push { cls := .type "tuple", data := .seq its.reverse.toArray } }) (hz : its.length ≤ sizeLine) : wpAny (model prog w) A (getItem (.ref t) (.ref sl)) Q E s := by
  obtain ⟨ob, hob, hcl, hda⟩ := id hs
  have ty : s.TypeIs (.ref sl) "slice" := ⟨ob, hob, hcl⟩
  have fits : sizeOk (.seq its.reverse.toArray) := by
    show its.reverse.toArray.size ≤ sizeLine
    rw [List.size_toArray, List.length_reverse]; exact hz
  unfold getItem
  try with_reducible refine wpAny_holding ?_
  first | refine wpAny_bind (wpAny_pure ?_) | skip
  refine wpAny_bind (wpAny_sequenceKey ht.typeIs (by decide) ?_)
  refine wpAny_bind (wpAny_callSpecial?_slot (name := Str.ofString "__getitem__") ht.typeIs slot_tuple_getitem (wpAny_call_entry slot_tuple_getitem ht.typeIs entry_tuple_getitem ?_ (args_tuple_getitem _ _)))
  refine (show wpAny _ _ (Builtin.Tuple.tupleItemsOf (.ref t) >>= _) _ _ s from ?_)
  refine wpAny_bind (tupleItemsOf_ ht (wpAny_bind (wpAny_typeOf ty ?_)))
  rw [if_pos (by decide)]
  refine wpAny_bind ?_
  unfold Builtin.Slice.sliceApplied Builtin.Slice.sliceFields
  refine wpAny_bind (wpAny_bind (wpAny_field hob hda (x := .none) rfl (wpAny_bind (wpAny_field hob hda (x := .none) rfl (wpAny_bind (wpAny_field hob hda (x := vs) rfl (wpAny_pure ?_)))))))
  refine wpAny_bind (HT.slicePart_ ps ?_)
  refine (show wpAny _ _ (if ((-1 : Int) == 0) = true then _ else _) _ _ s from ?_)
  rw [if_neg (by decide)]
  refine wpAny_bind (HT.slicePart_ .none (wpAny_bind (HT.slicePart_ .none (wpAny_bind (wpAny_pure ?_)))))
  refine (show wpAny _ _ (match Builtin.Slice.sliceAdjust none none (-1) (its.toArray.size : Int) with | (lo, hi) => pure (lo, (-1 : Int), Builtin.Slice.slicePlaces lo hi (-1))) _ _ s from ?_)
  rw [List.size_toArray, adj_back]
  refine (show wpAny _ _ (pure ((its.length : Int) - 1, (-1 : Int), Builtin.Slice.slicePlaces ((its.length : Int) - 1) (-1) (-1))) _ _ s from ?_)
  rw [places_back]
  refine wpAny_pure ?_
  refine (show wpAny _ _ (if (((its.length : Int) - 1 == 0) && ((-1 : Int) == 1) && (its.length == its.toArray.size)) = true then _ else _) _ _ s from ?_)
  rw [if_neg (by simp), back_pick]
  first
    | exact wpAny_bind (m := Builtin.Tuple.tupleExact _) (wpAny_newObj_type (wpAny_pure ⟨_, rfl, wpAny_pure h⟩) fits)
    | exact wpAny_bind (m := Builtin.Tuple.tupleExact _) (wpAny_newObj_type (wpAny_bind (wpAny_pure (wpAny_pure ⟨_, rfl, wpAny_pure h⟩))) fits)
    | exact wpAny_bind (wpAny_bind (m := Builtin.Tuple.tupleExact _) (wpAny_newObj_type (wpAny_pure (wpAny_pure ⟨_, rfl, wpAny_pure h⟩)) fits))
    | exact wpAny_bind (wpAny_bind (m := Builtin.Tuple.tupleExact _) (wpAny_newObj_type (wpAny_pure ⟨_, rfl, wpAny_pure h⟩) fits))
end
section
variable {X : Cx}
def tBackT (K : Frag) (te : TE) : TE := fun σ H Q => te σ H fun x H1 => ∃ a xs, x = L2.V.ref a ∧ SqT K H1 a xs ∧ ∀ p o, H1 p = none → o.dict = none → Q (.ref p) (upd H1 p (.frz o (.tup xs.reverse)))
theorem pe_backT {e : Expr} {te : TE} {k : Nat} {q1 q2 q3 pos : Pos} (he : PE X e te) : PE X (.Subscript e (.Slice none none (some (.UnaryOp .USub (.Constant (.int 1) k q1) q2)) q3) pos) (tBackT X.K te) := by
  refine ⟨fun pins s σ H Q I h => PyProof.Rows.Subscript_ (thn (he.run pins s σ H _ I h) fun v s1 ⟨x, H1, I1, r1, q⟩ => ?_)⟩
  obtain ⟨a, xs, rfl, hx, q⟩ := q
  cases r1
  have step : PO X (some (.UnaryOp .USub (.Constant (.int 1) k q1) q2)) (tPart (tUn (rU fun i => .int (-i)) (tC (.int 1)))) := po_some (pe_un un_neg pe_int)
  refine wpAny_Slice (thn (po_none.run pins s1 σ H1 (fun o H2 => o = none ∧ H2 = H1) I1 ⟨rfl, rfl⟩) fun v1 s2 ⟨o1, H2, I2, d1, e1, e2⟩ => ?_)
  subst e1
  subst e2
  refine thn (po_none.run pins s2 σ H2 (fun o H3 => o = none ∧ H3 = H2) I2 ⟨rfl, rfl⟩) fun v2 s3 ⟨o2, H3, I3, d2, e3, e4⟩ => ?_
  subst e3
  subst e4
  refine thn (step.run pins s3 σ H3 (fun o H4 => o = some (-1) ∧ H4 = H3) I3 ⟨1, rfl, -1, rfl, rfl, rfl⟩) fun v3 s4 ⟨o3, H4, I4, d3, e5, e6⟩ => ?_
  subst e5
  subst e6
  cases d1
  cases d2
  have J : Inv X pins σ H4 { s4 with heap := s4.heap.push { cls := .type "slice", data := .fields #[.none, .none, v3] } } := I4.kept (t' := s4.toks) fun b ob z => Heap.get?_push_of_some _ z
  obtain ⟨its, r, ht, hz⟩ := J.tuple hx
  have hz2 : its.length ≤ sizeLine := by rw [← r.length]; exact hz
  refine (show wpAny (model X.prog X.w) X.A (PyProof.Rows.subscriptTail e _ (.ref a) (.ref s4.heap.objs.size)) (EP X pins σ Q) X.xe { s4 with heap := s4.heap.push { cls := .type "slice", data := .fields #[.none, .none, v3] } } from ?_)
  refine PyProof.Rows.tail_any (ops := [.ref a, .ref s4.heap.objs.size]) ht.typeIs (PyProof.Rows.slot_tuple_getitem.lookup) ?_ (by with_unfolding_all rfl)
  refine tup_back ht (Heap.IsSliceOf.new _ .none .none v3) d3 ?_ hz2
  refine ⟨.ref _, _, J.laid (t' := s4.toks) (o := .frz { cls := .type "tuple", data := .seq its.reverse.toArray } (.tup xs.reverse)) (fun b ob z => Heap.get?_push_of_some _ z) (Nat.le_refl _) ?_, rfl, q _ _ (J.hok.fresh (Nat.le_refl _)) rfl⟩
  have get := Heap.get?_push_size (s4.heap.push { cls := .type "slice", data := .fields #[.none, .none, v3] }) (o := { cls := .type "tuple", data := .seq its.reverse.toArray }) rfl
  exact (show ObjOk X.prog X.w _ _ _ (.frz _ _) from ⟨get, by rw [List.length_reverse]; exact hz, _, r.reverse, _, get, rfl, _, rfl⟩)
end
section
variable {N : List Str} {sc : Scope} {CX : CXT} {φ : Orc} {ex : Expr} {K : Frag} {F : Hp}
theorem rpAll_back : ∀ {vs : List L2.V} {xs : List D}, RpAll K F vs xs → RpAll K F vs.reverse xs.reverse
  | [], _, h => by cases h; exact .nil
  | v :: vs, _, h => by
    cases h with
    | cons h1 h2 =>
      rw [List.reverse_cons, List.reverse_cons]
      exact rpAll_app (rpAll_back h2) (.cons h1 .nil)
theorem a1_rev {k : Nat} {q1 q2 q3 pos : Pos} : A1 N sc CX φ .rev ex (.Subscript ex (.Slice none none (some (.UnaryOp .USub (.Constant (.int 1) k q1) q2)) q3) pos) := by
  intro X G σ H Q x w hw h
  cases x <;> first | (cases hw; done) | skip
  · cases hw
    refine RE.of (pe_revL (peE ex)) (RE.mono h fun v H1 ⟨F, e, rel, vw, k⟩ => ?_)
    obtain ⟨a, vs, rfl, h1, h2⟩ := vw.list rel.sub
    exact ⟨a, vs, rfl, h1, fun p hp => k.lst rel (rpAll_back h2) hp⟩
  · cases hw
    refine RE.of (pe_backT (peE ex)) (RE.mono h fun v H1 ⟨F, e, rel, vw, k⟩ => ?_)
    obtain ⟨a, vs, rfl, h1, h2⟩ := vw.tup rel.sub
    exact ⟨a, vs, rfl, rel.sub.sqT h1.sq, fun p o hp ho => k.tup rel (rpAll_back h2) hp ho⟩
end
section
variable {N : List Str} {sc : Scope} {CX : CXT} {φ : Orc} {ex : Expr}
theorem a1_bits {apos pos : Pos} (hb : isBase ex = true) (hline : (apos.endLine == pos.line) = true) : A1 N sc CX φ .bits ex (.Call (.Attribute ex (Str.ofString "bit_length") apos) [] [] pos) := by
  refine A1.mk (r := fun X v H Q => ∃ i, v = .int i ∧ Q (.int (Builtin.Int.intBits i : Nat)) H) (fun X G => pe_bits (peE ex) (base_of hb) hline) fun X G σ H F e Q x w v hw l rel vw k => ?_
  cases x <;> first | (cases hw; done) | skip
  cases hw
  exact ⟨_, vw.int, k.int rel⟩
/-- is True, is not False .. as tests -/
theorem st_isBool {y b : Bool} {a : E} {j : Nat} {pos p2 : Pos} (so : SO N sc CX ex φ (opW (evalE φ a) a)) : ST N sc CX (.Compare ex [if b then .Is else .IsNot] [.Constant (.bool y) j p2] pos) φ (evalT φ (.e (.o1 (.isBool y b) a))) := by
  intro X G e w e' hr F H σ Q rel k
  obtain ⟨o2, x', r1, r2, r3⟩ := evalT_e hr
  obtain ⟨⟨w2, e2⟩, r4, r5⟩ := bind_inv (r := evalE φ (.o1 (.isBool y b) a) e) (f := fun p => R.ok (Opd.v p.1, p.2)) r1
  cases r5
  simp only [evalE] at r4
  obtain ⟨⟨oa, e1⟩, g1, g2⟩ := bind_inv r4
  obtain ⟨x, g3, g4⟩ := bind_inv g2
  obtain ⟨g5, rfl⟩ := ret1_inv g4
  have run : RE X ex σ H (fun v H1 => ∃ z, v = .bl z ∧ Q ((z == y) == b) H1) := by
    refine so X G e oa _ g1 F H σ _ rel fun v F1 H1 p1 o1 _ => ?_
    have vw := o1.view p1.rel (ofO_inv g3)
    cases x <;> first | (cases g5; done) | skip
    rename_i z
    have hv := vw.bool
    subst hv
    cases g5
    cases r2
    refine ⟨z, rfl, ?_⟩
    have hw : ((z == y) == b) = w := Option.some.inj r3
    rw [hw]
    exact k F1 H1 p1
  cases b
  · refine RT.of (pt_cmpR op_notBl (peE ex) pe_bl rfl) (RE.mono run fun v H1 ⟨z, hz, q⟩ => ?_)
    subst hz
    refine ⟨_, _, rfl, rfl, ?_⟩
    cases z <;> cases y <;> exact ⟨_, rfl, q⟩
  · refine RT.of (pt_cmpR op_isBl (peE ex) pe_bl rfl) (RE.mono run fun v H1 ⟨z, hz, q⟩ => ?_)
    subst hz
    refine ⟨_, _, rfl, rfl, ?_⟩
    cases z <;> cases y <;> exact ⟨_, rfl, q⟩
end
end Sw
end T_SwFd
section T_SwFe
set_option autoImplicit false
set_option linter.all false
set_option Elab.async false
set_option maxRecDepth 100000
/-! SwFe: dicts of one's own, keys whole numbers. -/
namespace Sw
open PySem PySem.Spec L2
section
variable {K : Frag} {F : Hp} {kv more : List (Key × L2.V)} {kvs ms : List (Int × D)}
theorem inl_eq {a b : Int} : ((Sum.inl a : Key) = Sum.inl b) ↔ a = b := ⟨fun h => by cases h; rfl, fun h => by rw [h]⟩
theorem DkR.len (r : DkR K F kv kvs) : kv.length = kvs.length := by
  induction r with
  | nil => rfl
  | cons _ _ ih => simp [ih]
theorem DkR.keys (r : DkR K F kv kvs) : kv.map (·.1) = (kvs.map (·.1)).map Sum.inl := by
  induction r with
  | nil => rfl
  | cons _ _ ih => simp [ih]
theorem DkR.some (r : DkR K F kv kvs) {j : Int} {x : D} (h : dGet kvs j = some x) : ∃ v, valV kv (.inl j) = some v ∧ Rp K F v x := by
  induction r with
  | nil => cases h
  | @cons i v y kv kvs h1 h2 ih =>
    unfold dGet at h
    split at h
    · rename_i e
      cases h
      exact ⟨v, valV_pos (show (Sum.inl i : Key) = _ by rw [show i = j from e]), h1⟩
    · rename_i e
      rw [valV_neg (fun z => e (inl_eq.mp z))]
      exact ih h
theorem DkR.none (r : DkR K F kv kvs) {j : Int} (h : dGet kvs j = none) : valV kv (.inl j) = none := by
  induction r with
  | nil => rfl
  | @cons i v y kv kvs h1 h2 ih =>
    unfold dGet at h
    split at h
    · cases h
    · rename_i e
      rw [valV_neg (fun z => e (inl_eq.mp z))]
      exact ih h
theorem DkR.isSome (r : DkR K F kv kvs) {j : Int} : (valV kv (.inl j)).isSome = (dGet kvs j).isSome := by
  cases h : dGet kvs j with
  | none => rw [r.none h]; rfl
  | some x => obtain ⟨v, e, _⟩ := r.some h; rw [e]; rfl
theorem DkR.map (r : DkR K F kv kvs) {j : Int} {v : L2.V} {x : D} (d : Rp K F v x) :
    DkR K F (kv.map fun p => if p.1 = .inl j then (p.1, v) else p) (kvs.map fun p => if p.1 = j then (p.1, x) else p) := by
  induction r with
  | nil => exact .nil
  | @cons i u y kv kvs h1 h2 ih =>
    rw [List.map_cons, List.map_cons]
    by_cases e : i = j
    · rw [if_pos e, if_pos (show (Sum.inl i : Key) = _ by rw [e])]
      exact .cons d ih
    · rw [if_neg e, if_neg (fun z => e (inl_eq.mp z))]
      exact .cons h1 ih
theorem DkR.snoc (r : DkR K F kv kvs) {j : Int} {v : L2.V} {x : D} (d : Rp K F v x) : DkR K F (kv ++ [(.inl j, v)]) (kvs ++ [(j, x)]) := by
  induction r with
  | nil => exact .cons d .nil
  | cons h1 _ ih => exact .cons h1 ih
theorem DkR.put (r : DkR K F kv kvs) {j : Int} {v : L2.V} {x : D} (d : Rp K F v x) : DkR K F (putK kv (.inl j) v) (dPut kvs j x) := by
  unfold putK dPut
  rw [valV_any, r.isSome]
  split
  · exact r.map d
  · exact r.snoc d
theorem DkR.merge (q : DkR K F more ms) : ∀ {kv : List (Key × L2.V)} {kvs : List (Int × D)}, DkR K F kv kvs → DkR K F (mergeK kv more) (dMerge kvs ms) := by
  induction q with
  | nil => exact fun r => r
  | cons h1 _ ih => exact fun r => ih (r.put h1)
theorem pairsKV_ok : ∀ {xs : List D} {vs : List L2.V} {kvs : List (Int × D)}, pairsKV xs = some kvs → RpAll K F vs xs → ∃ (ps : List Addr) (kv : List (Key × L2.V)), vs = ps.map L2.V.ref ∧ Paired (fun p kv => SqT K F p [kV kv.1, kv.2]) ps kv ∧ DkR K F kv kvs
  | [], vs, kvs, h, r => by
    cases h
    cases r
    exact ⟨[], [], rfl, .nil, .nil⟩
  | x :: xs, vs, kvs, h, r => by
    simp only [pairsKV, Option.bind_eq_some_iff, Option.map_eq_some_iff] at h
    obtain ⟨p, h1, l, h2, rfl⟩ := h
    cases r with
    | @cons v vs _ _ r1 r2 =>
      obtain ⟨ps, kv, e, q1, q2⟩ := pairsKV_ok h2 r2
      unfold pairKV at h1
      split at h1
      · rename_i k y
        cases h1
        cases r1 with
        | @tup a ws _ t1 t2 =>
          cases t2 with
          | cons s1 s2 =>
            cases s2 with
            | cons s3 s4 =>
              cases s4
              cases s1
              refine ⟨a :: ps, (.inl k, _) :: kv, by rw [List.map_cons, ← e], .cons t1.sq q1, .cons s3 q2⟩
      · cases h1
end
section
variable {N : List Str} {sc : Scope} {CX : CXT} {φ : Orc} {ex ey ez big : Expr} {exs : List Expr}
theorem dAt_inv {v : V} {x : D} {q : List (Int × D) × Int} (h : dAt v x = some q) : v = .k q.1 ∧ x = .int q.2 := by
  unfold dAt at h
  split at h
  · cases h; exact ⟨rfl, rfl⟩
  · cases h
theorem fresh_tab {K : Frag} {F H F1 H1 : Hp} {σ : L2.St} {e e1 : Env} {p : Addr} {vs : List (Key × L2.V)} {xs : List (Int × D)} (q : Post K F H σ e F1 H1 σ e1) (hp : H1 p = none) (d : DkR K F1 vs xs) :
    Post K F H σ e F1 (upd H1 p (.dK vs)) σ e1 ∧ ResR K F1 (upd H1 p (.dK vs)) σ e1 (.k xs) (.ref p) ∧ From H σ e (.k xs) (.ref p) := by
  refine ⟨q.trans (Post.fresh q.rel hp _), ⟨p, vs, rfl, upd_same, ?_, d, fun h => ?_⟩, fun a ha => ?_⟩
  · cases z : F1 p with
    | none => rfl
    | some u => have := q.rel.sub p u z; rw [hp] at this; cases this
  · exact q.rel.fresh_not hp _ h
  · cases ha
    exact .inl (q.dom p hp)
theorem se_dnew {pos : Pos} : SE N sc CX (.Dict [] [] pos) φ (evalE φ .dnew) := by
  intro X G e w e' hr F H σ Q rel k
  simp only [evalE] at hr
  cases hr
  refine RE.of pe_dnewK fun p hp => ?_
  obtain ⟨z1, z2, z3⟩ := fresh_tab (Post.refl rel) hp (.nil : DkR X.K F [] [])
  exact k _ _ _ z1 z2 z3
theorem se_dlit {j x : Int} {kind kind2 : _} {p p2 pos : Pos} : SE N sc CX (.Dict [some (.Constant (.int j) kind p)] [.Constant (.int x) kind2 p2] pos) φ (evalE φ (.dlit j x)) := by
  intro X G e w e' hr F H σ Q rel k
  simp only [evalE] at hr
  cases hr
  refine RE.of (pe_disp (pps_cons pe_int pe_int pps_nil) rfl rfl (by intro h; cases h) (by show 1 ≤ 15; decide)) fun p hp => ?_
  refine ⟨upd_same, [(.inl j, .int x)], rfl, by show 1 ≤ 15; decide, ?_⟩
  rw [upd_upd]
  obtain ⟨z1, z2, z3⟩ := fresh_tab (Post.refl rel) hp (.cons (.int x) .nil : DkR X.K F [(.inl j, .int x)] [(j, .int x)])
  exact k _ _ _ z1 z2 z3
theorem se_dof {a : E} {p pos : Pos} (hg : GlS sc (Str.ofString "dict")) (hs : noStar ex = true) (ha : SD N sc CX ex φ (daW (evalE φ a))) : SE N sc CX (.Call (.Name (Str.ofString "dict") p) [ex] [] pos) φ (evalE φ (.dof a)) := by
  intro X G e w e' hr F H σ Q rel k
  simp only [evalE] at hr
  obtain ⟨⟨y, e1⟩, r1, r2⟩ := bind_inv hr
  dsimp only at r2
  split at r2
  case h_2 => cases r2
  rename_i xs
  split at r2
  case h_2 => cases r2
  rename_i kvs hk
  cases r2
  refine RE.of (pe_type1 G (by decide) (call_dictP G.calm) hg (by decide +kernel) (by decide +kernel) hs) ?_
  refine ha X G e _ _ r1 F H σ _ rel fun v F1 H1 p1 d1 => ?_
  cases d1 with
  | @lst b vs _ h1 h2 =>
    obtain ⟨ps, kv, rfl, q1, q2⟩ := pairsKV_ok hk h2
    refine ⟨b, ps, kv, rfl, p1.rel.sub.sqL h1, ?_, fun q hq => ?_⟩
    · clear k h2 h1 q2 hk
      induction q1 with
      | nil => exact .nil
      | cons h _ ih => exact .cons (p1.rel.sub.sqT h) ih
    · obtain ⟨z1, z2, z3⟩ := fresh_tab p1 hq (DkR.merge q2 (.nil : DkR X.K F1 [] []))
      exact k _ _ _ z1 z2 z3
theorem Good.unit1 {X : Cx} (G : Good N sc CX X φ) : X.A.units + 1 < cLine := by have := G.units; omega
theorem se_din {b : Bool} {i : Nat} {x : Str} {p pos : Pos} {a : E} (hi : N[i]? = some x) (hv : isVis sc x = true) (hp : plainName x = true) (ha : SD N sc CX ex φ (daW (evalE φ a))) :
    SE N sc CX (.Compare ex [if b then .In else .NotIn] [.Name x p] pos) φ (evalE φ (.din b i a)) := by
  intro X G e w e' hr F H σ Q rel k
  simp only [evalE] at hr
  obtain ⟨⟨y, e1⟩, r1, r2⟩ := bind_inv hr
  dsimp only at r2
  split at r2
  case h_2 => cases r2
  rename_i q hq
  obtain ⟨g1, rfl⟩ := dAt_inv hq
  cases r2
  have fin : ∀ (v : L2.V) (F1 H1 : Hp), Post X.K F H σ e F1 H1 σ e' → Rp X.K F1 v (.int q.2) → ∃ c vs, σ[i]? = some (some (.ref c)) ∧ DGet H1 c v (valV vs (Sum.inl q.2)) ∧ (valV vs (Sum.inl q.2)).isSome = (dGet q.1 q.2).isSome := fun v F1 H1 p1 d1 => by
    obtain ⟨c, vs, h1, h2, h3, h4⟩ := p1.rel.tabAt g1
    cases d1
    exact ⟨c, vs, h1, DGet.k (k := .inl q.2) h2, h4.isSome⟩
  cases b with
  | true =>
    refine RE.of (pe_cmp (pc_din G.unit1 (peE ex) (pe_name G hi hv hp)) rfl) (ha X G e _ _ r1 F H σ _ rel fun v F1 H1 p1 d1 => ?_)
    obtain ⟨c, vs, h1, h2, h3⟩ := fin v F1 H1 p1 d1
    refine ⟨_, h1, c, _, rfl, h2, k _ F1 H1 p1 ?_ trivial⟩
    rw [h3]
    cases (dGet q.1 q.2).isSome <;> exact .bl _
  | false =>
    refine RE.of (pe_cmp (pc_dnotin G.unit1 (peE ex) (pe_name G hi hv hp)) rfl) (ha X G e _ _ r1 F H σ _ rel fun v F1 H1 p1 d1 => ?_)
    obtain ⟨c, vs, h1, h2, h3⟩ := fin v F1 H1 p1 d1
    refine ⟨_, h1, c, _, rfl, h2, k _ F1 H1 p1 ?_ trivial⟩
    rw [h3]
    cases (dGet q.1 q.2).isSome <;> exact .bl _
theorem st_din {b : Bool} {i : Nat} {x : Str} {p pos : Pos} {a : E} (hi : N[i]? = some x) (hv : isVis sc x = true) (hp : plainName x = true) (ha : SD N sc CX ex φ (daW (evalE φ a))) :
    ST N sc CX (.Compare ex [if b then .In else .NotIn] [.Name x p] pos) φ (evalT φ (.e (.din b i a))) := by
  intro X G e w e' hr F H σ Q rel k
  obtain ⟨o2, x', r1, r2, r3⟩ := evalT_e hr
  obtain ⟨⟨w2, e2⟩, r4, r5⟩ := bind_inv (r := evalE φ (.din b i a) e) (f := fun p => R.ok (Opd.v p.1, p.2)) r1
  cases r5
  simp only [evalE] at r4
  obtain ⟨⟨y, e1⟩, t1, t2⟩ := bind_inv r4
  dsimp only at t2
  split at t2
  case h_2 => cases t2
  rename_i q hq
  obtain ⟨g1, rfl⟩ := dAt_inv hq
  cases t2
  have hx : x' = .bool ((dGet q.1 q.2).isSome == b) := by cases r2; rfl
  subst hx
  have hw : w = ((dGet q.1 q.2).isSome == b) := by cases r3; rfl
  subst hw
  have fin : ∀ (e3 : Env) (v : L2.V) (F1 H1 : Hp), get e3 i = .k q.1 → Post X.K F H σ e F1 H1 σ e3 → Rp X.K F1 v (.int q.2) → ∃ c vs, σ[i]? = some (some (.ref c)) ∧ DGet H1 c v (valV vs (Sum.inl q.2)) ∧ (valV vs (Sum.inl q.2)).isSome = (dGet q.1 q.2).isSome := fun e3 v F1 H1 g1 p1 d1 => by
    obtain ⟨c, vs, h1, h2, h3, h4⟩ := p1.rel.tabAt g1
    cases d1
    exact ⟨c, vs, h1, DGet.k (k := .inl q.2) h2, h4.isSome⟩
  cases b with
  | true =>
    refine RT.of (pt_cmp (pc_din G.unit1 (peE ex) (pe_name G hi hv hp)) rfl) (ha X G e _ _ t1 F H σ _ rel fun v F1 H1 p1 d1 => ?_)
    obtain ⟨c, vs, h1, h2, h3⟩ := fin _ v F1 H1 g1 p1 d1
    refine ⟨_, h1, c, _, rfl, h2, _, rfl, ?_⟩
    rw [h3]
    have := k F1 H1 p1
    revert this
    cases (dGet q.1 q.2).isSome <;> exact id
  | false =>
    refine RT.of (pt_cmp (pc_dnotin G.unit1 (peE ex) (pe_name G hi hv hp)) rfl) (ha X G e _ _ t1 F H σ _ rel fun v F1 H1 p1 d1 => ?_)
    obtain ⟨c, vs, h1, h2, h3⟩ := fin _ v F1 H1 g1 p1 d1
    refine ⟨_, h1, c, _, rfl, h2, _, rfl, ?_⟩
    rw [h3]
    have := k F1 H1 p1
    revert this
    cases (dGet q.1 q.2).isSome <;> exact id
theorem se_dget {i : Nat} {x : Str} {p pos : Pos} {a : E} (hi : N[i]? = some x) (hv : isVis sc x = true) (hp : plainName x = true) (hsl : isSl ex = false) (ha : SD N sc CX ex φ (daW (evalE φ a))) :
    SE N sc CX (.Subscript (.Name x p) ex pos) φ (evalE φ (.dget i a)) := by
  intro X G e00 w e' hr F00 H σ Q rel00 k00
  simp only [evalE] at hr
  obtain ⟨F, p00⟩ := seal_ok rel00 i
  have rel := p00.rel
  have k : ∀ (v : L2.V) (F' H' : Hp), Post X.K F H σ (sealE e00 i) F' H' σ e' → ResR X.K F' H' σ e' w v → From H σ (sealE e00 i) w v → Q v H' := fun v F' H' p q f => k00 v F' H' (p00.trans p) q (From.trans p00 f)
  generalize sealE e00 i = e at hr rel k
  clear p00 k00 rel00
  split at hr
  case isFalse => cases hr
  rename_i hc
  obtain ⟨xs0, g0⟩ := isKd_of hc
  obtain ⟨⟨y, e1⟩, r1, r2⟩ := bind_inv hr
  dsimp only at r2
  split at r2
  case h_2 => cases r2
  rename_i q hq
  obtain ⟨g1, rfl⟩ := dAt_inv hq
  split at r2
  case h_2 => cases r2
  rename_i z hz
  cases r2
  obtain ⟨c, vs, h1, h2, h3, h4⟩ := rel.tabAt g0
  refine RE.of (pe_dget G.unit1 (pe_name G hi hv hp) (peE ex) (by cases ex <;> first | (intro ov iv; rfl) | cases hsl)) ⟨_, h1, ha X G e _ _ r1 F H σ _ rel fun v F1 H1 p1 d1 => ?_⟩
  obtain ⟨c', vs', h1', h2', h3', h4'⟩ := p1.rel.tabAt g1
  rw [h1] at h1'; cases h1'
  cases d1
  obtain ⟨u, hu, ru⟩ := h4'.some hz
  exact ⟨c, u, rfl, by have := DGet.k (k := .inl q.2) h2'; rw [hu] at this; exact this, k _ F1 H1 p1 ru trivial⟩
theorem few2 {ey ez : Expr} {env : PySem.Env} {cpos : Pos} (h : noStar ey = true) (h' : noStar ez = true) : ((backTo cpos (starEach [ey, ez] env)).all (fun x => !x.1) && (backToKw cpos (keywordEach [] env)).all (fun x => x.1.isSome)
      && decide ([ey, ez].length + ([] : List Keyword).length + (if ([] : List Keyword).isEmpty then 0 else 1) < 30)) = true := by
  rw [star_of h, star_of h']; rfl
theorem pe_m2 {X : Cx} {T id : String} {name : Str} {apos cpos : Pos} {r : L2.V → List L2.V → Hp → VK → Prop} (pa : PlainAttrs T) (slot : Slot T name id) (hty : typeOf (.builtin id) = pure (.type "method_descriptor")) (hm : MtR X id r)
    (hb : isBase ex = true) (hline : (apos.endLine == cpos.line) = true) (hs : noStar ey = true) (hs' : noStar ez = true) :
    PE X (.Call (.Attribute ex name apos) [ey, ez] [] cpos) fun σ H Q => RE X ex σ H fun u H1 => Ty X T u σ H1 ∧ RE X ey σ H1 fun v H2 => RE X ez σ H2 fun z H3 => r u [v, z] H3 Q := by
  refine ⟨fun pins s σ H Q I h => ?_⟩
  refine wpAny_Call_method_late (base_of hb) (few2 hs hs') hline rfl (thn (h pins s I) fun v s1 ⟨u, H1, I1, r1, ty, q1⟩ => ?_)
  obtain ⟨h1, h2⟩ := ty pins s1 v I1 r1
  refine ⟨T, id, pa, slot, hty, h1, h2, ?_⟩
  have hA := (pa_cons (peE ey) (pa_cons (peE ez) pa_nil (star_of hs')) (star_of hs)).run cpos pins s1 σ H1 (fun vs H2 => r u vs H2 Q) I1 q1
  rw [star_of hs, star_of hs'] at hA ⊢
  exact Calls.callWith_builtin rfl (Calls.evalArgs_plain (thn hA fun us s2 ⟨vs, H2, I2, r2, q2⟩ => hm pins s2 σ H2 u vs v us Q I2 r1 r2 q2))
theorem ty_dict {X : Cx} {σ : L2.St} {H : Hp} {a : Addr} {xs : List (Key × L2.V)} (h : H a = some (.dK xs)) : Ty X "dict" (.ref a) σ H := fun pins s v I r => by
  cases r
  obtain ⟨t1, t2, _⟩ := isD_at I (.inl ⟨xs, .inl h⟩)
  exact ⟨t1, t2⟩
theorem mt_get2 {X : Cx} (hu : X.A.units + 1 < cLine) : MtR X "dict.get" fun x vs H Q => ∃ a y d o, x = .ref a ∧ vs = [y, d] ∧ DGet H a y o ∧ Q (o.getD d) H := by
  intro pins s σ H x vs v us Q I rx rv h
  obtain ⟨a, y, d, o, rfl, rfl, g, q⟩ := h
  cases rx
  obtain ⟨u1, u2, rfl, r1, r2⟩ := vals2 rv
  exact d_get2 hu I g r1 r2 fun w' s' I' rw' => ⟨_, H, I', rw', q⟩
theorem mt_setd {X : Cx} : MtR X "dict.setdefault" fun x vs H Q => ∃ a d kv j, x = .ref a ∧ vs = [.int j, d] ∧ H a = some (.dK kv) ∧ kv.length < sizeLine ∧
    (∀ v, valV kv (.inl j) = some v → Q v H) ∧ (valV kv (.inl j) = none → Q d (upd H a (.dK (putK kv (.inl j) d)))) := by
  intro pins s σ H x vs v us Q I rx rv h
  obtain ⟨a, d, kv, j, rfl, rfl, g, hl, q1, q2⟩ := h
  cases rx
  obtain ⟨u1, u2, rfl, r1, r2⟩ := vals2 rv
  exact d_setd (k := .inl j) I g r1 r2 hl (fun v hv w' s' I' rw' => ⟨v, H, I', rw', q1 v hv⟩) fun hn w' s' I' rw' => ⟨d, _, I', rw', q2 hn⟩
theorem mt_upd {X : Cx} : MtR X "dict.update" fun x vs H Q => ∃ a b kv more, x = .ref a ∧ vs = [.ref b] ∧ a ≠ b ∧ H a = some (.dK kv) ∧ H b = some (.dK more) ∧ kv.length + more.length ≤ sizeLine ∧ Q .non (upd H a (.dK (mergeK kv more))) := by
  intro pins s σ H x vs v us Q I rx rv h
  obtain ⟨a, b, kv, more, rfl, rfl, hab, h1, h2, hl, q⟩ := h
  cases rx
  obtain ⟨u, rfl, ru⟩ := rv.one
  cases ru
  obtain ⟨z1, d1, vs1, rel1, dd1⟩ := dk_of I.hok h1
  obtain ⟨z2, d2, vs2, rel2, dd2⟩ := dk_of I.hok h2
  refine call_meetsIn PySem.F.slot_dict_update dd1.typeIs PySem.F.entry_dict_update (PySem.F.args_dict_update_2 _ _) (meets_dict_update (mixKind X.prog X.w) a b hab d2) ⟨vs1, vs2, dd1, dd2, ?_, fun h' g1 _ hs => ?_⟩
  · rw [← rel1.length, ← rel2.length]; exact hl
  · have he : ∃ q, h'.get? a = some q := let ⟨q, _, _, hq, _⟩ := g1; ⟨q, hq⟩
    have hlen : (mergeK kv more).length ≤ sizeLine := Nat.le_trans (length_mergeK more kv) hl
    exact ⟨.non, _, d_write (t' := s.toks) I (by rw [h1]; exact True.intro) hs he (dk_new hlen d1 (KV.merge rel2 rel1) g1), rfl, q⟩
theorem se_dgtd {i : Nat} {x : Str} {p apos cpos : Pos} {a b : E} (hi : N[i]? = some x) (hv : isVis sc x = true) (hp : plainName x = true) (ha : SD N sc CX ey φ (daW (evalE φ a))) (hb : SD N sc CX ez φ (daW (evalE φ b)))
    (hline : (apos.endLine == cpos.line) = true) (hn : noStar ey = true) (hn' : noStar ez = true) : SE N sc CX (.Call (.Attribute (.Name x p) (Str.ofString "get") apos) [ey, ez] [] cpos) φ (evalE φ (.dgtd i a b)) := by
  intro X G e w e' hr F H σ Q rel k
  simp only [evalE] at hr
  split at hr
  case isFalse => cases hr
  rename_i hc
  obtain ⟨xs0, g0⟩ := isKd_of hc
  obtain ⟨⟨y, e1⟩, r1, r2⟩ := bind_inv hr
  obtain ⟨⟨y2, e2⟩, r3, r4⟩ := bind_inv r2
  dsimp only at r4
  split at r4
  case h_2 => cases r4
  rename_i q hq
  obtain ⟨g1, rfl⟩ := dAt_inv hq
  cases r4
  obtain ⟨c, vs, h1, h2, h3, h4⟩ := rel.tabAt g0
  refine RE.of (pe_m2 PySem.F.plainAttrs_dict PySem.F.slot_dict_get PySem.F.type_dict_get (mt_get2 G.unit1) rfl hline hn hn') ?_
  refine RE.of (pe_name G hi hv hp) ⟨_, h1, ty_dict h2, ha X G e _ e1 r1 F H σ _ rel fun v F1 H1 p1 d1 => hb X G e1 _ _ r3 F1 H1 σ _ p1.rel fun v2 F2 H2 p2 d2 => ?_⟩
  obtain ⟨c', vs', h1', h2', h3', h4'⟩ := p2.rel.tabAt g1
  rw [h1] at h1'; cases h1'
  cases d1
  refine ⟨c, _, v2, _, rfl, rfl, DGet.k (k := .inl q.2) h2', k _ F2 H2 (p1.trans p2) ?_ trivial⟩
  cases hz : dGet q.1 q.2 with
  | none => rw [h4'.none hz]; exact d2
  | some z => obtain ⟨u, hu, ru⟩ := h4'.some hz; rw [hu]; exact ru
theorem se_dsetd {i : Nat} {x : Str} {p apos cpos : Pos} {a b : E} (hi : N[i]? = some x) (hv : isVis sc x = true) (hp : plainName x = true) (ha : SD N sc CX ey φ (daW (evalE φ a))) (hb : SD N sc CX ez φ (daW (evalE φ b)))
    (hline : (apos.endLine == cpos.line) = true) (hn : noStar ey = true) (hn' : noStar ez = true) : SE N sc CX (.Call (.Attribute (.Name x p) (Str.ofString "setdefault") apos) [ey, ez] [] cpos) φ (evalE φ (.dsetd i a b)) := by
  intro X G e w e' hr F H σ Q rel k
  simp only [evalE] at hr
  split at hr
  case isFalse => cases hr
  rename_i hc
  obtain ⟨xs0, g0⟩ := isKd_of hc
  obtain ⟨⟨y, e1⟩, r1, r2⟩ := bind_inv hr
  obtain ⟨⟨y2, e2⟩, r3, r4⟩ := bind_inv r2
  dsimp only at r4
  split at r4
  case h_2 => cases r4
  rename_i q hq
  obtain ⟨g1, rfl⟩ := dAt_inv hq
  split at r4
  case isFalse => cases r4
  rename_i hl
  obtain ⟨c, vs, h1, h2, h3, h4⟩ := rel.tabAt g0
  refine RE.of (pe_m2 PySem.F.plainAttrs_dict PySem.F.slot_dict_setdefault PySem.F.type_dict_setdefault mt_setd rfl hline hn hn') ?_
  refine RE.of (pe_name G hi hv hp) ⟨_, h1, ty_dict h2, ha X G e _ e1 r1 F H σ _ rel fun v F1 H1 p1 d1 => hb X G e1 _ _ r3 F1 H1 σ _ p1.rel fun v2 F2 H2 p2 d2 => ?_⟩
  obtain ⟨c', vs', h1', h2', h3', h4'⟩ := p2.rel.tabAt g1
  rw [h1] at h1'; cases h1'
  cases d1
  refine ⟨c, v2, vs', q.2, rfl, rfl, h2', by rw [h4'.len]; exact hl, fun u hu => ?_, fun hu => ?_⟩
  · cases hz : dGet q.1 q.2 with
    | none => rw [h4'.none hz] at hu; cases hu
    | some z =>
      rw [hz] at r4
      cases r4
      obtain ⟨u', hu', ru⟩ := h4'.some hz
      rw [hu] at hu'; cases hu'
      exact k _ F2 H2 (p1.trans p2) ru trivial
  · cases hz : dGet q.1 q.2 with
    | some z => obtain ⟨u', hu', ru⟩ := h4'.some hz; rw [hu] at hu'; cases hu'
    | none =>
      rw [hz] at r4
      cases r4
      exact k _ F2 _ ((p1.trans p2).trans (Post.tab p2.rel g1 h1 (h4'.put d2))) d2 trivial
theorem se_dupd {i : Nat} {x : Str} {p apos cpos : Pos} {a : E} (hi : N[i]? = some x) (hv : isVis sc x = true) (hp : plainName x = true) (ha : SE N sc CX ey φ (evalE φ a))
    (hline : (apos.endLine == cpos.line) = true) (hn : noStar ey = true) : SE N sc CX (.Call (.Attribute (.Name x p) (Str.ofString "update") apos) [ey] [] cpos) φ (evalE φ (.dupd i a)) := by
  intro X G e w e' hr F H σ Q rel k
  simp only [evalE] at hr
  split at hr
  case isFalse => cases hr
  rename_i hc
  obtain ⟨xs0, g0⟩ := isKd_of hc
  obtain ⟨⟨y, e1⟩, r1, r2⟩ := bind_inv hr
  dsimp only at r2
  split at r2
  case h_2 => cases r2
  rename_i kvs more g1
  split at r2
  case isFalse => cases r2
  rename_i hl
  cases r2
  obtain ⟨c, vs, h1, h2, h3, h4⟩ := rel.tabAt g0
  refine RE.of (pe_m1 PySem.F.plainAttrs_dict PySem.F.slot_dict_update PySem.F.type_dict_update mt_upd rfl hline hn) ?_
  refine RE.of (pe_name G hi hv hp) ⟨_, h1, ty_dict h2, ha X G e _ e1 r1 F H σ _ rel fun v F1 H1 p1 d1 f1 => ?_⟩
  obtain ⟨c', vs', h1', h2', h3', h4'⟩ := p1.rel.tabAt g1
  rw [h1] at h1'; cases h1'
  obtain ⟨b, ws, rfl, q2, q3, q4, q5⟩ := d1
  have hcb : c ≠ b := fun z => q5 ⟨i, by rw [g1]; exact .inl ⟨rfl, by rw [← z]; exact h1⟩⟩
  exact ⟨c, b, vs', ws, rfl, rfl, hcb, h2', q2, by rw [h4'.len, q4.len]; exact hl, k _ F1 _ (p1.trans (Post.tab p1.rel g1 h1 (DkR.merge q4 h4'))) .non trivial⟩
theorem se_dsort {i : Nat} {x : Str} {p p2 pos : Pos} (hi : N[i]? = some x) (hv : isVis sc x = true) (hp : plainName x = true) (hg : GlS sc (Str.ofString "sorted")) :
    SE N sc CX (.Call (.Name (Str.ofString "sorted") p2) [.Name x p] [] pos) φ (evalE φ (.dsort i)) := by
  intro X G e w e' hr F H σ Q rel k
  simp only [evalE] at hr
  split at hr
  case h_2 => cases hr
  rename_i kvs g
  split at hr
  case isFalse => cases hr
  rename_i hl
  cases hr
  obtain ⟨c, vs, h1, h2, h3, h4⟩ := rel.tabAt g
  refine RE.of (pe_blt1 G (by decide) (call_sortedDI G.calm) hg (by decide +kernel) (by decide +kernel) rfl) (RE.of (pe_name G hi hv hp) ⟨_, h1, c, vs, kvs.map (·.1), rfl, .inl h2, h4.keys, by rw [List.length_map]; exact hl, fun ys q hp ho hq => ?_⟩)
  have e2 : ys = sortI (kvs.map (·.1)) := sortI_eq hp ho
  subst e2
  obtain ⟨z1, z2, z3⟩ := fresh_res (Post.refl rel) hq (rpAll_ints (K := X.K) (F := F) (ns := sortI (kvs.map (·.1))))
  exact k _ _ _ z1 z2 z3
theorem ss_dst {pr : Nat → Bool} {i : Nat} {x : Str} {p p2 pos : Pos} {ix a : E} (hi : N[i]? = some x) (hv : isVis sc x = true) (hp : plainName x = true) (h : SD N sc CX ex φ (daW (evalE φ a))) (h2 : SD N sc CX ey φ (daW (evalE φ ix))) :
    SS N sc CX pr (.Assign [.Subscript (.Name x p) ey p2] ex pos) φ (exec φ (.dst i ix a)) := by
  intro X G e F H σ Dn rel k
  simp only [exec] at k
  obtain ⟨⟨d, e1⟩, r1, k⟩ := ofR_ok' k
  dsimp only at k
  split at k
  case isFalse => exact False.elim k
  rename_i hc
  obtain ⟨⟨y, e2⟩, r2, k⟩ := ofR_ok' k
  dsimp only at k
  split at k
  case h_2 => exact False.elim k
  rename_i q hq
  obtain ⟨g1, rfl⟩ := dAt_inv hq
  split at k
  case isFalse => exact False.elim k
  rename_i hl
  obtain ⟨xs0, g0⟩ := isKd_of hc
  refine RS.of (ps_dput G.toGood.unit1 (pe_name G.toGood hi hv hp) (peE ey) (peE ex) (by cases ex <;> rfl)) (h X G.toGood e d e1 r1 F H σ _ rel fun v F1 H1 p1 d1 => ?_)
  obtain ⟨c, vs, h1, h3, _, _⟩ := p1.rel.tabAt g0
  refine ⟨_, h1, h2 X G.toGood e1 _ e2 r2 F1 H1 σ _ p1.rel fun u F2 H2 p2 d2 => ?_⟩
  obtain ⟨c', vs', h1', h2', h3', h4'⟩ := p2.rel.tabAt g1
  rw [h1] at h1'; cases h1'
  cases d2
  exact ⟨c, _, rfl, DPut.k (k := .inl q.2) h2' (by rw [h4'.len]; exact hl), k σ F2 _ ((p1.trans p2).trans (Post.tab p2.rel g1 h1 (h4'.put (p2.grow.rp _ _ d1)))) Kept.refl⟩
/-! ### dicts of lists -/
theorem gHas_none {K : Frag} {F H : Hp} {kv : List (Key × L2.V)} {gs : List (Int × List D)} (r : GkR K F H kv gs) {j : Int} (h : gHas gs j = false) : valV kv (.inl j) = none := by
  induction r with
  | nil => rfl
  | @cons i b vs ds kv gs h1 h2 h3 h4 h5 ih =>
    unfold gHas at h
    rw [Bool.or_eq_false_iff, decide_eq_false_iff_not] at h
    rw [valV_neg (fun z => h.1 (inl_eq.mp z))]
    exact ih h.2
theorem gHas_some {K : Frag} {F H : Hp} {kv : List (Key × L2.V)} {gs : List (Int × List D)} (r : GkR K F H kv gs) {j : Int} (h : gHas gs j = true) :
    ∃ b vs ds, valV kv (.inl j) = some (.ref b) ∧ H b = some (.lst vs) ∧ RpAll K F vs ds ∧ (j, ds) ∈ gs ∧ (Sum.inl j, L2.V.ref b) ∈ kv ∧ ∀ x v, Rp K F v x → GkR K F (upd H b (.lst (vs ++ [v]))) kv (gApp gs j x) := by
  induction r with
  | nil => cases h
  | @cons i b vs ds kv gs h1 h2 h3 h4 h5 ih =>
    by_cases e : i = j
    · subst e
      refine ⟨b, vs, ds, valV_pos rfl, h1, h3, List.mem_cons_self, List.mem_cons_self, fun x v d => ?_⟩
      unfold gApp
      rw [if_pos rfl]
      refine .cons upd_same h2 (rpAll_app h3 (.cons d .nil)) h4 (h5.move (Sub.refl _) (fun c u k hc hu => ?_) fun _ _ _ h => h)
      rw [upd_ne (fun z => h4 k (by rw [← z]; exact hc))]; exact hu
    · unfold gHas at h
      rw [decide_eq_false e, Bool.false_or] at h
      obtain ⟨c, ws, es, g1, g2, g3, g4, g5, g6⟩ := ih h
      refine ⟨c, ws, es, by rw [valV_neg (fun z => e (inl_eq.mp z))]; exact g1, g2, g3, List.mem_cons_of_mem _ g4, List.mem_cons_of_mem _ g5, fun x v d => ?_⟩
      unfold gApp
      rw [if_neg e]
      exact .cons (by rw [upd_ne (fun z => h4 _ (by rw [z]; exact g5))]; exact h1) h2 h3 h4 (g6 x v d)
theorem gApp_new {j : Int} {x : D} : ∀ {gs : List (Int × List D)}, gHas gs j = false → gApp gs j x = gs ++ [(j, [x])]
  | [], _ => rfl
  | p :: r, h => by
    unfold gHas at h
    rw [Bool.or_eq_false_iff, decide_eq_false_iff_not] at h
    unfold gApp
    rw [if_neg h.1, gApp_new h.2]; rfl
theorem GkR.snoc {K : Frag} {F H : Hp} {kv : List (Key × L2.V)} {gs : List (Int × List D)} (r : GkR K F H kv gs) {q : Addr} {vs : List L2.V} {ds : List D} {j : Int} (h1 : H q = some (.lst vs)) (h2 : F q = none) (h3 : RpAll K F vs ds) (h4 : ∀ k, (k, L2.V.ref q) ∉ kv) : GkR K F H (kv ++ [(.inl j, .ref q)]) (gs ++ [(j, ds)]) := by
  induction r with
  | nil => exact .cons h1 h2 h3 (fun k h => by simp at h) .nil
  | @cons i b ws es kv gs g1 g2 g3 g4 _ ih =>
    refine .cons g1 g2 g3 (fun k h => ?_) (ih fun k h => h4 k (List.mem_cons_of_mem _ h))
    rcases List.mem_append.mp h with z | z
    · exact g4 k z
    · have : b = q := by
        have := List.mem_singleton.mp z
        injection this with _ this
        injection this
      exact h4 (.inl i) (by rw [← this]; exact List.mem_cons_self)
theorem asG_slot {K : Frag} {F H : Hp} {v : V} {o : Option (Option L2.V)} {gs : List (Int × List D)} (h : asG v = some gs) (s : SlotR K F H v o) : ∃ c kv, o = some (some (.ref c)) ∧ H c = some (.dK kv) ∧ F c = none ∧ GkR K F H kv gs ∧ (∀ b, HasV H v o b ↔ b = c ∨ ∃ k, (k, L2.V.ref b) ∈ kv) := by
  unfold asG at h
  split at h
  · cases h
    obtain ⟨c, kv, h1, h2, h3, h4⟩ := s
    cases h4
    refine ⟨c, [], h1, h2, h3, .nil, fun b => ⟨fun z => ?_, fun z => ?_⟩⟩
    · rcases z with ⟨_, z⟩ | ⟨z, _⟩
      · rw [h1] at z; cases z; exact .inl rfl
      · cases z
    · rcases z with z | ⟨k, z⟩
      · subst z; exact .inl ⟨rfl, h1⟩
      · cases z
  · cases h
    obtain ⟨c, kv, h1, h2, h3, h4⟩ := s
    refine ⟨c, kv, h1, h2, h3, h4, fun b => ⟨fun z => ?_, fun z => ?_⟩⟩
    · rcases z with ⟨_, z⟩ | ⟨_, c', kv', k, g1, g2, g3⟩
      · rw [h1] at z; cases z; exact .inl rfl
      · rw [h1] at g1; cases g1
        rw [h2] at g2; cases g2
        exact .inr ⟨k, g3⟩
    · rcases z with z | ⟨k, z⟩
      · subst z; exact .inl ⟨rfl, h1⟩
      · exact .inr ⟨rfl, c, kv, k, h1, h2, z⟩
  · cases h
theorem GkR.len {K : Frag} {F H : Hp} {kv : List (Key × L2.V)} {gs : List (Int × List D)} (r : GkR K F H kv gs) : kv.length = gs.length := by
  induction r with
  | nil => rfl
  | cons _ _ _ _ _ ih => simp [ih]
theorem se_gapp {i j : Nat} {x y : Str} {p p2 ap cp apos cpos lp : Pos} {a : E} (hi : N[i]? = some x) (hv : isVis sc x = true) (hp : plainName x = true) (hj : N[j]? = some y) (hvj : isVis sc y = true) (hpj : plainName y = true) (ha : SD N sc CX ey φ (daW (evalE φ a)))
    (hl1 : (ap.endLine == cp.line) = true) (hl2 : (apos.endLine == cpos.line) = true) (hn : noStar ey = true) :
    SE N sc CX (.Call (.Attribute (.Call (.Attribute (.Name x p) (Str.ofString "setdefault") ap) [ey, .List [] lp] [] cp) (Str.ofString "append") apos) [.Name y p2] [] cpos) φ (evalE φ (.gapp i a j)) := by
  intro X G e w e' hr F H σ Q rel k
  simp only [evalE] at hr
  split at hr
  case h_2 => cases hr
  rename_i gs0 hg0
  obtain ⟨⟨y1, e1⟩, r1, r2⟩ := bind_inv hr
  dsimp only at r2
  split at r2
  case h_2 => cases r2
  rename_i gs kk xx hg1 hx
  split at r2
  case isFalse => cases r2
  rename_i hc
  cases r2
  obtain ⟨c0, kv0, s1, s2, s3, s4, s5⟩ := asG_slot hg0 (rel.slot i)
  refine RE.of (pe_m1 PySem.F.plainAttrs_list PySem.F.slot_list_append PySem.F.type_list_append mt_append rfl hl2 rfl) ?_
  refine RE.of (pe_m2 PySem.F.plainAttrs_dict PySem.F.slot_dict_setdefault PySem.F.type_dict_setdefault mt_setd rfl hl1 hn rfl) ?_
  refine RE.of (pe_name G hi hv hp) ⟨_, s1, ty_dict s2, ha X G e _ _ r1 F H σ _ rel fun v F1 H1 p1 d1 => ?_⟩
  cases d1
  refine RE.of (pe_lst pa_nil) ⟨by show 0 ≤ sizeLine; omega, fun q hq => ?_⟩
  have rel1 := p1.rel
  obtain ⟨c, kv, t1, t2, t3, t4, t5⟩ := asG_slot hg1 (rel1.slot i)
  rw [s1] at t1; cases t1
  have hcq : c0 ≠ q := fun z => by rw [z, hq] at t2; cases t2
  have hxs := rel1.slot j
  rw [hx] at hxs
  obtain ⟨vx, x1, x2⟩ := hxs
  have f1q : F1 q = none := by
    cases z : F1 q with
    | none => rfl
    | some u => have := rel1.sub q u z; rw [hq] at this; cases this
  have hkv : ∀ b kk, (kk, L2.V.ref b) ∈ kv → b ≠ q := fun b kk h z => by
    obtain ⟨vs, hv⟩ := t4.memL h
    rw [z, hq] at hv; cases hv
  have hi' : i < e1.length := lt_of_own ((t5 c0).mpr (.inl rfl))
  refine ⟨c0, .ref q, kv, kk, rfl, rfl, by rw [upd_ne hcq]; exact t2, by rw [t4.len, lim_eq]; unfold lim; omega, fun u hu => ?_, fun hu => ?_⟩
  · -- there
    cases hh : gHas gs kk with
    | false => rw [gHas_none t4 hh] at hu; cases hu
    | true =>
      obtain ⟨b, vs, ds, g1, g2, g3, g4, g5, g6⟩ := gHas_some t4 hh
      rw [hu] at g1; cases g1
      have hbq := hkv b _ g5
      have hcb : c0 ≠ b := fun z => by rw [z, g2] at t2; cases t2
      have g2' : upd H1 q (.lst []) b = some (.lst vs) := by rw [upd_ne hbq]; exact g2
      refine ⟨ty_list (SqL.of g2'), RE.of (pe_name G hj hvj hpj) ⟨vx, x1, b, vs, vx, rfl, rfl, g2', ?_, ?_⟩⟩
      · have := List.all_eq_true.mp hc.2.1 _ g4
        have this : ds.length < 100000 := of_decide_eq_true this
        rw [rpAll_len g3, lim_eq]; unfold lim; omega
      · have pf := Post.fresh rel1 hq (.lst [])
        have kf : ∀ b u, H1 b = some u → upd H1 q (.lst []) b = some u := fun b u h => by rw [upd_ne (ne_of_none h hq)]; exact h
        obtain ⟨c1, kv1, z1, z2, z3, z4, z5⟩ := asG_slot hg1 (pf.rel.slot i)
        rw [s1] at z1; cases z1
        rw [upd_ne hcq, t2] at z2; cases z2
        refine k _ F1 _ (p1.trans (pf.trans (Post.change pf.rel hi' (w := .g (gApp gs kk xx)) (fun b' u h n => ?_) (fun b' h => ?_) ⟨c0, kv, s1, ?_, z3, ?_⟩ fun b' h => ?_))) .non trivial
        · have : b' ≠ b := fun z => n ((z5 b').mpr (.inr ⟨_, by rw [z]; exact g5⟩))
          rw [upd_ne this]; exact h
        · by_cases z : b' = b
          · rw [z, upd_same] at h; cases h
          · rw [upd_ne z] at h; exact h
        · rw [upd_ne hcb, upd_ne hcq]; exact t2
        · have := g6 xx vx x2
          refine this.move (Sub.refl _) (fun b' u k' h hu' => ?_) fun _ _ _ h => h
          by_cases z : b' = b
          · subst z; rw [upd_same] at hu' ⊢; exact hu'
          · rw [upd_ne z] at hu' ⊢; exact kf _ _ hu'
        · refine .inl ((z5 b').mpr ?_)
          rcases h with ⟨_, h⟩ | ⟨_, c', kv', k', h1, h2, h3⟩
          · rw [s1] at h; cases h; exact .inl rfl
          · rw [s1] at h1; cases h1
            rw [upd_ne hcb, upd_ne hcq, t2] at h2; cases h2
            exact .inr ⟨k', h3⟩
  · -- new
    have hh : gHas gs kk = false := by
      cases hh : gHas gs kk with
      | false => rfl
      | true => obtain ⟨b, vs, ds, g1, _⟩ := gHas_some t4 hh; rw [hu] at g1; cases g1
    have hq3 : upd (upd H1 q (.lst [])) c0 (.dK (putK kv (.inl kk) (.ref q))) q = some (.lst []) := by rw [upd_ne (fun z => hcq z.symm), upd_same]
    refine ⟨ty_list (SqL.of hq3), RE.of (pe_name G hj hvj hpj) ⟨vx, x1, q, [], vx, rfl, rfl, hq3, by show 0 < sizeLine; rw [lim_eq]; unfold lim; omega, ?_⟩⟩
    rw [putK_new _ hu]
    refine k _ F1 _ (p1.trans (Post.change rel1 hi' (w := .g (gApp gs kk xx)) (fun b' u h n => ?_) (fun b' h => ?_) ⟨c0, kv ++ [(.inl kk, .ref q)], s1, ?_, t3, ?_⟩ fun b' h => ?_)) .non trivial
    · have n1 : b' ≠ q := fun z => by rw [z, hq] at h; cases h
      have n2 : b' ≠ c0 := fun z => n ((t5 b').mpr (.inl z))
      rw [upd_ne n1, upd_ne n2, upd_ne n1]; exact h
    · by_cases z : b' = q
      · rw [z, upd_same] at h; cases h
      · rw [upd_ne z] at h
        by_cases z2 : b' = c0
        · rw [z2, upd_same] at h; cases h
        · rw [upd_ne z2, upd_ne z] at h; exact h
    · rw [upd_ne hcq, upd_same]
    · rw [gApp_new hh]
      refine GkR.snoc (t4.move (Sub.refl _) (fun b' u k' h hu' => ?_) fun _ _ _ h => h) upd_same f1q (.cons x2 .nil) fun k' h => hkv q k' h rfl
      have n1 := hkv b' k' h
      have n2 : b' ≠ c0 := fun z => by
        obtain ⟨vs, hv⟩ := t4.memL h
        rw [z, t2] at hv; cases hv
      rw [upd_ne n1, upd_ne n2, upd_ne n1]; exact hu'
    · rcases h with ⟨_, h⟩ | ⟨_, c', kv', k', h1, h2, h3⟩
      · rw [s1] at h; cases h; exact .inl ((t5 _).mpr (.inl rfl))
      · rw [s1] at h1; cases h1
        rw [upd_ne hcq, upd_same] at h2; cases h2
        rcases List.mem_append.mp h3 with z | z
        · exact .inl ((t5 b').mpr (.inr ⟨k', z⟩))
        · have : b' = q := by
            have := List.mem_singleton.mp z
            injection this with _ this
            injection this
          exact .inr (by rw [this]; exact hq)
end
end Sw
end T_SwFe
section T_SwFt
set_option autoImplicit false
set_option linter.all false
set_option Elab.async false
set_option maxRecDepth 100000
/-! SwFt: dicts of one's own, keys tuples of whole numbers. -/
namespace Sw
open PySem PySem.Spec L2
section
variable {K : Frag} {F : Hp} {xs : List (List Int × Addr × Value)} {kts : List (List Int × D)}
theorem TkR.keys (r : TkR K F xs kts) : xs.map (·.1) = kts.map (·.1) := by
  induction r with
  | nil => rfl
  | cons _ _ _ _ ih => rw [List.map_cons, List.map_cons, ih]
theorem TkR.len (r : TkR K F xs kts) : xs.length = kts.length := by
  have := congrArg List.length r.keys
  simpa using this
theorem atKey_cons {p : List Int × Addr × Value} {r : List (List Int × Addr × Value)} {k : List Int} : atKey (p :: r) k = if p.1 = k then some p.2 else atKey r k := by
  unfold atKey
  rw [List.find?_cons]
  by_cases h : p.1 = k
  · rw [if_pos h, decide_eq_true h]; rfl
  · rw [if_neg h, decide_eq_false h]
theorem TkR.some (r : TkR K F xs kts) {k : List Int} {x : D} (h : tGet kts k = some x) : ∃ b u v, atKey xs k = some (b, u) ∧ RelV v u ∧ Rp K F v x := by
  induction r with
  | nil => cases h
  | @cons ks b u v y xs kts h1 h2 h3 h4 ih =>
    unfold tGet at h
    rw [atKey_cons]
    split at h
    · rename_i e
      cases h
      rw [if_pos (show ks = k from e)]
      exact ⟨b, u, v, rfl, h2, h3⟩
    · rename_i e
      rw [if_neg (show ¬ ks = k from e)]
      exact ih h
theorem TkR.none (r : TkR K F xs kts) {k : List Int} (h : tGet kts k = none) : atKey xs k = none := by
  induction r with
  | nil => rfl
  | @cons ks b u v y xs kts h1 h2 h3 h4 ih =>
    unfold tGet at h
    rw [atKey_cons]
    split at h
    · cases h
    · rename_i e
      rw [if_neg (show ¬ ks = k from e)]
      exact ih h
theorem TkR.isSome (r : TkR K F xs kts) {k : List Int} : (atKey xs k).isSome = (tGet kts k).isSome := by
  cases h : tGet kts k with
  | none => rw [r.none h]; rfl
  | some x => obtain ⟨b, u, v, e, _⟩ := r.some h; rw [e]; rfl
theorem TkR.map (r : TkR K F xs kts) {k : List Int} {v : L2.V} {u : Value} {x : D} (rv : RelV v u) (d : Rp K F v x) :
    TkR K F (xs.map (putAt k u)) (kts.map fun p => if p.1 = k then (p.1, x) else p) := by
  induction r with
  | nil => exact .nil
  | @cons ks b u' v' y xs kts h1 h2 h3 h4 ih =>
    rw [List.map_cons, List.map_cons]
    unfold putAt
    by_cases e : ks = k
    · rw [if_pos e, if_pos e]
      exact .cons h1 rv d ih
    · rw [if_neg e, if_neg e]
      exact .cons h1 h2 h3 ih
theorem TkR.snoc (r : TkR K F xs kts) {k : List Int} {b : Addr} {v : L2.V} {u : Value} {x : D} (hb : TupX K F b (k.map L2.V.int)) (rv : RelV v u) (d : Rp K F v x) : TkR K F (xs ++ [(k, b, u)]) (kts ++ [(k, x)]) := by
  induction r with
  | nil => exact .cons hb rv d .nil
  | cons h1 h2 h3 _ ih => exact .cons h1 h2 h3 ih
theorem TkR.put (r : TkR K F xs kts) {k : List Int} {b : Addr} {v : L2.V} {u : Value} {x : D} (hb : TupX K F b (k.map L2.V.int)) (rv : RelV v u) (d : Rp K F v x) : TkR K F (storedH xs k b u) (tPut kts k x) := by
  unfold storedH tPut
  rw [r.isSome]
  split
  · exact r.map rv d
  · exact r.snoc hb rv d
theorem tGet_mem {k : List Int} : ∀ {kts : List (List Int × D)}, tGet kts k = none → k ∉ kts.map (·.1)
  | [], _ => by simp
  | p :: r, h => by
    unfold tGet at h
    split at h
    · cases h
    · rename_i e
      simp only [List.map_cons, List.mem_cons, not_or]
      exact ⟨fun z => e z.symm, tGet_mem h⟩
theorem tPut_keys {k : List Int} {x : D} (h : (kts.map (·.1)).Nodup) : ((tPut kts k x).map (·.1)).Nodup := by
  unfold tPut
  split
  · have : (kts.map fun p => if p.1 = k then (p.1, x) else p).map (·.1) = kts.map (·.1) := by
      rw [List.map_map]
      refine List.map_congr_left fun p _ => ?_
      simp only [Function.comp]
      split <;> rfl
    rw [this]; exact h
  · rename_i hn
    have hn : tGet kts k = Option.none := by
      cases z : tGet kts k with
      | none => rfl
      | some y => rw [z] at hn; exact absurd rfl hn
    rw [List.map_append, List.nodup_append]
    refine ⟨h, by simp, fun a ha b hb => ?_⟩
    have hb : b = k := by simpa using hb
    subst hb
    exact fun z => tGet_mem hn (by rw [← z]; exact ha)
end
section
variable {X : Cx} {pins : List (Addr × Obj)} {σ : L2.St} {H F : Hp} {s : Shared} {a b : Addr}
abbrev tKd (X : Cx) := tupleKind (intKind X.prog X.w)
theorem ints_items {P : Program} {w : World} : ∀ {ks : List Int} {us : List Value}, Vals (ks.map L2.V.int) us → ItemsAre (intKind P w) ks us
  | [], _, r => by rw [List.map_nil] at r; cases r; exact .nil
  | k :: ks, _, r => by
    rw [List.map_cons] at r
    cases r with
    | cons h t =>
      obtain ⟨tk, rfl⟩ := h
      exact .cons (by simp [intKind, Value.isInt]) (ints_items t)
theorem tkey_of (I : Inv X pins σ H s) {ks : List Int} (r : TupX X.K H b (ks.map L2.V.int)) : (tKd X).is s.heap ks b := by
  rcases r with ⟨o, h, _⟩ | ⟨o, its, n, h1, h2, _, h3, _, h5⟩
  · obtain ⟨_, _, its, r, o2, q1, q2, n, q3⟩ := (show ObjOk X.prog X.w H s.heap b (.frz o (.tup (ks.map L2.V.int))) from I.hok b _ h)
    exact ⟨o2, its.toArray, n, q1, q2, q3, by simpa using ints_items r⟩
  · exact ⟨o, its, n, I.kIn b o h1, h2, h3, ints_items h5⟩
theorem TkR.allKeys {K : Frag} {xs : List (List Int × Addr × Value)} {kts : List (List Int × D)} (r : TkR K F xs kts) : ∀ x ∈ xs, TupX K F x.2.1 (x.1.map L2.V.int) := by
  induction r with
  | nil => intro x hx; cases hx
  | cons h1 _ _ _ ih =>
    intro x hx
    rcases List.mem_cons.mp hx with z | z
    · subst z; exact h1
    · exact ih x z
theorem tdat_of (I : Inv X pins σ H s) {xs : List (List Int × Addr × Value)} (e : H a = some (.ext (TDat xs a))) (hk : ∀ x ∈ xs, TupX X.K H x.2.1 (x.1.map L2.V.int)) (hn : (xs.map (·.1)).Nodup) : s.heap.DictOfH (tKd X) a xs := by
  obtain ⟨⟨o, es, ep, h1, h2, h3, h4⟩, _⟩ := (show ObjOk X.prog X.w H s.heap a (.ext (TDat xs a)) from I.hok a _ e)
  exact ⟨o, es, ep, h1, h2, h3, h4, fun x hx => tkey_of I (hk x hx), hn⟩
theorem tdat_new {P : Program} {w : World} {H' : Hp} {h' : Heap} {xs : List (List Int × Addr × Value)} (d : TDat xs a h') : ObjOk P w H' h' a (.ext (TDat xs a)) := by
  refine ⟨d, ?_, fun h1 h2 d1 k => ?_⟩
  · obtain ⟨o, _, _, h, _⟩ := d; exact ⟨o, h⟩
  · obtain ⟨o, es, ep, e1, e2⟩ := d1
    exact ⟨o, es, ep, k o e1, e2⟩
/-- what the dict at a holds at the key y -/
structure TGet (X : Cx) (H : Hp) (a : Addr) (y : L2.V) (o : Option L2.V) : Prop where
  h : ∃ (xs : List (List Int × Addr × Value)) (b : Addr) (ks : List Int), H a = some (.ext (TDat xs a)) ∧ (a == sysModules) = false ∧ (xs.map (·.1)).Nodup ∧ (∀ x ∈ xs, TupX X.K H x.2.1 (x.1.map L2.V.int)) ∧ y = .ref b ∧ TupX X.K H b (ks.map L2.V.int) ∧ RelO o ((atKey xs ks).map (·.2))
variable {y v : L2.V} {u r : Value} {o : Option L2.V} {A : Around} {E : Value → Shared → Prop}
theorem t_getItem {Q : Value → Shared → Prop} (hu : A.units + 1 < cLine) (I : Inv X pins σ H s) (g : TGet X H a y (some v)) (ry : RelV y u) (h : ∀ w' s', Inv X pins σ H s' → RelV v w' → Q w' s') :
    wpAny (model X.prog X.w) A (getItem (.ref a) u) Q E s := by
  obtain ⟨xs, b, ks, e, hd, hn, hk, rfl, hb, ro⟩ := g.h
  cases (show u = Value.ref b from ry)
  obtain ⟨w', hw, rw'⟩ := RelO.some_of ro
  obtain ⟨p, hp, hp2⟩ := Option.map_eq_some_iff.mp hw
  refine wpAny_getItem_heap (knd := tKd X) (tupleKind_room_in1 hu) (tkey_of I hb) (tdat_of I e hk hn) hp ?_
  rw [hp2]
  exact h w' _ (I.tok _) rw'
theorem t_in {Q : Value → Shared → Prop} (hu : A.units + 1 < cLine) (I : Inv X pins σ H s) (g : TGet X H a y o) (ry : RelV y u) (h : ∀ s', Inv X pins σ H s' → Q (.bool o.isSome) s') :
    wpAny (model X.prog X.w) A (compareOp .In u (.ref a)) Q E s := by
  obtain ⟨xs, b, ks, e, hd, hn, hk, rfl, hb, ro⟩ := g.h
  cases (show u = Value.ref b from ry)
  refine wpAny_in_heap (knd := tKd X) (tupleKind_room_in1 hu) (tkey_of I hb) hd (tdat_of I e hk hn) ?_
  have q := ro.isSome_eq
  rw [Option.isSome_map] at q
  rw [← q]
  exact h _ (I.tok _)
theorem t_notIn {Q : Value → Shared → Prop} (hu : A.units + 1 < cLine) (I : Inv X pins σ H s) (g : TGet X H a y o) (ry : RelV y u) (h : ∀ s', Inv X pins σ H s' → Q (.bool (!o.isSome)) s') :
    wpAny (model X.prog X.w) A (compareOp .NotIn u (.ref a)) Q E s := by
  obtain ⟨xs, b, ks, e, hd, hn, hk, rfl, hb, ro⟩ := g.h
  cases (show u = Value.ref b from ry)
  refine PyProof.Rows.wpAny_notIn_heap (knd := tKd X) (tupleKind_room_in1 hu) (tkey_of I hb) hd (tdat_of I e hk hn) ?_
  have q := ro.isSome_eq
  rw [Option.isSome_map] at q
  rw [← q]
  exact h _ (I.tok _)
theorem t_get2 {d : L2.V} {Q : Value → Shared → Prop} (hu : A.units + 1 < cLine) (I : Inv X pins σ H s) (g : TGet X H a y o) (ry : RelV y u) (rd : RelV d r) (h : ∀ w' s', Inv X pins σ H s' → RelV (o.getD d) w' → Q w' s') :
    wpAny (model X.prog X.w) A (call (.builtin "dict.get") [.ref a, u, r]) Q E s := by
  obtain ⟨xs, b, ks, e, hd, hn, hk, rfl, hb, ro⟩ := g.h
  cases (show u = Value.ref b from ry)
  have dd := tdat_of I e hk hn
  refine call_meetsIn PySem.F.slot_dict_get dd.typeIs PySem.F.entry_dict_get (PySem.F.args_dict_get_3 _ _ _) (meetsH_dict_get_default (tKd X) a b hd r) ⟨tupleKind_room_in1 hu, ks, xs, tkey_of I hb, dd, h _ _ (I.tok _) ?_⟩
  exact ro.getD rd
theorem t_setItem {xs : List (List Int × Addr × Value)} {ks : List Int} {Q : Unit → Shared → Prop} (hu : A.units + 1 < cLine) (I : Inv X pins σ H s) (e : H a = some (.ext (TDat xs a))) (hn : (xs.map (·.1)).Nodup) (hk : ∀ x ∈ xs, TupX X.K H x.2.1 (x.1.map L2.V.int)) (hl : xs.length ≤ sizeLine)
    (hb : TupX X.K H b (ks.map L2.V.int)) (h : ∀ s', Inv X pins σ (upd H a (.ext (TDat (storedH xs ks b r) a))) s' → Q () s') :
    wpAny (model X.prog X.w) A (setItem (.ref a) (.ref b) r) Q E s := by
  refine wpAny_setItem_heap (knd := tKd X) (hsz := hl) (tupleKind_room_in1 hu) (tkey_of I hb) (tdat_of I e hk hn) fun h' dd' hs => h _ ?_
  obtain ⟨q, es, ep, hq, h2, h3, h4, _, h5⟩ := dd'
  exact d_write I (by rw [e]; exact True.intro) hs ⟨q, hq⟩ (tdat_new ⟨q, es, ep, hq, h2, h3, h4⟩)
end
/-! ### rules -/
section
variable {X : Cx} {o i e value : Expr} {pos pos' tpos : Pos} {td ty tv : TE}
theorem TGet.typeIs {pins : List (Addr × Obj)} {σ : L2.St} {H : Hp} {s : Shared} {a : Addr} {y : L2.V} {o : Option L2.V} (I : Inv X pins σ H s) (g : TGet X H a y o) : s.TypeIs (.ref a) "dict" := by
  obtain ⟨xs, b, ks, e, hd, hn, hk, _⟩ := g.h
  exact (tdat_of I e hk hn).typeIs
theorem pe_tget (hu : X.A.units + 1 < cLine) (ho : PE X o td) (hi : PE X i ty) (hs : NoSl i) : PE X (.Subscript o i pos) (fun σ H Q => td σ H fun x H1 => ty σ H1 fun y H2 => ∃ a v, x = .ref a ∧ TGet X H2 a y (some v) ∧ Q v H2) := by
  refine ⟨fun pins s σ H Q I h => ?_⟩
  refine subD_of PySem.F.slot_dict_getitem.lookup hs (thn (ho.run pins s σ H _ I h) fun u s1 ⟨x, H1, I1, rx, q1⟩ => thn (hi.run pins s1 σ H1 _ I1 q1) fun iv s2 ⟨y, H2, I2, ry, a, v, ex, g, q2⟩ => ?_)
  subst ex
  obtain rfl : u = Value.ref a := rx
  exact ⟨g.typeIs I2, t_getItem hu I2 g ry fun w' s3 I3 rw' => ⟨v, H2, I3, rw', q2⟩⟩
theorem pc_tin (hu : X.A.units + 1 < cLine) (hi : PE X i ty) (ho : PE X o td) : PC X .In i o (fun σ H Q => ty σ H fun y H1 => td σ H1 fun x H2 => ∃ a o, x = .ref a ∧ TGet X H2 a y o ∧ Q (.bl o.isSome) H2) := by
  refine ⟨fun pins s σ H Q I h => ?_⟩
  refine thn (hi.run pins s σ H _ I h) fun iv s1 ⟨y, H1, I1, ry, q1⟩ => thn (ho.run pins s1 σ H1 _ I1 q1) fun u s2 ⟨x, H2, I2, rx, a, ov, ex, g, q2⟩ => ?_
  subst ex
  obtain rfl : u = Value.ref a := rx
  exact t_in hu I2 g ry fun s3 I3 => ⟨.bl ov.isSome, H2, I3, rfl, q2⟩
theorem pc_tnotin (hu : X.A.units + 1 < cLine) (hi : PE X i ty) (ho : PE X o td) : PC X .NotIn i o (fun σ H Q => ty σ H fun y H1 => td σ H1 fun x H2 => ∃ a o, x = .ref a ∧ TGet X H2 a y o ∧ Q (.bl (!o.isSome)) H2) := by
  refine ⟨fun pins s σ H Q I h => ?_⟩
  refine thn (hi.run pins s σ H _ I h) fun iv s1 ⟨y, H1, I1, ry, q1⟩ => thn (ho.run pins s1 σ H1 _ I1 q1) fun u s2 ⟨x, H2, I2, rx, a, ov, ex, g, q2⟩ => ?_
  subst ex
  obtain rfl : u = Value.ref a := rx
  exact t_notIn hu I2 g ry fun s3 I3 => ⟨.bl (!ov.isSome), H2, I3, rfl, q2⟩
theorem ps_tput (hu : X.A.units + 1 < cLine) (ho : PE X o td) (hi : PE X i ty) (hv : PE X value tv) (hs : swapsWith value (some (.Subscript o i pos')) pos.line X.env = pure false) :
    PS X (.Assign [.Subscript o i pos'] value pos) (fun D σ H => tv σ H fun v H1 => td σ H1 fun x H2 => ty σ H2 fun y H3 => ∃ a b xs ks, x = .ref a ∧ y = .ref b ∧ H3 a = some (.ext (TDat xs a)) ∧ (xs.map (·.1)).Nodup ∧ (∀ x ∈ xs, TupX X.K H3 x.2.1 (x.1.map L2.V.int)) ∧ xs.length ≤ sizeLine ∧ TupX X.K H3 b (ks.map L2.V.int) ∧
      ∀ r, RelV v r → D.nx σ (upd H3 a (.ext (TDat (storedH xs ks b r) a)))) := by
  refine ⟨fun pins s σ H D I h => ?_⟩
  refine wpAny_Assign_Subscript (thn (hv.run pins s σ H _ I h) fun r s1 ⟨v, H1, I1, rv, q1⟩ => thn (ho.run pins s1 σ H1 _ I1 q1) fun u s2 ⟨x, H2, I2, rx, q2⟩ => thn (hi.run pins s2 σ H2 _ I2 q2) fun iv s3 ⟨y, H3, I3, ry, a, b, xs, ks, ex, ey, g1, g2, g3, g4, g5, q3⟩ => ?_) hs
  subst ex
  subst ey
  obtain rfl : u = Value.ref a := rx
  obtain rfl : iv = Value.ref b := ry
  exact t_setItem hu I3 g1 g2 g3 g4 g5 fun s4 I4 => ⟨σ, _, I4, q3 r rv⟩
theorem pe_tnew : PE X (.Dict [] [] pos) (fun _ H Q => ∀ p, H p = none → (p == sysModules) = false → Q (.ref p) (upd H p (.ext (TDat [] p)))) := ⟨fun pins s σ H Q I h => by
  have hp : (s.heap.objs.size == sysModules) = false := beq_eq_false_iff_ne.mpr (Ne.symm (Nat.ne_of_lt I.big))
  exact wpAny_Dict_empty ⟨.ref s.heap.objs.size, _, I.laid (a := s.heap.objs.size) (o := .ext (TDat [] s.heap.objs.size)) (t' := s.toks) (fun _ _ q => Heap.get?_push_of_some _ q) (Nat.le_refl _)
    (tdat_new ⟨_, #[], 0, Heap.get?_push_size _ rfl, ⟨rfl, rfl, rfl⟩, rfl, rfl⟩), rfl, h _ (I.hok.fresh (Nat.le_refl _)) hp⟩⟩
end
/-! ### the core -/
section
variable {N : List Str} {sc : Scope} {CX : CXT} {φ : Orc} {ex ey ez big : Expr} {exs : List Expr}
theorem tAt_inv {v : V} {x : D} {q : List (List Int × D) × List Int} (h : tAt v x = some q) : v = .t q.1 ∧ x = .tuple (q.2.map .int) := by
  unfold tAt at h
  split at h
  · obtain ⟨k, h1, rfl⟩ := Option.map_eq_some_iff.mp h
    exact ⟨rfl, by rw [ints_eq h1]⟩
  · cases h
theorem tget_of {K : Frag} {F H : Hp} {a b : Addr} {X : Cx} {xs : List (List Int × Addr × Value)} {kts : List (List Int × D)} {ks : List Int} (hK : X.K = K) (sb : Sub F H) (h2 : H a = some (.ext (TDat xs a))) (r : TkR K F xs kts) (ok : TkOk a kts) (hb : TupX K F b (ks.map L2.V.int)) {o : Option L2.V} (ro : RelO o ((atKey xs ks).map (·.2))) : TGet X H a (.ref b) o := by
  subst hK
  exact ⟨⟨xs, b, ks, h2, ok.1, by rw [r.keys]; exact ok.2, fun x hx => sb.tupX (r.allKeys x hx), rfl, sb.tupX hb, ro⟩⟩
theorem rp_key {K : Frag} {F : Hp} {v : L2.V} {ks : List Int} (r : Rp K F v (.tuple (ks.map .int))) : ∃ b, v = .ref b ∧ TupX K F b (ks.map L2.V.int) := by
  cases r with
  | tup h1 h2 => rw [vs_ints h2] at h1; exact ⟨_, rfl, h1⟩
theorem relO_of {K : Frag} {F : Hp} {xs : List (List Int × Addr × Value)} {kts : List (List Int × D)} (r : TkR K F xs kts) (ks : List Int) : ∃ o, RelO o ((atKey xs ks).map (·.2)) ∧ o.isSome = (tGet kts ks).isSome ∧ ∀ x, tGet kts ks = some x → ∃ v, o = some v ∧ Rp K F v x := by
  cases h : tGet kts ks with
  | none => exact ⟨none, by rw [r.none h]; exact True.intro, rfl, fun x hx => by cases hx⟩
  | some x =>
    obtain ⟨b, u, v, e, rv, rx⟩ := r.some h
    exact ⟨some v, by rw [e]; exact rv, rfl, fun y hy => by cases hy; exact ⟨v, rfl, rx⟩⟩
theorem fresh_td {K : Frag} {F H F1 H1 : Hp} {σ : L2.St} {e e1 : Env} {p : Addr} (q : Post K F H σ e F1 H1 σ e1) (hp : H1 p = none) (hs : (p == sysModules) = false) :
    Post K F H σ e F1 (upd H1 p (.ext (TDat [] p))) σ e1 ∧ ResR K F1 (upd H1 p (.ext (TDat [] p))) σ e1 (.t []) (.ref p) ∧ From H σ e (.t []) (.ref p) := by
  refine ⟨q.trans (Post.fresh q.rel hp _), ⟨p, [], rfl, upd_same, ?_, ⟨.nil, hs, List.nodup_nil⟩, fun h => ?_⟩, fun a ha => ?_⟩
  · cases z : F1 p with
    | none => rfl
    | some u => have := q.rel.sub p u z; rw [hp] at this; cases this
  · exact q.rel.fresh_not hp _ h
  · cases ha
    exact .inl (q.dom p hp)
theorem se_tnew {pos : Pos} : SE N sc CX (.Dict [] [] pos) φ (evalE φ .tnew) := by
  intro X G e w e' hr F H σ Q rel k
  simp only [evalE] at hr
  cases hr
  refine RE.of pe_tnew fun p hp hs => ?_
  obtain ⟨z1, z2, z3⟩ := fresh_td (Post.refl rel) hp hs
  exact k _ _ _ z1 z2 z3
theorem se_tin {b : Bool} {i : Nat} {x : Str} {p pos : Pos} {a : E} (hi : N[i]? = some x) (hv : isVis sc x = true) (hp : plainName x = true) (ha : SD N sc CX ex φ (daW (evalE φ a))) :
    SE N sc CX (.Compare ex [if b then .In else .NotIn] [.Name x p] pos) φ (evalE φ (.tin b i a)) := by
  intro X G e w e' hr F H σ Q rel k
  simp only [evalE] at hr
  split at hr
  case isFalse => cases hr
  obtain ⟨⟨y, e1⟩, r1, r2⟩ := bind_inv hr
  dsimp only at r2
  split at r2
  case h_2 => cases r2
  rename_i q hq
  obtain ⟨g1, rfl⟩ := tAt_inv hq
  cases r2
  have fin : ∀ (v : L2.V) (F1 H1 : Hp), Post X.K F H σ e F1 H1 σ e' → Rp X.K F1 v (.tuple (q.2.map .int)) → ∃ c o, σ[i]? = some (some (.ref c)) ∧ TGet X H1 c v o ∧ o.isSome = (tGet q.1 q.2).isSome := fun v F1 H1 p1 d1 => by
    obtain ⟨c, xs, h1, h2, h3, h4, h5⟩ := p1.rel.tdAt g1
    obtain ⟨b', rfl, hb⟩ := rp_key d1
    obtain ⟨o, ro, eo, _⟩ := relO_of h4 q.2
    exact ⟨c, o, h1, tget_of rfl p1.rel.sub h2 h4 h5 hb ro, eo⟩
  cases b with
  | true =>
    refine RE.of (pe_cmp (pc_tin G.unit1 (peE ex) (pe_name G hi hv hp)) rfl) (ha X G e _ _ r1 F H σ _ rel fun v F1 H1 p1 d1 => ?_)
    obtain ⟨c, o, h1, h2, h3⟩ := fin v F1 H1 p1 d1
    refine ⟨_, h1, c, _, rfl, h2, k _ F1 H1 p1 ?_ trivial⟩
    rw [h3]
    cases (tGet q.1 q.2).isSome <;> exact .bl _
  | false =>
    refine RE.of (pe_cmp (pc_tnotin G.unit1 (peE ex) (pe_name G hi hv hp)) rfl) (ha X G e _ _ r1 F H σ _ rel fun v F1 H1 p1 d1 => ?_)
    obtain ⟨c, o, h1, h2, h3⟩ := fin v F1 H1 p1 d1
    refine ⟨_, h1, c, _, rfl, h2, k _ F1 H1 p1 ?_ trivial⟩
    rw [h3]
    cases (tGet q.1 q.2).isSome <;> exact .bl _
theorem st_tin {b : Bool} {i : Nat} {x : Str} {p pos : Pos} {a : E} (hi : N[i]? = some x) (hv : isVis sc x = true) (hp : plainName x = true) (ha : SD N sc CX ex φ (daW (evalE φ a))) :
    ST N sc CX (.Compare ex [if b then .In else .NotIn] [.Name x p] pos) φ (evalT φ (.e (.tin b i a))) := by
  intro X G e w e' hr F H σ Q rel k
  obtain ⟨o2, x', r1, r2, r3⟩ := evalT_e hr
  obtain ⟨⟨w2, e2⟩, r4, r5⟩ := bind_inv (r := evalE φ (.tin b i a) e) (f := fun p => R.ok (Opd.v p.1, p.2)) r1
  cases r5
  simp only [evalE] at r4
  split at r4
  case isFalse => cases r4
  obtain ⟨⟨y, e1⟩, t1, t2⟩ := bind_inv r4
  dsimp only at t2
  split at t2
  case h_2 => cases t2
  rename_i q hq
  obtain ⟨g1, rfl⟩ := tAt_inv hq
  cases t2
  have hx : x' = .bool ((tGet q.1 q.2).isSome == b) := by cases r2; rfl
  subst hx
  have hw : w = ((tGet q.1 q.2).isSome == b) := by cases r3; rfl
  subst hw
  have fin : ∀ (e3 : Env) (v : L2.V) (F1 H1 : Hp), get e3 i = .t q.1 → Post X.K F H σ e F1 H1 σ e3 → Rp X.K F1 v (.tuple (q.2.map .int)) → ∃ c o, σ[i]? = some (some (.ref c)) ∧ TGet X H1 c v o ∧ o.isSome = (tGet q.1 q.2).isSome := fun e3 v F1 H1 g1 p1 d1 => by
    obtain ⟨c, xs, h1, h2, h3, h4, h5⟩ := p1.rel.tdAt g1
    obtain ⟨b', rfl, hb⟩ := rp_key d1
    obtain ⟨o, ro, eo, _⟩ := relO_of h4 q.2
    exact ⟨c, o, h1, tget_of rfl p1.rel.sub h2 h4 h5 hb ro, eo⟩
  cases b with
  | true =>
    refine RT.of (pt_cmp (pc_tin G.unit1 (peE ex) (pe_name G hi hv hp)) rfl) (ha X G e _ _ t1 F H σ _ rel fun v F1 H1 p1 d1 => ?_)
    obtain ⟨c, o, h1, h2, h3⟩ := fin _ v F1 H1 g1 p1 d1
    refine ⟨_, h1, c, _, rfl, h2, _, rfl, ?_⟩
    rw [h3]
    have := k F1 H1 p1
    revert this
    cases (tGet q.1 q.2).isSome <;> exact id
  | false =>
    refine RT.of (pt_cmp (pc_tnotin G.unit1 (peE ex) (pe_name G hi hv hp)) rfl) (ha X G e _ _ t1 F H σ _ rel fun v F1 H1 p1 d1 => ?_)
    obtain ⟨c, o, h1, h2, h3⟩ := fin _ v F1 H1 g1 p1 d1
    refine ⟨_, h1, c, _, rfl, h2, _, rfl, ?_⟩
    rw [h3]
    have := k F1 H1 p1
    revert this
    cases (tGet q.1 q.2).isSome <;> exact id
theorem se_tget {i : Nat} {x : Str} {p pos : Pos} {a : E} (hi : N[i]? = some x) (hv : isVis sc x = true) (hp : plainName x = true) (hsl : isSl ex = false) (ha : SD N sc CX ex φ (daW (evalE φ a))) :
    SE N sc CX (.Subscript (.Name x p) ex pos) φ (evalE φ (.tget i a)) := by
  intro X G e w e' hr F H σ Q rel k
  simp only [evalE] at hr
  split at hr
  case isFalse => cases hr
  rename_i hc
  obtain ⟨xs0, g0⟩ := isTd_of hc
  obtain ⟨⟨y, e1⟩, r1, r2⟩ := bind_inv hr
  dsimp only at r2
  split at r2
  case h_2 => cases r2
  rename_i q hq
  obtain ⟨g1, rfl⟩ := tAt_inv hq
  split at r2
  case h_2 => cases r2
  rename_i z hz
  cases r2
  obtain ⟨c, xs, h1, h2, h3, h4, h5⟩ := rel.tdAt g0
  refine RE.of (pe_tget G.unit1 (pe_name G hi hv hp) (peE ex) (by cases ex <;> first | (intro ov iv; rfl) | cases hsl)) ⟨_, h1, ha X G e _ _ r1 F H σ _ rel fun v F1 H1 p1 d1 => ?_⟩
  obtain ⟨c', xs', h1', h2', h3', h4', h5'⟩ := p1.rel.tdAt g1
  rw [h1] at h1'; cases h1'
  obtain ⟨b', rfl, hb⟩ := rp_key d1
  obtain ⟨o, ro, eo, fo⟩ := relO_of h4' q.2
  obtain ⟨u, rfl, ru⟩ := fo z hz
  exact ⟨c, u, rfl, tget_of rfl p1.rel.sub h2' h4' h5' hb ro, k _ F1 H1 p1 ru trivial⟩
theorem ty_td {X : Cx} {σ : L2.St} {H : Hp} {a : Addr} {xs : List (List Int × Addr × Value)} (h : H a = some (.ext (TDat xs a))) : Ty X "dict" (.ref a) σ H := fun pins s v I r => by
  cases r
  obtain ⟨⟨o, es, ep, h1, h2, h3, h4⟩, _⟩ := (show ObjOk X.prog X.w H s.heap a (.ext (TDat xs a)) from I.hok a _ h)
  exact ⟨⟨o, h1, h2.1⟩, fun b e => by cases e; exact ⟨o, h1, h2.2.1⟩⟩
theorem mt_tget2 {X : Cx} (hu : X.A.units + 1 < cLine) : MtR X "dict.get" fun x vs H Q => ∃ a y d o, x = .ref a ∧ vs = [y, d] ∧ TGet X H a y o ∧ Q (o.getD d) H := by
  intro pins s σ H x vs v us Q I rx rv h
  obtain ⟨a, y, d, o, rfl, rfl, g, q⟩ := h
  cases rx
  obtain ⟨u1, u2, rfl, r1, r2⟩ := vals2 rv
  exact t_get2 hu I g r1 r2 fun w' s' I' rw' => ⟨_, H, I', rw', q⟩
theorem se_tgtd {i : Nat} {x : Str} {p apos cpos : Pos} {a b : E} (hi : N[i]? = some x) (hv : isVis sc x = true) (hp : plainName x = true) (ha : SD N sc CX ey φ (daW (evalE φ a))) (hb : SD N sc CX ez φ (daW (evalE φ b)))
    (hline : (apos.endLine == cpos.line) = true) (hn : noStar ey = true) (hn' : noStar ez = true) : SE N sc CX (.Call (.Attribute (.Name x p) (Str.ofString "get") apos) [ey, ez] [] cpos) φ (evalE φ (.tgtd i a b)) := by
  intro X G e w e' hr F H σ Q rel k
  simp only [evalE] at hr
  split at hr
  case isFalse => cases hr
  rename_i hc
  obtain ⟨xs0, g0⟩ := isTd_of hc
  obtain ⟨⟨y, e1⟩, r1, r2⟩ := bind_inv hr
  obtain ⟨⟨z, e2⟩, r3, r4⟩ := bind_inv r2
  dsimp only at r4
  split at r4
  case h_2 => cases r4
  rename_i q hq
  obtain ⟨g1, rfl⟩ := tAt_inv hq
  cases r4
  obtain ⟨c, xs, h1, h2, h3, h4, h5⟩ := rel.tdAt g0
  refine RE.of (pe_m2 PySem.F.plainAttrs_dict PySem.F.slot_dict_get PySem.F.type_dict_get (mt_tget2 G.unit1) rfl hline hn hn') ?_
  refine RE.of (pe_name G hi hv hp) ⟨_, h1, ty_td h2, ha X G e _ e1 r1 F H σ _ rel fun v F1 H1 p1 d1 => hb X G e1 _ _ r3 F1 H1 σ _ p1.rel fun v2 F2 H2 p2 d2 => ?_⟩
  obtain ⟨c', xs', h1', h2', h3', h4', h5'⟩ := p2.rel.tdAt g1
  rw [h1] at h1'; cases h1'
  obtain ⟨b', rfl, hb'⟩ := rp_key (p2.grow.rp _ _ d1)
  obtain ⟨o, ro, eo, fo⟩ := relO_of h4' q.2
  refine ⟨c, _, v2, o, rfl, rfl, tget_of rfl p2.rel.sub h2' h4' h5' hb' ro, k _ F2 H2 (p1.trans p2) ?_ trivial⟩
  cases hz : tGet q.1 q.2 with
  | none =>
    rw [hz] at eo
    cases o with
    | none => exact d2
    | some _ => cases eo
  | some u =>
    obtain ⟨u', rfl, ru⟩ := fo u hz
    exact ru
theorem ss_tst {pr : Nat → Bool} {i : Nat} {x : Str} {p p2 pos : Pos} {ix a : E} (hi : N[i]? = some x) (hv : isVis sc x = true) (hp : plainName x = true) (h : SD N sc CX ex φ (daW (evalE φ a))) (h2 : SD N sc CX ey φ (daW (evalE φ ix))) :
    SS N sc CX pr (.Assign [.Subscript (.Name x p) ey p2] ex pos) φ (exec φ (.tst i ix a)) := by
  intro X G e F H σ Dn rel k
  simp only [exec] at k
  obtain ⟨⟨d, e1⟩, r1, k⟩ := ofR_ok' k
  dsimp only at k
  split at k
  case isFalse => exact False.elim k
  rename_i hc
  obtain ⟨⟨y, e2⟩, r2, k⟩ := ofR_ok' k
  dsimp only at k
  split at k
  case h_2 => exact False.elim k
  rename_i q hq
  obtain ⟨g1, rfl⟩ := tAt_inv hq
  split at k
  case isFalse => exact False.elim k
  rename_i hl
  obtain ⟨xs0, g0⟩ := isTd_of hc
  refine RS.of (ps_tput G.toGood.unit1 (pe_name G.toGood hi hv hp) (peE ey) (peE ex) (by cases ex <;> rfl)) (h X G.toGood e d e1 r1 F H σ _ rel fun v F1 H1 p1 d1 => ?_)
  obtain ⟨c, xs, h1, h3, _, _⟩ := p1.rel.tdAt g0
  refine ⟨_, h1, h2 X G.toGood e1 _ e2 r2 F1 H1 σ _ p1.rel fun u F2 H2 p2 d2 => ?_⟩
  obtain ⟨c', xs', h1', h2', h3', h4', h5'⟩ := p2.rel.tdAt g1
  rw [h1] at h1'; cases h1'
  obtain ⟨b', rfl, hb'⟩ := rp_key d2
  refine ⟨c, b', xs', q.2, rfl, rfl, h2', by rw [h4'.keys]; exact h5'.2, fun x hx => p2.rel.sub.tupX (h4'.allKeys x hx), by rw [h4'.len]; exact Nat.le_of_lt hl, p2.rel.sub.tupX hb', fun r rv => ?_⟩
  exact k σ F2 _ ((p1.trans p2).trans (Post.tdt p2.rel g1 h1 (h4'.put hb' rv (p2.grow.rp _ _ d1)) ⟨h5'.1, tPut_keys h5'.2⟩)) Kept.refl
end
end Sw
end T_SwFt
section T_SwFu
set_option autoImplicit false
set_option linter.all false
set_option Elab.async false
set_option maxRecDepth 100000
/-! SwFu: x[lo::k] of lists. -/
namespace Sw
open PySem PySem.Spec L2
theorem pickK_len {α : Type} (xs : List α) (i k : Nat) (hk : 0 < k) : (pickK xs i k).length ≤ xs.length := by
  refine Nat.le_trans (List.length_filterMap_le _ _) ?_
  rw [List.length_range]
  rcases Nat.eq_zero_or_pos xs.length with z | z
  · rw [z, Nat.zero_sub, Nat.zero_add, Nat.div_eq_of_lt (by omega)]
    exact Nat.le_refl 0
  · refine Nat.div_le_of_le_mul ?_
    obtain ⟨n, hn⟩ : ∃ n, xs.length = n + 1 := ⟨xs.length - 1, by omega⟩
    obtain ⟨m, hm⟩ : ∃ m, k = m + 1 := ⟨k - 1, by omega⟩
    have e : k * xs.length = m * n + n + m + 1 := by
      rw [hn, hm, Nat.mul_succ, Nat.succ_mul]
      omega
    rw [e]
    have := Nat.zero_le (m * n)
    omega
theorem slice_pick {its : List Value} {i : Int} {k : Nat} (h0 : 0 ≤ i) (h1 : i ≤ (its.length : Int)) (hk : 0 < k) : slicePick its.toArray (some i) none (some (k : Int)) = (pickK its i.toNat k).toArray := by
  unfold slicePick
  have eb : sliceBounds (some i) none (some (k : Int)) its.toArray.size = (i, (its.length : Int), (k : Int)) := by
    unfold sliceBounds
    have hk' : (k : Int) > 0 := by omega
    simp only [Option.getD_some, hk', if_true, List.size_toArray]
    rw [if_neg (by omega)]
    congr 1
    omega
  rw [eb]
  show ((sliceRange i (its.length : Int) (k : Int)).filterMap (its.toArray[·]?)).toArray = _
  have er : sliceRange i (its.length : Int) (k : Int) = (List.range ((its.length - i.toNat + k - 1) / k)).map fun j => i.toNat + j * k := by
    unfold sliceRange
    have hk' : (k : Int) > 0 := by omega
    simp only [hk', if_true]
    have ec : (if i < (its.length : Int) then ((its.length : Int) - i + k - 1) / k else 0).toNat = (its.length - i.toNat + k - 1) / k := by
      split
      · rename_i hl
        have : ((its.length : Int) - i + k - 1) = ((its.length - i.toNat + k - 1 : Nat) : Int) := by omega
        rw [this]
        rw [← Int.natCast_ediv]
        exact Int.toNat_natCast _
      · rename_i hl
        have : its.length - i.toNat + k - 1 = k - 1 := by omega
        rw [this, Nat.div_eq_of_lt (by omega)]; rfl
    rw [ec]
    refine List.map_congr_left fun j _ => ?_
    have : i + (k : Int) * (j : Int) = ((i.toNat + j * k : Nat) : Int) := by
      rw [Int.natCast_add, Int.natCast_mul, Int.mul_comm]
      omega
    rw [this]; exact Int.toNat_natCast _
  rw [er, List.filterMap_map]
  unfold pickK
  refine congrArg List.toArray (congrArg (fun g => List.filterMap g _) (funext fun j => ?_))
  simp
theorem vals_pick : ∀ {vs : List L2.V} {us : List Value}, Vals vs us → ∀ (l : List Nat), Vals (l.filterMap (vs[·]?)) (l.filterMap (us[·]?))
  | vs, us, r, [] => .nil
  | vs, us, r, j :: l => by
    rw [List.filterMap_cons, List.filterMap_cons]
    by_cases h : j < vs.length
    · have h2 : j < us.length := by rw [← r.length]; exact h
      obtain ⟨u, hu, ru⟩ := r.get (List.getElem?_eq_getElem h)
      rw [List.getElem?_eq_getElem h, hu]
      exact .cons ru (vals_pick r l)
    · have h2 : ¬ j < us.length := by rw [← r.length]; exact h
      rw [List.getElem?_eq_none (by omega), List.getElem?_eq_none (by omega)]
      exact vals_pick r l
theorem pick_alt {α : Type} (xs : List α) (i k : Nat) : pickK xs i k = ((List.range ((xs.length - i + k - 1) / k)).map fun j => i + j * k).filterMap (xs[·]?) := by
  unfold pickK
  rw [List.filterMap_map]; rfl
theorem pe_stepL {X : Cx} {e ey : Expr} {te ty : TE} {n : Nat} {p1 p3 pos : Pos} {kk : _} (hn : 0 < n) (he : PE X e te) (hy : PE X ey ty) : PE X (.Subscript e (.Slice (some ey) none (some (.Constant (.int (n : Int)) kk p1)) p3) pos)
    (fun σ H Q => te σ H fun x H1 => tPart ty σ H1 fun o H2 => ∃ a xs i, x = .ref a ∧ o = some i ∧ SqL X.K H2 a xs ∧ 0 ≤ i ∧ i ≤ (xs.length : Int) ∧ ∀ p, H2 p = none → Q (.ref p) (upd H2 p (.lst (pickK xs i.toNat n)))) := by
  refine ⟨fun pins s σ H Q I h => ?_⟩
  refine PyProof.Rows.Subscript_ (thn (he.run pins s σ H _ I h) fun v s1 ⟨x, H1, I1, r1, q1⟩ => ?_)
  have hst : PO X (some (.Constant (.int (n : Int)) kk p1)) (tPart (tC (.int (n : Int)))) := po_some pe_int
  refine wpAny_Slice (thn ((po_some hy).run pins s1 σ H1 _ I1 q1) fun vl s2 ⟨l, H2, I2, pl, a, xs, i, ex, el, hx, h0, h1, q⟩ => ?_)
  subst ex
  subst el
  cases r1
  refine thn (po_none.run pins s2 σ H2 (fun o H3 => o = none ∧ H3 = H2) I2 ⟨rfl, rfl⟩) fun vu s3 ⟨u, H3, I3, pu, eu, e3⟩ => ?_
  subst eu e3
  refine thn (hst.run pins s3 σ H3 (fun o H4 => o = some (n : Int) ∧ H4 = H3) I3 ⟨(n : Int), rfl, rfl, rfl⟩) fun vs s4 ⟨o, H4, I4, ps, eo, e4⟩ => ?_
  subst eo e4
  have I5 : Inv X pins σ H4 { s4 with heap := s4.heap.push { cls := .type "slice", data := .fields #[vl, vu, vs] } } := I4.kept (t' := s4.toks) fun b ob q => Heap.get?_push_of_some _ q
  obtain ⟨its, r, ht, hz⟩ := I5.list hx
  have hlen := r.length
  refine (show wpAny (model X.prog X.w) X.A (PyProof.Rows.subscriptTail e (.Slice (some ey) none (some (.Constant (.int (n : Int)) kk p1)) p3) (.ref a) (.ref s4.heap.objs.size)) (EP X pins σ Q) X.xe { s4 with heap := s4.heap.push { cls := .type "slice", data := .fields #[vl, vu, vs] } } from ?_)
  refine PyProof.Rows.tail_any (ops := [.ref a, .ref s4.heap.objs.size]) ht.isList.typeIs (PySem.slot_list_getitem.lookup) ?_ (by with_unfolding_all rfl)
  refine wpAny_getItem_list_slice ht.isList (Heap.IsSliceOf.new _ vl vu vs) pl pu ps (by simp; omega) ?_ (by rw [List.size_toArray]; omega)
  rw [slice_pick h0 (by omega) hn]
  have hp : Vals (pickK xs i.toNat n) (pickK its i.toNat n) := by
    rw [pick_alt, pick_alt, hlen]
    exact vals_pick r _
  refine ⟨.ref _, _, I5.laid (t' := s4.toks) (o := .lst (pickK xs i.toNat n)) (fun b ob q => Heap.get?_push_of_some _ q) (Nat.le_refl _) ?_, rfl, q _ (I5.hok.fresh (Nat.le_refl _))⟩
  exact ⟨Nat.le_trans (pickK_len xs _ _ hn) hz, _, 0, hp, Heap.get?_push_size _ rfl⟩
section
variable {N : List Str} {sc : Scope} {CX : CXT} {φ : Orc} {ex ey : Expr}
theorem rpAll_pick {K : Frag} {F : Hp} {vs : List L2.V} {ds : List D} (h : RpAll K F vs ds) : ∀ l : List Nat, RpAll K F (l.filterMap (vs[·]?)) (l.filterMap (ds[·]?))
  | [] => .nil
  | j :: l => by
    rw [List.filterMap_cons, List.filterMap_cons]
    by_cases hj : j < ds.length
    · obtain ⟨v, e, r⟩ := rpAll_get h (List.getElem?_eq_getElem hj)
      rw [e, List.getElem?_eq_getElem hj]
      exact .cons r (rpAll_pick h l)
    · have h2 : ¬ j < vs.length := by rw [rpAll_len h]; exact hj
      rw [List.getElem?_eq_none (by omega), List.getElem?_eq_none (by omega)]
      exact rpAll_pick h l
theorem se_sstep {a lo : E} {n : Nat} {p1 p3 pos : Pos} {kk : _} (hn : 0 < n) (ha : SO N sc CX ex φ (opW (evalE φ a) a)) (hl : SD N sc CX ey φ (daW (evalE φ lo))) :
    SE N sc CX (.Subscript ex (.Slice (some ey) none (some (.Constant (.int (n : Int)) kk p1)) p3) pos) φ (evalE φ (.sstep a lo n)) := by
  intro X G e w e' hr F H σ Q rel k
  simp only [evalE] at hr
  obtain ⟨⟨oa, e1⟩, r1, r2⟩ := bind_inv hr
  obtain ⟨⟨l, e2⟩, r3, r4⟩ := bind_inv r2
  obtain ⟨x, r5, r6⟩ := bind_inv r4
  dsimp only at r6
  split at r6
  case h_2 => cases r6
  rename_i xs i
  split at r6
  case isFalse => cases r6
  rename_i hc
  cases r6
  refine RE.of (pe_stepL hn (peE ex) (peE ey)) ?_
  refine ha X G e oa e1 r1 F H σ _ rel fun u0 F1 H1 p1 o1 _ => ?_
  refine hl X G e1 _ _ r3 F1 H1 σ _ p1.rel fun v F2 H2 p2 d2 => ?_
  cases d2
  have p := p1.trans p2
  have vu := (o1.stay p2).view p.rel (ofO_inv r5)
  obtain ⟨b, vs, rfl, h1, h2⟩ := vu.list p.rel.sub
  refine ⟨i, rfl, b, vs, i, rfl, rfl, h1, hc.1, by rw [rpAll_len h2]; exact hc.2.1, fun q hq => ?_⟩
  have hp : RpAll X.K F2 (pickK vs i.toNat n) (pickK xs i.toNat n) := by
    rw [pick_alt, pick_alt, rpAll_len h2]
    exact rpAll_pick h2 _
  obtain ⟨s1, s2, s3⟩ := fresh_res p hq hp
  exact k _ _ _ s1 s2 s3
end
end Sw
end T_SwFu
section T_SwFz
set_option autoImplicit false
set_option linter.all false
set_option Elab.async false
set_option maxRecDepth 100000
set_option maxHeartbeats 1000000
/-! SwFz: zip whose tuples stay whole. -/
namespace Sw
open PySem PySem.Spec L2
abbrev IsZipB (h : Heap) (z TI TO : Addr) (f0 : Value) (b : Bool) : Prop :=
  h.get? z = some { cls := .type "zip", dict := none, data := .fields #[f0, .bool b, .bool false, .ref TI, .ref TO], slots := #[] }
def ZF (v : Value) : Prop := v = .none ∨ ∃ a t, v = .int a t
section
variable {prog : Program} {w : World} {A : Around} {E : Value → Shared → Prop} {s : Shared} {z TI TO i1 i2 : Addr} {fp1 fp2 : List Addr} {n1 n2 i : Nat} {P1 P2 : Nat → Value → Prop} {St1 St2 : Nat → Heap → Prop} {a1 a2 f0 : Value} {b0 : Bool}
theorem alive_ {a : Addr} {M : Model} {Q : Option Obj → Shared → Prop} (h : Q (s.heap.get? a) s) : wpAny M A (loadIfAlive a) Q E s := fun _ _ _ => h
theorem zip_free {Q : Bool → Shared → Prop} (hz : IsZipB s.heap z TI TO f0 b0) (hf : ZF f0) (h : ∀ r b h', IsZipB h' z TI TO f0 b → Heap.SameBut z s.heap h' → Q r { s with heap := h' }) :
    wpAny (model prog w) A (Builtin.SmallTypes.ownedTupleIsFree (.ref z)) Q E s := by
  have same : Heap.SameBut z s.heap s.heap := ⟨rfl, fun b _ => rfl⟩
  unfold Builtin.SmallTypes.ownedTupleIsFree
  refine wpAny_bind (wpAny_field hz rfl (x := f0) rfl ?_)
  rcases hf with rfl | ⟨a, t, rfl⟩
  · exact wpAny_pure (h true b0 s.heap hz same)
  · refine wpAny_bind (alive_ ?_)
    cases hq : s.heap.get? a.toNat with
    | none => exact wpAny_pure (h true b0 s.heap hz same)
    | some o =>
      refine wpAny_bind ?_
      refine wpAny_field hz rfl (x := .bool b0) rfl ?_
      cases b0 with
      | true =>
        exact wpAny_pure (h false true s.heap hz same)
      | false =>
        refine (show wpAny _ _ (setField (.ref z) 1 (.bool true) >>= fun _ => pure false) _ _ _ from ?_)
        exact wpAny_bind (wpAny_setField_rec hz (by simp) fun h' hz' hs' => wpAny_pure (h false true h' hz' hs'))
theorem zipN_item {Q : Value → Shared → Prop} (S : ZipSep2 z TI TO i1 i2 fp1 fp2) (D1 : Draws prog w A i1 fp1 n1 P1 St1) (D2 : Draws prog w A i2 fp2 n2 P2 St2)
    (hz : IsZipB s.heap z TI TO f0 b0) (hf : ZF f0) (hTI : IsTupOf2 s.heap TI (.ref i1) (.ref i2)) (hTO : IsTupOf2 s.heap TO a1 a2) (st1 : St1 i s.heap) (st2 : St2 i s.heap) (hlt1 : i < n1) (hlt2 : i < n2)
    (hQ : ∀ x1 x2 h' tk f1 b1, P1 i x1 → P2 i x2 → ZF f1 → IsZipB h' z TI TO f1 b1 → (∃ c1 c2, IsTupOf2 h' TO c1 c2) → St1 (i + 1) h' → St2 (i + 1) h' → IsTupOf2 h' s.heap.objs.size x1 x2 → h'.objs.size = s.heap.objs.size + 1 →
      (∀ c o, c ≠ z → c ≠ TO → c ≠ i1 → c ≠ i2 → s.heap.get? c = some o → h'.get? c = some o) → Q (.ref s.heap.objs.size) { s with heap := h', toks := tk }) :
    wpAny (model prog w) A (Builtin.«zip.__next__» ⟨[.ref z], []⟩) (fun fin s' => ∃ v, fin = .done (.ret v) ∧ Q v s') E s := by
  obtain ⟨hp, g, d, tk0, os⟩ := s
  show wpAny _ _ (field (.ref z) 2 >>= _) _ _ _
  refine wpAny_bind (wpAny_field hz rfl (x := .bool false) rfl ?_)
  show wpAny _ _ (field (.ref z) 3 >>= _) _ _ _
  refine wpAny_bind (wpAny_field hz rfl (x := .ref TI) rfl ?_)
  refine wpAny_bind (wpAny_seqItems hTI rfl ?_)
  show wpAny _ _ (Builtin.SmallTypes.ownedTupleIsFree (.ref z) >>= _) _ _ _
  refine wpAny_bind (zip_free hz hf fun r b gz hzz0 hsz0 => ?_)
  replace hsz0 : Heap.SameBut z hp gz := hsz0
  cases r with
  | true =>
    simp only [if_true]
    refine wpAny_bind (wpAny_rule ?_)
    refine wpAny_bind (wpAny_field hzz0 rfl (x := .ref TO) rfl ?_)
    refine wpAny_bind (wpAny_setField_rec hzz0 (by simp) fun g0 hz0 hs00 => ?_)
    replace hz0 : IsZipB g0 z TI TO .ellipsis b := hz0
    replace hs00 : Heap.SameBut z gz g0 := hs00
    have hs0 : Heap.SameBut z hp g0 := ⟨by rw [hs00.1, hsz0.1], fun c hc => (hs00.2 c hc).trans (hsz0.2 c hc)⟩
    refine wpAny_bind ?_
    simp only [List.zipIdx_cons, List.zipIdx_nil, List.forIn_cons, List.forIn_nil]
    refine wpAny_bind (wpAny_bind (wpAny_onRaise ?_))
    show wpAny _ _ (Builtin.SmallTypes.nextOf (.ref i1) >>= _) _ _ ⟨g0, g, d, tk0, os⟩
    refine wpAny_bind (D1.item i _ _ _ hlt1 (D1.over st1 hs0 S.zf1) fun x1 p1 tk1 hx1 sn1 hp1 => wpAny_pure ?_)
    replace hp1 : Heap.SameBut i1 g0 p1 := hp1
    have hU1 : IsTupOf2 p1 TO a1 a2 := hp1.extBut _ _ S.Ti1 (hs0.extBut _ _ S.TOz hTO)
    refine wpAny_bind (wpAny_seqItems (s := ⟨p1, g, d, tk1, os⟩) hU1 rfl ?_)
    refine wpAny_bind (updateSeq_IsTupOf2 (s := ⟨p1, g, d, tk1, os⟩) hU1 fun g1 hT1 hs1 => ?_)
    replace hT1 : IsTupOf2 g1 TO x1 a2 := hT1
    replace hs1 : Heap.SameBut TO p1 g1 := hs1
    refine wpAny_bind (wpAny_letGo (wpAny_pure ?_))
    refine wpAny_bind (wpAny_bind (wpAny_onRaise ?_))
    show wpAny _ _ (Builtin.SmallTypes.nextOf (.ref i2) >>= _) _ _ ⟨g1, g, d, tk1, os⟩
    refine wpAny_bind (D2.item i _ _ _ hlt2 (D2.over (D2.over (D2.over st2 hs0 S.zf2) hp1 S.sep1_2) hs1 S.Tf2) fun x2 p2 tk2 hx2 sn2 hp2 => wpAny_pure ?_)
    replace hp2 : Heap.SameBut i2 g1 p2 := hp2
    have hU2 : IsTupOf2 p2 TO x1 a2 := hp2.extBut _ _ S.Ti2 hT1
    refine wpAny_bind (wpAny_seqItems (s := ⟨p2, g, d, tk2, os⟩) hU2 rfl ?_)
    refine wpAny_bind (updateSeq_IsTupOf2 (s := ⟨p2, g, d, tk2, os⟩) hU2 fun g2 hT2 hs2 => ?_)
    replace hT2 : IsTupOf2 g2 TO x1 x2 := hT2
    replace hs2 : Heap.SameBut TO p2 g2 := hs2
    refine wpAny_bind (wpAny_letGo (wpAny_pure (wpAny_pure ?_)))
    refine wpAny_bind (wpAny_seqItems (s := ⟨g2, g, d, tk2, os⟩) hT2 rfl ?_)
    refine wpAny_bind (wpAny_newTuple ?_)
    have hsz : g2.objs.size = hp.objs.size := by rw [hs2.1, hp2.1, hs1.1, hp1.1, hs0.1]
    have hzz : IsZipB g2 z TI TO .ellipsis b := (hs2.extBut _ _ S.TOz.symm (hp2.extBut _ _ S.zi2 (hs1.extBut _ _ S.TOz.symm (hp1.extBut _ _ S.zi1 hz0))))
    have hkk : ∀ c o, c ≠ z → c ≠ TO → c ≠ i1 → c ≠ i2 → hp.get? c = some o → g2.get? c = some o := fun c o cz cT c1 c2 e =>
      (hs2.extBut _ _ cT (hp2.extBut _ _ c2 (hs1.extBut _ _ cT (hp1.extBut _ _ c1 (hs0.extBut _ _ cz e)))))
    have hj1 : St1 (i + 1) g2 := (D1.over (D1.over (D1.over sn1 hs1 S.Tf1) hp2 S.sep2_1) hs2 S.Tf1)
    have hj2 : St2 (i + 1) g2 := (D2.over sn2 hs2 S.Tf2)
    have hzlt : z < g2.objs.size := Heap.lt_size hzz
    show wpAny _ _ (Builtin.SmallTypes.ownedTupleHandOut (.ref z) (.ref g2.objs.size) >>= _) _ _ ⟨g2.push { cls := .type "tuple", data := .seq #[x1, x2] }, g, d, tk2, os⟩
    refine wpAny_bind ?_
    unfold Builtin.SmallTypes.ownedTupleHandOut
    have hz₆ : IsZipB (g2.push { cls := .type "tuple", data := .seq #[x1, x2] }) z TI TO .ellipsis b := Heap.get?_push_of_some _ hzz
    refine wpAny_bind (wpAny_setField_rec hz₆ (by simp) fun h₇ hz₇ hs₇ => ?_)
    replace hz₇ : IsZipB h₇ z TI TO (rawInt g2.objs.size) b := hz₇
    refine wpAny_setField_rec hz₇ (by simp) fun h₈ hz₈ hs₈ => ?_
    replace hz₈ : IsZipB h₈ z TI TO (rawInt g2.objs.size) false := hz₈
    replace hs₇ : Heap.SameBut z (g2.push { cls := .type "tuple", data := .seq #[x1, x2] }) h₇ := hs₇
    replace hs₈ : Heap.SameBut z h₇ h₈ := hs₈
    have up : ∀ c o, c ≠ z → g2.get? c = some o → h₈.get? c = some o := fun c o c1 e => hs₈.extBut _ _ c1 (hs₇.extBut _ _ c1 (Heap.get?_push_of_some _ e))
    have hT₈ : IsTupOf2 h₈ g2.objs.size x1 x2 := hs₈.extBut _ _ (Nat.ne_of_gt hzlt) (hs₇.extBut _ _ (Nat.ne_of_gt hzlt) (Heap.get?_push_size _ rfl))
    have hz8 : h₈.objs.size = g2.objs.size + 1 := by rw [hs₈.1, hs₇.1, Heap.size_push]
    rw [hsz] at hz₈ hT₈ hz8
    refine wpAny_pure ⟨_, rfl, ?_⟩
    show Q (.ref g2.objs.size) ⟨h₈, g, d, tk2, os⟩
    rw [hsz]
    exact hQ x1 x2 h₈ tk2 (rawInt hp.objs.size) false hx1 hx2 (.inr ⟨_, _, rfl⟩) hz₈ ⟨_, _, up _ _ S.TOz hT2⟩ (D1.frame _ _ _ hj1 fun b hb o e => up b o (fun q => S.zf1 (q ▸ hb)) e) (D2.frame _ _ _ hj2 fun b hb o e => up b o (fun q => S.zf2 (q ▸ hb)) e) hT₈ hz8 fun c o cz cT c1 c2 e => up c o cz (hkk c o cz cT c1 c2 e)
  | false =>
    simp only [Bool.false_eq_true, if_false]
    have hs0 := hsz0
    refine wpAny_bind ?_
    rw [← Array.forIn_toList]
    simp only [List.forIn_cons, List.forIn_nil]
    refine wpAny_bind (wpAny_bind (wpAny_holding ?_))
    show wpAny _ _ (Builtin.SmallTypes.nextOf (.ref i1) >>= _) _ _ ⟨gz, g, d, tk0, os⟩
    refine wpAny_bind (D1.item i _ _ _ hlt1 (D1.over st1 hs0 S.zf1) fun x1 p1 tk1 hx1 sn1 hp1 => wpAny_pure ?_)
    replace hp1 : Heap.SameBut i1 gz p1 := hp1
    refine wpAny_pure ?_
    refine wpAny_bind (wpAny_bind (wpAny_holding ?_))
    show wpAny _ _ (Builtin.SmallTypes.nextOf (.ref i2) >>= _) _ _ ⟨p1, g, d, tk1, os⟩
    refine wpAny_bind (D2.item i _ _ _ hlt2 (D2.over (D2.over st2 hs0 S.zf2) hp1 S.sep1_2) fun x2 p2 tk2 hx2 sn2 hp2 => wpAny_pure ?_)
    replace hp2 : Heap.SameBut i2 p1 p2 := hp2
    refine wpAny_pure (wpAny_pure ?_)
    refine wpAny_bind (wpAny_newTuple (hsz := by show 2 ≤ sizeLine; decide) ?_)
    have hsz : p2.objs.size = hp.objs.size := by rw [hp2.1, hp1.1, hs0.1]
    have up : ∀ c o, p2.get? c = some o → (p2.push { cls := .type "tuple", data := .seq #[x1, x2] }).get? c = some o := fun c o e => Heap.get?_push_of_some _ e
    have hkk : ∀ c o, c ≠ z → c ≠ TO → c ≠ i1 → c ≠ i2 → hp.get? c = some o → p2.get? c = some o := fun c o cz cT c1 c2 e => hp2.extBut _ _ c2 (hp1.extBut _ _ c1 (hs0.extBut _ _ cz e))
    refine wpAny_pure ⟨_, rfl, ?_⟩
    show Q (.ref p2.objs.size) ⟨p2.push { cls := .type "tuple", data := .seq #[x1, x2] }, g, d, tk2, os⟩
    rw [hsz]
    refine hQ x1 x2 _ tk2 f0 b hx1 hx2 hf (up _ _ (hp2.extBut _ _ S.zi2 (hp1.extBut _ _ S.zi1 hzz0))) ⟨a1, a2, up _ _ (hp2.extBut _ _ S.Ti2 (hp1.extBut _ _ S.Ti1 (hs0.extBut _ _ S.TOz hTO)))⟩
      (D1.frame _ _ _ (D1.over sn1 hp2 S.sep2_1) fun b hb o e => up _ _ e) (D2.frame _ _ _ sn2 fun b hb o e => up _ _ e) (by show (p2.push _).get? hp.objs.size = _; rw [← hsz]; exact Heap.get?_push_size _ rfl) (by rw [Heap.size_push, hsz]) fun c o cz cT c1 c2 e => up _ _ (hkk c o cz cT c1 c2 e)
theorem zipN_end {Q : Fin → Shared → Prop} (S : ZipSep2 z TI TO i1 i2 fp1 fp2) (D1 : Draws prog w A i1 fp1 n1 P1 St1) (D2 : Draws prog w A i2 fp2 n2 P2 St2)
    (hz : IsZipB s.heap z TI TO f0 b0) (hf : ZF f0) (hTI : IsTupOf2 s.heap TI (.ref i1) (.ref i2)) (hTO : IsTupOf2 s.heap TO a1 a2) (st1 : St1 i s.heap) (st2 : St2 i s.heap) (hle1 : i ≤ n1) (hle2 : i ≤ n2) (hend : i = n1 ∨ i = n2)
    (hE : ∀ h' tk e, (∀ c o, c ≠ z → c ≠ TO → c ≠ i1 → c ≠ i2 → s.heap.get? c = some o → h'.get? c = some o) → (∃ o, h'.get? e = some o ∧ o.cls = .type "StopIteration") → E (.ref e) { s with heap := h', toks := tk }) :
    wpAny (model prog w) A (Builtin.«zip.__next__» ⟨[.ref z], []⟩) Q E s := by
  obtain ⟨hp, g, d, tk0, os⟩ := s
  show wpAny _ _ (field (.ref z) 2 >>= _) _ _ _
  refine wpAny_bind (wpAny_field hz rfl (x := .bool false) rfl ?_)
  show wpAny _ _ (field (.ref z) 3 >>= _) _ _ _
  refine wpAny_bind (wpAny_field hz rfl (x := .ref TI) rfl ?_)
  refine wpAny_bind (wpAny_seqItems hTI rfl ?_)
  show wpAny _ _ (Builtin.SmallTypes.ownedTupleIsFree (.ref z) >>= _) _ _ _
  refine wpAny_bind (zip_free hz hf fun r b gz hzz0 hsz0 => ?_)
  replace hsz0 : Heap.SameBut z hp gz := hsz0
  cases r with
  | true =>
    simp only [if_true]
    refine wpAny_bind (wpAny_rule ?_)
    refine wpAny_bind (wpAny_field hzz0 rfl (x := .ref TO) rfl ?_)
    refine wpAny_bind (wpAny_setField_rec hzz0 (by simp) fun g0 hz0 hs00 => ?_)
    replace hz0 : IsZipB g0 z TI TO .ellipsis b := hz0
    replace hs00 : Heap.SameBut z gz g0 := hs00
    have hs0 : Heap.SameBut z hp g0 := ⟨by rw [hs00.1, hsz0.1], fun c hc => (hs00.2 c hc).trans (hsz0.2 c hc)⟩
    refine wpAny_bind ?_
    simp only [List.zipIdx_cons, List.zipIdx_nil, List.forIn_cons, List.forIn_nil]
    refine wpAny_bind (wpAny_bind (wpAny_onRaise ?_))
    show wpAny _ _ (Builtin.SmallTypes.nextOf (.ref i1) >>= _) _ _ ⟨g0, g, d, tk0, os⟩
    by_cases hlt1 : i < n1
    · refine wpAny_bind (D1.item i _ _ _ hlt1 (D1.over st1 hs0 S.zf1) fun x1 p1 tk1 hx1 sn1 hp1 => wpAny_pure ?_)
      replace hp1 : Heap.SameBut i1 g0 p1 := hp1
      have hU1 : IsTupOf2 p1 TO a1 a2 := hp1.extBut _ _ S.Ti1 (hs0.extBut _ _ S.TOz hTO)
      refine wpAny_bind (wpAny_seqItems (s := ⟨p1, g, d, tk1, os⟩) hU1 rfl ?_)
      refine wpAny_bind (updateSeq_IsTupOf2 (s := ⟨p1, g, d, tk1, os⟩) hU1 fun g1 hT1 hs1 => ?_)
      replace hT1 : IsTupOf2 g1 TO x1 a2 := hT1
      replace hs1 : Heap.SameBut TO p1 g1 := hs1
      refine wpAny_bind (wpAny_letGo (wpAny_pure ?_))
      have hi2 : i = n2 := by omega
      refine wpAny_bind (wpAny_bind (wpAny_onRaise ?_))
      show wpAny _ _ (Builtin.SmallTypes.nextOf (.ref i2) >>= _) _ _ ⟨g1, g, d, tk1, os⟩
      refine wpAny_bind (D2.done ⟨g1, g, d, tk1, os⟩ _ _ (by rw [← hi2]; exact (D2.over (D2.over (D2.over st2 hs0 S.zf2) hp1 S.sep1_2) hs1 S.Tf2)) fun q e hq he => ?_)
      replace hq : Heap.ExtBut i2 g1 q := hq
      obtain ⟨oe, hoe, hce⟩ := he
      replace hoe : q.get? e = some oe := hoe
      have hzq : IsZipB q z TI TO .ellipsis b := hq _ _ S.zi2 (hs1.extBut _ _ S.TOz.symm (hp1.extBut _ _ S.zi1 hz0))
      have hez : e ≠ z := fun x => by subst x; rw [hzq] at hoe; cases hoe; simp at hce
      refine wpAny_setField_rec (s := ⟨q, g, d, tk1, os⟩) hzq (by simp) fun q' _ hq' => ?_
      replace hq' : Heap.SameBut z q q' := hq'
      exact hE q' tk1 e (fun c o cz cT c1 c2 x => hq'.extBut _ _ cz (hq _ _ c2 (hs1.extBut _ _ cT (hp1.extBut _ _ c1 (hs0.extBut _ _ cz x))))) ⟨oe, hq'.extBut _ _ hez hoe, hce⟩
    · have hi1 : i = n1 := by omega
      refine wpAny_bind (D1.done ⟨g0, g, d, tk0, os⟩ _ _ (by rw [← hi1]; exact (D1.over st1 hs0 S.zf1)) fun q e hq he => ?_)
      replace hq : Heap.ExtBut i1 g0 q := hq
      obtain ⟨oe, hoe, hce⟩ := he
      replace hoe : q.get? e = some oe := hoe
      have hzq : IsZipB q z TI TO .ellipsis b := hq _ _ S.zi1 hz0
      have hez : e ≠ z := fun x => by subst x; rw [hzq] at hoe; cases hoe; simp at hce
      refine wpAny_setField_rec (s := ⟨q, g, d, tk0, os⟩) hzq (by simp) fun q' _ hq' => ?_
      replace hq' : Heap.SameBut z q q' := hq'
      exact hE q' tk0 e (fun c o cz cT c1 c2 x => hq'.extBut _ _ cz (hq _ _ c1 (hs0.extBut _ _ cz x))) ⟨oe, hq'.extBut _ _ hez hoe, hce⟩
  | false =>
    simp only [Bool.false_eq_true, if_false]
    have hs0 := hsz0
    refine wpAny_bind ?_
    rw [← Array.forIn_toList]
    simp only [List.forIn_cons, List.forIn_nil]
    refine wpAny_bind (wpAny_bind (wpAny_holding ?_))
    show wpAny _ _ (Builtin.SmallTypes.nextOf (.ref i1) >>= _) _ _ ⟨gz, g, d, tk0, os⟩
    by_cases hlt1 : i < n1
    · refine wpAny_bind (D1.item i _ _ _ hlt1 (D1.over st1 hs0 S.zf1) fun x1 p1 tk1 hx1 sn1 hp1 => wpAny_pure ?_)
      replace hp1 : Heap.SameBut i1 gz p1 := hp1
      refine wpAny_pure ?_
      have hi2 : i = n2 := by omega
      refine wpAny_bind (wpAny_bind (wpAny_holding ?_))
      show wpAny _ _ (Builtin.SmallTypes.nextOf (.ref i2) >>= _) _ _ ⟨p1, g, d, tk1, os⟩
      refine wpAny_bind (D2.done ⟨p1, g, d, tk1, os⟩ _ _ (by rw [← hi2]; exact (D2.over (D2.over st2 hs0 S.zf2) hp1 S.sep1_2)) fun q e hq he => ?_)
      replace hq : Heap.ExtBut i2 p1 q := hq
      exact hE q tk1 e (fun c o cz cT c1 c2 x => hq _ _ c2 (hp1.extBut _ _ c1 (hs0.extBut _ _ cz x))) he
    · have hi1 : i = n1 := by omega
      refine wpAny_bind (D1.done ⟨gz, g, d, tk0, os⟩ _ _ (by rw [← hi1]; exact (D1.over st1 hs0 S.zf1)) fun q e hq he => ?_)
      replace hq : Heap.ExtBut i1 gz q := hq
      exact hE q tk0 e (fun c o cz cT c1 c2 x => hq _ _ c1 (hs0.extBut _ _ cz x)) he
theorem zipN_pyItem {Q : Option Value → Shared → Prop} (S : ZipSep2 z TI TO i1 i2 fp1 fp2) (D1 : Draws prog w A.in1 i1 fp1 n1 P1 St1) (D2 : Draws prog w A.in1 i2 fp2 n2 P2 St2)
    (hz : IsZipB s.heap z TI TO f0 b0) (hf : ZF f0) (hTI : IsTupOf2 s.heap TI (.ref i1) (.ref i2)) (hTO : IsTupOf2 s.heap TO a1 a2) (st1 : St1 i s.heap) (st2 : St2 i s.heap) (hlt1 : i < n1) (hlt2 : i < n2)
    (hQ : ∀ x1 x2 h' tk f1 b1, P1 i x1 → P2 i x2 → ZF f1 → IsZipB h' z TI TO f1 b1 → (∃ c1 c2, IsTupOf2 h' TO c1 c2) → St1 (i + 1) h' → St2 (i + 1) h' → IsTupOf2 h' s.heap.objs.size x1 x2 → h'.objs.size = s.heap.objs.size + 1 →
      (∀ c o, c ≠ z → c ≠ TO → c ≠ i1 → c ≠ i2 → s.heap.get? c = some o → h'.get? c = some o) → Q (some (.ref s.heap.objs.size)) { s with heap := h', toks := tk }) :
    wpAny (model prog w) A (pyNext (.ref z)) Q E s := by
  have hT : s.TypeIs (.ref z) "zip" := ⟨_, hz, rfl⟩
  unfold pyNext
  exact wpAny_bind (wpAny_attempt (wpAny_callSpecial?_slot (name := Str.ofString "__next__") hT PySem.F.slot_zip_next
    (wpAny_call_entry PySem.F.slot_zip_next hT PySem.F.entry_zip_next
      (zipN_item S D1 D2 hz hf hTI hTO st1 st2 hlt1 hlt2 fun x1 x2 h' tk f1 b1 y1 y2 c0 c1 c2 d1 d2 b5 b6 b7 => wpAny_pure (hQ x1 x2 h' tk f1 b1 y1 y2 c0 c1 c2 d1 d2 b5 b6 b7)) (PySem.F.args_zip_next_1 _))))
theorem zipN_pyEnd {Q : Option Value → Shared → Prop} (S : ZipSep2 z TI TO i1 i2 fp1 fp2) (D1 : Draws prog w A.in1 i1 fp1 n1 P1 St1) (D2 : Draws prog w A.in1 i2 fp2 n2 P2 St2)
    (hz : IsZipB s.heap z TI TO f0 b0) (hf : ZF f0) (hTI : IsTupOf2 s.heap TI (.ref i1) (.ref i2)) (hTO : IsTupOf2 s.heap TO a1 a2) (st1 : St1 i s.heap) (st2 : St2 i s.heap) (hle1 : i ≤ n1) (hle2 : i ≤ n2) (hend : i = n1 ∨ i = n2)
    (hQ : ∀ h' tk, (∀ c o, c ≠ z → c ≠ TO → c ≠ i1 → c ≠ i2 → s.heap.get? c = some o → h'.get? c = some o) → Q none { s with heap := h', toks := tk }) : wpAny (model prog w) A (pyNext (.ref z)) Q E s := by
  have hT : s.TypeIs (.ref z) "zip" := ⟨_, hz, rfl⟩
  unfold pyNext
  refine wpAny_bind (wpAny_attempt (wpAny_callSpecial?_slot (name := Str.ofString "__next__") hT PySem.F.slot_zip_next
    (wpAny_call_entry PySem.F.slot_zip_next hT PySem.F.entry_zip_next (zipN_end S D1 D2 hz hf hTI hTO st1 st2 hle1 hle2 hend fun h' tk e hk he => ?_) (PySem.F.args_zip_next_1 _))))
  obtain ⟨o, ho, hc⟩ := he
  refine wpAny_bind (wpAny_isInstance (T := "StopIteration") (b := true) ⟨o, ho, hc⟩ isSubtype_stop ?_)
  exact wpAny_pure (hQ _ _ hk)
theorem zipN_self {Q : Value → Shared → Prop} (hz : IsZipB s.heap z TI TO f0 b0) (h : Q (.ref z) s) : wpAny (model prog w) A (pyIter (.ref z)) Q E s := by
  have hT : s.TypeIs (.ref z) "zip" := ⟨_, hz, rfl⟩
  refine wpAny_pyIter_slot hT PySem.F.slot_zip_iter (wpAny_call_entry PySem.F.slot_zip_iter hT PySem.F.entry_zip_iter ?_ (PySem.F.args_zip_iter_1 _))
  show wpAny _ _ (ret (.ref z)) _ _ s
  exact wpAny_pure ⟨_, rfl, "zip", _, hT, PySem.F.slot_zip_next.lookup, h⟩
end
/-! ### the turns, the target a name -/
theorem turn_zipN {P : Program} {w : World} {K : Frag} {b1 b2 : Bool} {a1 a2 z TI TO i1 i2 : Addr} {x : Str} {p : Pos} (S : ZipSep2 z TI TO i1 i2 [i1, a1] [i2, a2]) (n1 : a1 ≠ i1) (n2 : a2 ≠ i2) :
    Turn P w K (.Name x p) (JZ K b1 a1 b2 a2) [z, TI, TO, i1, i2] z (fun i h => (∃ f b, ZF f ∧ IsZipB h z TI TO f b) ∧ IsTupOf2 h TI (.ref i1) (.ref i2) ∧ (∃ x y, IsTupOf2 h TO x y) ∧ IterB h b1 i1 a1 i ∧ IterB h b2 i2 a2 i) where
  mem := by simp
  obj := fun i h st c hc => by
    obtain ⟨⟨f, b, _, hz⟩, hTI, ⟨x, y, hTO⟩, h1, h2⟩ := st
    have q : c = z ∨ c = TI ∨ c = TO ∨ c = i1 ∨ c = i2 := by simpa using hc
    rcases q with q | q | q | q | q
    · rw [q]; exact ⟨_, hz, fun v z => nomatch z⟩
    · rw [q]; exact ⟨_, hTI, fun v z => nomatch z⟩
    · rw [q]; exact ⟨_, hTO, fun v z => nomatch z⟩
    · rw [q]; exact h1.obj
    · rw [q]; exact h2.obj
  keep := fun i h h' st k => by
    obtain ⟨⟨f, b, hf, hz⟩, hTI, ⟨x, y, hTO⟩, h1, h2⟩ := st
    exact ⟨⟨f, b, hf, k z (by simp) _ hz⟩, k TI (by simp) _ hTI, ⟨x, y, k TO (by simp) _ hTO⟩, h1.at fun o q => k i1 (by simp) o q, h2.at fun o q => k i2 (by simp) o q⟩
  item := by
    intro X hP hw hK hc i pins s σ H E I hf st hg
    subst hP hw hK
    obtain ⟨xs, ys, hq1, hq2, hlt⟩ := hg
    obtain ⟨its1, rv1, hold1, hz1⟩ := seqB I hq1
    obtain ⟨its2, rv2, hold2, hz2⟩ := seqB I hq2
    obtain ⟨⟨f, b, hzf, hz⟩, hTI, ⟨x, y, hTO⟩, h1, h2⟩ := st
    have l1 := rv1.length
    have l2 := rv2.length
    refine zipN_pyItem S (drawsB (A := X.A.in1) (I.ok.hd hc) b1 i1 a1 n1 its1.toArray) (drawsB (A := X.A.in1) (I.ok.hd hc) b2 i2 a2 n2 its2.toArray) hz hzf hTI hTO ⟨h1, hold1⟩ ⟨h2, hold2⟩ (i := i) (by rw [List.size_toArray]; omega) (by rw [List.size_toArray]; omega) fun x1 x2 h' tk f1 c1 px1 px2 hf1 hz' hTO' st1' st2' hT hsz hk => ⟨.ref s.heap.objs.size, rfl, ?_⟩
    refine (show wpAny _ _ (pure ()) _ _ _ from wpAny_pure ?_)
    have e1 : its1[i]? = some x1 := by simpa using px1
    have e2 : its2[i]? = some x2 := by simpa using px2
    have k1 : i < its1.length := (List.getElem?_eq_some_iff.mp e1).1
    have k2 : i < its2.length := (List.getElem?_eq_some_iff.mp e2).1
    obtain ⟨v1, hv1⟩ : ∃ y, xs[i]? = some y := ⟨xs[i]'(by omega), List.getElem?_eq_getElem (by omega)⟩
    obtain ⟨v2, hv2⟩ : ∃ y, ys[i]? = some y := ⟨ys[i]'(by omega), List.getElem?_eq_getElem (by omega)⟩
    obtain ⟨u1, hu1, ru1⟩ := rv1.get hv1
    obtain ⟨u2, hu2, ru2⟩ := rv2.get hv2
    rw [e1] at hu1; cases hu1
    rw [e2] at hu2; cases hu2
    have hTn : H s.heap.objs.size = none := I.hok.fresh (Nat.le_refl _)
    have new : ObjOk X.prog X.w (upd H s.heap.objs.size (.tup [v1, v2])) h' s.heap.objs.size (.tup [v1, v2]) := ⟨by show 2 ≤ sizeLine; decide, [x1, x2], .cons ru1 (.cons ru2 .nil), ⟨_, hT, rfl, _, rfl⟩⟩
    have fpw : ∀ b ∈ [z, TO, i1, i2], b ∈ [z, TI, TO, i1, i2] := fun c hc => by
      have q : c = z ∨ c = TO ∨ c = i1 ∨ c = i2 := by simpa using hc
      rcases q with q | q | q | q <;> rw [q] <;> simp
    have I1 := I.turnedNew (t' := tk) (ch := [z, TO, i1, i2]) (fun b o hb e => hk b o (fun q => hb (by simp [q])) (fun q => hb (by simp [q])) (fun q => hb (by simp [q])) (fun q => hb (by simp [q])) e) (fun b hb => hf b (fpw b hb)) (Nat.le_refl _) new
    refine ⟨.ref s.heap.objs.size, _, I1, rfl, ⟨s.heap.objs.size, [v1, v2], rfl, hTn, rfl, v1, v2, rfl, fun zs hz => by rw [seqB_inj I hz hq1]; exact hv1, fun zs hz => by rw [seqB_inj I hz hq2]; exact hv2⟩, ⟨⟨f1, c1, hf1, hz'⟩, hk _ _ S.TIz S.TITO S.TIi1 S.TIi2 hTI, hTO', st1'.1, st2'.1⟩, fun c hc => ?_⟩
    have hne : c ≠ s.heap.objs.size := by
      have q : c = z ∨ c = TI ∨ c = TO ∨ c = i1 ∨ c = i2 := by simpa using hc
      rcases q with q | q | q | q | q
      · rw [q]; exact Nat.ne_of_lt (Heap.lt_size hz)
      · rw [q]; exact Nat.ne_of_lt (Heap.lt_size hTI)
      · rw [q]; exact Nat.ne_of_lt (Heap.lt_size hTO)
      · rw [q]; obtain ⟨o, ho, _⟩ := h1.obj; exact Nat.ne_of_lt (Heap.lt_size ho)
      · rw [q]; obtain ⟨o, ho, _⟩ := h2.obj; exact Nat.ne_of_lt (Heap.lt_size ho)
    rw [upd_ne hne]
    exact (hf c hc).1
  done := by
    intro X hP hw hK hc i pins s σ H E I hf st hg
    subst hP hw hK
    obtain ⟨xs, ys, hq1, hq2, hlt⟩ := hg
    obtain ⟨its1, rv1, hold1, hz1⟩ := seqB I hq1
    obtain ⟨its2, rv2, hold2, hz2⟩ := seqB I hq2
    obtain ⟨⟨f, b, hzf, hz⟩, hTI, ⟨x, y, hTO⟩, h1, h2⟩ := st
    have l1 := rv1.length
    have l2 := rv2.length
    have fpw : ∀ b ∈ [z, TO, i1, i2], b ∈ [z, TI, TO, i1, i2] := fun c hc => by
      have q : c = z ∨ c = TO ∨ c = i1 ∨ c = i2 := by simpa using hc
      rcases q with q | q | q | q <;> rw [q] <;> simp
    refine zipN_pyEnd S (drawsB (A := X.A.in1) (I.ok.hd hc) b1 i1 a1 n1 its1.toArray) (drawsB (A := X.A.in1) (I.ok.hd hc) b2 i2 a2 n2 its2.toArray) hz hzf hTI hTO ⟨h1, hold1⟩ ⟨h2, hold2⟩ (i := i) (by rw [List.size_toArray]; omega) (by rw [List.size_toArray]; omega) (by rw [List.size_toArray, List.size_toArray]; omega) fun h' tk hk => ⟨rfl, ?_⟩
    exact I.turnedL (ch := [z, TO, i1, i2]) (fun b o hb e => hk b o (fun q => hb (by simp [q])) (fun q => hb (by simp [q])) (fun q => hb (by simp [q])) (fun q => hb (by simp [q])) e) fun b hb => hf b (fpw b hb)
  self := fun A i s Q E st h => let ⟨⟨_, _, _, hz⟩, _⟩ := st; zipN_self hz h
theorem pi_zipN {X : Cx} {ex ey : Expr} {ta : TA} {p pos np : Pos} {nm : Str} (hg : Gl X "zip") (hm : X.mg "zip" = none) (ha : PA X [ex, ey] ta) (hs : noStar ex = true) (hs2 : noStar ey = true) :
    PI X (.Name nm np) (.Call (.Name "zip" p) [ex, ey] [] pos) (iZipB X.K ta) := by
  refine ⟨fun pins s σ H R I h => ?_⟩
  refine PyProof.Rows.Call_ (ld_blt I hg hm PyProof.Rows.boot_zip (PyProof.Rows.callWith_type1 (thn (ha.run pos pins s σ H _ I h) fun us s1 ⟨vs, H1, I1, r1, q1⟩ => ?_) (star_of hs) (plain_of (es := [ey]) (by simp [noStars, hs2]))))
  · obtain ⟨x, y, rfl, b1, a1, xs, b2, a2, ys, rfl, rfl, hq1, hq2, q⟩ := q1
    obtain ⟨u, v, rfl, ru, rv⟩ := Vals.two r1
    cases ru
    cases rv
    obtain ⟨its1, rv1, hold1, _⟩ := seqB I1 hq1
    obtain ⟨its2, rv2, hold2, _⟩ := seqB I1 hq2
    have l1 := hold1.lt
    have l2 := hold2.lt
    refine zip_begins2 (beginsB b1 a1 its1.toArray) (beginsB b2 a2 its2.toArray) hold1 hold2 fun h' hz hTI hTO h1 h2 hsz hk => wpAny_pyIter_zip hz ?_
    have I2 : Inv X pins σ H1 { s1 with heap := h' } := I1.kept (t' := s1.toks) hk
    refine ⟨s1.heap.objs.size + 4, [s1.heap.objs.size + 4, s1.heap.objs.size + 2, s1.heap.objs.size + 3, s1.heap.objs.size, s1.heap.objs.size + 1], _, _, H1, rfl, I2,
      turn_zipN (zip_sep2 (N := s1.heap.objs.size) (fp1 := [a1]) (fp2 := [a2]) (by simpa using l1) (by simpa using l2)) (Nat.ne_of_lt l1) (Nat.ne_of_lt (Nat.lt_succ_of_lt l2)), ⟨⟨_, false, .inl rfl, hz⟩, hTI, ⟨_, _, hTO⟩, iterB_new h1, iterB_new h2⟩, fun c hcm => ?_, q⟩
    have e' : c = s1.heap.objs.size + 4 ∨ c = s1.heap.objs.size + 2 ∨ c = s1.heap.objs.size + 3 ∨ c = s1.heap.objs.size ∨ c = s1.heap.objs.size + 1 := by simpa using hcm
    have hle : s1.heap.objs.size ≤ c := by
      rcases e' with z | z | z | z | z <;> rw [z] <;> first | exact Nat.le_add_right _ _ | exact Nat.le_refl _
    exact I1.fpOk hle (I1.hok.fresh hle)
/-! ### for y in zip(..): x.extend(y) -/
section
variable {N : List Str} {sc : Scope} {CX : CXT} {φ : Orc} {ex ey : Expr} {pr : Nat → Bool}
theorem src_zipN {a b : E} {p pos np : Pos} {nm : Str} (hg : GlS sc (Str.ofString "zip")) (hs : noStar ex = true) (hs2 : noStar ey = true) (h : SD N sc CX ex φ (daW (evalE φ a))) (h2 : SD N sc CX ey φ (daW (evalE φ b))) :
    Srcs N sc CX (.Name nm np) (.Call (.Name (Str.ofString "zip") p) [ex, ey] [] pos) φ false (evalSrc φ (.zip2 a b)) := by
  intro X G
  refine ⟨_, pi_zipN (G.gl hg) (G.blt "zip" (by decide)) (pa_cons (peE ex) (pa_cons (peE ey) pa_nil (star_of hs2)) (star_of hs)) hs hs2, fun e xs e' hr F H σ R rel k => ?_⟩
  simp only [evalSrc] at hr
  obtain ⟨⟨d, e1⟩, r1, r2⟩ := bind_inv hr
  obtain ⟨⟨d', e2⟩, r1', r2⟩ := bind_inv r2
  obtain ⟨ys, r3, r4⟩ := bind_inv r2
  cases r4
  have r3 := ofO_inv r3
  unfold zipD at r3
  simp only [Option.bind_eq_some_iff, Option.map_eq_some_iff] at r3
  obtain ⟨as, r5, bs, r6, rfl⟩ := r3
  refine h X G e d _ r1 F H σ _ rel fun v F1 H1 p1 d1 => ?_
  refine h2 X G e1 d' _ r1' F1 H1 σ _ p1.rel fun v' F2 H2 p2 d2 => ?_
  obtain ⟨b1, a1, vs, rfl, g1, g2⟩ := rp_seqB (p2.grow.rp _ _ d1) r5
  obtain ⟨b2, a2, ws, rfl, g3, g4⟩ := rp_seqB d2 r6
  exact ⟨.ref a1, .ref a2, rfl, b1, a1, vs, b2, a2, ws, rfl, rfl, p2.rel.sub.sqB g1, p2.rel.sub.sqB g3, k _ F2 H2 (p1.trans p2) (walk_zipB g1 g2 g3 g4)⟩
theorem flat_take {xs : List D} {n : Nat} {d : D} (h : xs[n]? = some d) : (xs.take (n + 1)).flatMap itemsT = (xs.take n).flatMap itemsT ++ itemsT d := by
  rw [List.take_add_one, h, List.flatMap_append]
  simp
theorem ss_zext {i j : Nat} {x y : Str} {np p p2 ep apos cpos zp zpos pos : Pos} {a b : E} (hi : N[i]? = some x) (hv : isVis sc x = true) (hp : plainName x = true) (hj : N[j]? = some y) (hl : isLoc sc y = true) (hvj : isVis sc y = true) (hpj : plainName y = true) (hpr : pr j = false)
    (hg : GlS sc (Str.ofString "zip")) (hs : noStar ex = true) (hs2 : noStar ey = true) (h : SD N sc CX ex φ (daW (evalE φ a))) (h2 : SD N sc CX ey φ (daW (evalE φ b))) (hline : (apos.endLine == cpos.line) = true) :
    SS N sc CX pr (.For (.Name y np) (.Call (.Name (Str.ofString "zip") zp) [ex, ey] [] zpos) [.Expr (.Call (.Attribute (.Name x p) (Str.ofString "extend") apos) [.Name y p2] [] cpos) ep] [] pos) φ (exec φ (.zext j i a b)) := by
  intro X G e F H σ Dn rel k
  simp only [exec] at k
  obtain ⟨⟨xs, e1⟩, r1, k⟩ := ofR_ok' k
  dsimp only at k
  split at k
  case h_2 => exact False.elim k
  rename_i ys g1
  split at k
  case isFalse => exact False.elim k
  rename_i hc
  obtain ⟨hij, hlen⟩ := hc
  obtain ⟨wi, hi', src⟩ := src_zipN (nm := y) (np := np) (p := zp) (pos := zpos) hg hs hs2 h h2 X G.toGood
  have hpass : PassesOwn (model X.prog X.w) X.A X.env X.xe := fun v s h => absurd h (G.nox v s)
  have hN : X.N.Nodup := by rw [G.hN]; exact G.nd
  have hjN : X.N[j]? = some y := by rw [G.hN]; exact hj
  refine RS.know fun lv => ?_
  have hσN : σ.length = X.N.length := lv.len
  refine RS.of (ps_for hpass G.calm hi' (pg_name hN hjN (G.loc hl).1 (G.loc hl).2) (pssS _) (noFold rfl)) (src e xs e1 r1 F H σ _ rel fun J F1 H1 p1 w => ?_)
  have gi : get e1 i = .c ys := g1
  refine for_it w (fun n σ' H' => ∃ F', Post X.K F H σ e F' H' σ' ((e1.set i (.c (ys ++ (xs.take n).flatMap itemsT))).set j .u) ∧ Sub F1 F' ∧ Kept pr σ σ' ∧ σ'.length = σ.length) ⟨F1, ?_, Sub.refl _, Kept.refl, rfl⟩ (fun n σ' H' _ ⟨F', q, s1, _⟩ => s1.trans q.rel.sub) (fun n u σ' H' H'' hn ⟨F', q, s1, kp, ln⟩ Y => ?_) fun σ' H' ⟨F', q, s1, kp, ln⟩ => ?_
  · have e0 : e1.set i (.c (ys ++ (xs.take 0).flatMap itemsT)) = e1 := by
      rw [List.take_zero, List.flatMap_nil, List.append_nil, ← gi]
      unfold get
      refine List.ext_getElem? fun m => ?_
      rw [List.getElem?_set]
      split
      · rename_i z
        subst z
        split
        · rename_i z2
          rw [List.getD_eq_getElem?_getD, List.getElem?_eq_getElem z2]; rfl
        · rename_i z2
          rw [List.getElem?_eq_none (by omega)]
      · rfl
    rw [e0]
    have := Post.kill p1.rel [j] (σ' := σ) (fun _ _ => rfl)
    exact p1.trans this
  · obtain ⟨d, hd, T, vs, ds, rfl, hT, rfl, rfl, r⟩ := Y
    have hiN : i < (e1.set i (V.c (ys ++ (xs.take n).flatMap itemsT))).length := by
      rw [List.length_set]
      by_cases z : i < e1.length
      · exact z
      · rw [get_ge (Nat.le_of_not_lt z)] at gi; cases gi
    have gx : get ((e1.set i (V.c (ys ++ (xs.take n).flatMap itemsT))).set j .u) i = .c (ys ++ (xs.take n).flatMap itemsT) := by
      rw [get_set, if_neg (fun z => hij z.1), get_set, if_pos ⟨rfl, by rw [List.length_set] at hiN; exact hiN⟩]
    have f1 := Post.fresh q.rel hT (.tup vs)
    have f2 := Post.kill f1.rel [j] (σ' := σ'.set j (some (.ref T))) (fun m hm => List.getElem?_set_ne fun z => hm (by simp [z]))
    have ek : killAll [j] ((e1.set i (V.c (ys ++ (xs.take n).flatMap itemsT))).set j .u) = (e1.set i (V.c (ys ++ (xs.take n).flatMap itemsT))).set j .u := by
      show List.set (List.set _ j _) j _ = _
      rw [List.set_set]
    rw [ek] at f2
    obtain ⟨l, ws, hσ, hlst, _, hdw⟩ := f2.rel.cellAt gx
    show (RSs X _) _ _ _
    refine RSs.of (pss_one (ps_expr (pe_m1 PySem.F.plainAttrs_list PySem.F.slot_list_extend PySem.F.type_list_extend mt_ext rfl hline rfl) (sw_false rfl))) ?_
    have hjσ : j < σ'.length := by
      rw [ln, hσN]
      exact (List.getElem?_eq_some_iff.mp hjN).1
    refine RE.of (pe_name G.toGood hi hv hp) ⟨.ref l, hσ, ty_list (SqL.of hlst), RE.of (pe_name G.toGood hj hvj hpj) ⟨.ref T, List.getElem?_set_self hjσ, l, T, ws, vs, rfl, rfl, hlst, .inr (.inl (.inl upd_same)), ?_, ?_⟩⟩
    · rw [rpAll_len hdw, rpAll_len r, lim_eq]
      refine Nat.le_trans ?_ hlen
      rw [List.length_append, Nat.add_assoc]
      refine Nat.add_le_add_left ?_ _
      have e2 : ((xs.take n).flatMap itemsT).length + ds.length = ((xs.take (n + 1)).flatMap itemsT).length := by
        rw [flat_take hd, List.length_append]; rfl
      rw [e2]
      have e3 : xs.flatMap itemsT = (xs.take (n + 1)).flatMap itemsT ++ (xs.drop (n + 1)).flatMap itemsT := by
        rw [← List.flatMap_append, List.take_append_drop]
      rw [e3, List.length_append]
      omega
    · refine ⟨F', ?_, s1, ?_, ?_⟩
      · have c := Post.cell f2.rel gx hσ (rpAll_app hdw (s1.rpAll _ _ r))
        have es : ((e1.set i (V.c (ys ++ (xs.take n).flatMap itemsT))).set j V.u).set i (.c (ys ++ (xs.take n).flatMap itemsT ++ ds)) = (e1.set i (V.c (ys ++ (xs.take (n + 1)).flatMap itemsT))).set j V.u := by
          rw [flat_take hd, List.set_comm _ _ hij, List.set_comm _ _ hij, List.set_set, List.append_assoc]; rfl
        rw [es] at c
        exact q.trans (f1.trans (f2.trans c))
      · exact kp.trans (kept_set hpr)
      · rw [List.length_set]; exact ln
  · rw [List.take_length] at q
    exact k σ' F' H' q kp
end
end Sw
end T_SwFz
section T_SwFv
set_option autoImplicit false
set_option linter.all false
set_option Elab.async false
set_option maxRecDepth 100000
set_option maxHeartbeats 1000000
/-! SwFv: for x in d.values(): the dict is locked while the loop runs. -/
namespace Sw
open PySem L2
section
variable {K : Frag} {F H F1 H1 : Hp} {σ σ1 : L2.St} {e e1 : Env} {A : Addr} {o o2 : HO}
theorem Rel.lock (r : Rel K F H σ e) (fA : F A = none) (oA : ¬ Own H σ e A) (o2 : HO) : Rel K F (upd H A o2) σ e :=
  r.moved (fun a u h => by rw [upd_ne (fun z => by rw [z, fA] at h; cases h)]; exact r.sub a u h) (Sub.refl _) (fun a u h hu => by rw [upd_ne (fun z => oA (by rw [← z]; exact h))]; exact hu) fun _ _ h => h
theorem Post.swap (r : Rel K F H σ e) (hA : H A = some o) (fA : F A = none) (oA : ¬ Own H σ e A) (p : Post K F (upd H A o2) σ e F1 H1 σ1 e1) : H1 A = some o2 ∧ Post K F H σ e F1 (upd H1 A o) σ1 e1 := by
  have rL := r.lock fA oA o2
  have kH : ∀ a u, Own H σ e a → H a = some u → upd H A o2 a = some u := fun a u h hu => by rw [upd_ne (fun z => oA (by rw [← z]; exact h))]; exact hu
  have back : ∀ {a}, Own (upd H A o2) σ e a → Own H σ e a := fun h => r.own_back kH h
  have oL : ¬ Own (upd H A o2) σ e A := fun h => oA (back h)
  have h1 : H1 A = some o2 := p.keep A o2 upd_same oL
  have f1 : F1 A = none := by
    cases q : F1 A with
    | none => rfl
    | some u =>
      rcases p.new A (by rw [q]; simp) with z | z | z
      · exact absurd fA z
      · rw [upd_same] at z; cases z
      · exact absurd z oL
  have o1 : ¬ Own H1 σ1 e1 A := fun z => by
    rcases p.own A z with z | z
    · exact oL z
    · rw [upd_same] at z; cases z
  have kH1 : ∀ a u, Own H1 σ1 e1 a → H1 a = some u → upd H1 A o a = some u := fun a u h hu => by rw [upd_ne (fun z => o1 (by rw [← z]; exact h))]; exact hu
  have none_of : ∀ a, upd H A o2 a = none → H a = none := fun a h => by
    by_cases z : a = A
    · rw [z, upd_same] at h; cases h
    · rw [upd_ne z] at h; exact h
  refine ⟨h1, p.grow, p.rel.moved (fun a u h => ?_) (Sub.refl _) kH1 (fun _ _ h => h), fun a u h n => ?_, fun a h => ?_, fun a h => ?_, fun a h => ?_⟩
  · rw [upd_ne (fun z => by rw [z, f1] at h; cases h)]; exact p.rel.sub a u h
  · by_cases z : a = A
    · rw [z, hA] at h; cases h
      rw [z, upd_same]
    · rw [upd_ne z]
      exact p.keep a u (by rw [upd_ne z]; exact h) fun y => n (back y)
  · rcases p.new a h with z | z | z
    · exact .inl z
    · exact .inr (.inl (none_of a z))
    · exact .inr (.inr (back z))
  · by_cases z : a = A
    · rw [z, upd_same] at h; cases h
    · rw [upd_ne z] at h
      exact none_of a (p.dom a h)
  · rcases p.own a (p.rel.own_back kH1 h) with z | z
    · exact .inl (back z)
    · exact .inr (none_of a z)
end
theorem dk_vals {K : Frag} {F : Hp} {kv : List (Key × L2.V)} {kvs : List (Int × D)} (r : DkR K F kv kvs) : (kvs.map (·.2)).length = kv.length ∧ ∀ (i : Nat) (k : Key) (x : L2.V), kv[i]? = some (k, x) → ∃ d, (kvs.map (·.2))[i]? = some d ∧ Rp K F x d := by
  induction r with
  | nil => exact ⟨rfl, fun i k x h => by simp at h⟩
  | @cons j v x kv kvs h1 h2 ih =>
    refine ⟨by simp only [List.map_cons, List.length_cons, ih.1], fun i k y h => ?_⟩
    cases i with
    | zero =>
      have h : some ((Sum.inl j : Key), v) = some (k, y) := h
      cases h
      exact ⟨x, rfl, h1⟩
    | succ i => exact ih.2 i k y h
theorem loop_endP {pr : Nat → Bool} {K : Frag} {F H F2 H2 : Hp} {σ σ2 : L2.St} {e e2 : Env} {Dn : Ends} {r : SR} {next : Env → SR} {kill : List Nat} {P : L2.St → Hp → Prop} (k : EndK pr K F H σ e Dn (loopR kill next r)) (p : Post K F H σ e F2 H2 σ2 e2) (kp : Kept pr σ σ2)
    (hP : ∀ σ' F' H' e1, Post K F H σ e F' H' σ' e1 → EndK pr K F' H' σ' e1 Dn (next e1) → P σ' H') : EndK pr K F2 H2 σ2 e2 { Dn with nx := P, ct := P, bk := Dn.nx } r := by
  have go : ∀ e1, EndK pr K F H σ e Dn (next (killAll kill e1)) → ∀ σ' F' H', Post K F2 H2 σ2 e2 F' H' σ' e1 → Kept pr σ2 σ' → P σ' H' := fun e1 k σ' F' H' p' q' => by
    have z := Post.kill p'.rel kill (σ' := σ') (fun _ _ => rfl)
    exact hP σ' F' H' _ (p.trans (p'.trans z)) (EndK.trans (p.trans (p'.trans z)) (kp.trans q') k)
  cases r with
  | nx e1 => exact go e1 k
  | ct e1 => exact go e1 k
  | bk e1 => exact fun σ' F' H' p' q' => k σ' F' H' (p.trans (p'.trans (Post.kill p'.rel kill (fun _ _ => rfl)))) (kp.trans q')
  | rt w e1 => exact fun v σ' F' H' p' q' r f => k v σ' F' H' (p.trans p') (kp.trans q') r (From.trans p f)
  | exc c => exact False.elim k
  | bad => exact False.elim k
section
variable {N : List Str} {sc : Scope} {CX : CXT} {φ : Orc} {tg : Expr} {pr : Nat → Bool}
theorem ss_forv {t : T} {i : Nat} {b : Ss} {kill : List Nat} {body : List Stmt} {x : Str} {p apos cpos pos : Pos} (hi : N[i]? = some x) (hv : isVis sc x = true) (hp : plainName x = true) (hline : (apos.endLine == cpos.line) = true) (htg : ∀ X, GoodS N sc CX X φ → TgOk X tg t) (hpr : ∀ j ∈ slotsT t, pr j = false)
    (hb : SSs N sc CX pr body φ (execs φ b)) : SS N sc CX pr (.For tg (.Call (.Attribute (.Name x p) "values" apos) [] [] cpos) body [] pos) φ (exec φ (.forv t i b kill)) := by
  intro X G e00 F00 H σ Dn rel00 k
  simp only [exec] at k
  obtain ⟨F, p00⟩ := seal_ok rel00 i
  have rel := p00.rel
  have k := EndK.trans p00 Kept.refl k
  generalize sealE e00 i = e at k rel
  clear p00 rel00
  split at k
  case h_2 => exact False.elim k
  rename_i kvs g
  obtain ⟨a, vs, hσ, hH, hF, dk⟩ := rel.tabAt g
  have hie : i < e.length := by
    refine Classical.byContradiction fun z => ?_
    unfold get at g
    rw [List.getD_eq_getElem?_getD, List.getElem?_eq_none (by omega)] at g
    cases g
  have p1 := Post.drop rel hie
  have k := EndK.trans p1 Kept.refl k
  have nO : ¬ Own H σ (e.set i .u) a := rel.dropped (i := i) (.inl ⟨by rw [g]; rfl, hσ⟩)
  have r2 := p1.rel
  generalize e.set i .u = e2 at k r2 nO
  have hpa : PassesOwn (model X.prog X.w) X.A X.env X.xe := fun v s h => absurd h (G.nox v s)
  have pv : PI X tg (.Call (.Attribute (.Name x p) "values" apos) [] [] cpos) _ := pi_values (pe_name G.toGood hi hv hp) rfl hline
  refine RS.of (ps_lock (ps_for hpa G.calm pv pgG (pssS body) (noFold rfl))) ⟨a, .dK vs, hH, trivial, fun od => ?_⟩
  obtain ⟨lv, gv⟩ := dk_vals dk
  have rL := r2.lock hF nO (.frz od (.dK vs))
  have kL : EndK pr X.K F (upd H a (.frz od (.dK vs))) σ e2 ⟨fun σ' H' => H' a = some (.frz od (.dK vs)) ∧ Dn.nx σ' (upd H' a (.dK vs)), fun v H' => H' a = some (.frz od (.dK vs)) ∧ Dn.rt v (upd H' a (.dK vs)), fun σ' H' => H' a = some (.frz od (.dK vs)) ∧ Dn.bk σ' (upd H' a (.dK vs)), fun σ' H' => H' a = some (.frz od (.dK vs)) ∧ Dn.ct σ' (upd H' a (.dK vs))⟩ (forL (fun x e1 => match asgT t x e1 with | some e2 => execs φ b e2 | none => SR.bad) kill (kvs.map (·.2)) e2) := by
    generalize forL (fun x e1 => match asgT t x e1 with | some e2 => execs φ b e2 | none => SR.bad) kill (kvs.map (·.2)) e2 = r at k
    cases r with
    | nx e3 =>
      intro σ' F' H' p' q'
      obtain ⟨z1, z2⟩ := Post.swap r2 hH hF nO p'
      exact ⟨z1, k σ' F' _ z2 q'⟩
    | bk e3 => exact False.elim k
    | ct e3 => exact False.elim k
    | rt w e3 => exact False.elim k
    | exc c => exact False.elim k
    | bad => exact False.elim k
  have sL := rL.sub
  have hL : upd H a (.frz od (.dK vs)) a = some (.frz od (.dK vs)) := upd_same
  generalize hDL : (⟨fun σ' H' => H' a = some (.frz od (.dK vs)) ∧ Dn.nx σ' (upd H' a (.dK vs)), fun v H' => H' a = some (.frz od (.dK vs)) ∧ Dn.rt v (upd H' a (.dK vs)), fun σ' H' => H' a = some (.frz od (.dK vs)) ∧ Dn.bk σ' (upd H' a (.dK vs)), fun σ' H' => H' a = some (.frz od (.dK vs)) ∧ Dn.ct σ' (upd H' a (.dK vs))⟩ : Ends) = DL at kL
  have oL : ¬ Own (upd H a (.frz od (.dK vs))) σ e2 a := fun h => nO (r2.own_back (fun b u hb hu => by rw [upd_ne (fun z => nO (by rw [← z]; exact hb))]; exact hu) h)
  generalize hHL : upd H a (.frz od (.dK vs)) = HL at kL rL sL hL oL
  refine ⟨_, hσ, a, od, vs, rfl, hL, ?_⟩
  generalize hf : (fun x e1 => match asgT t x e1 with | some e2 => execs φ b e2 | none => SR.bad) = f at kL
  generalize hxs : kvs.map (·.2) = xs at kL lv gv
  have w : Walk (Itd a od vs) xs.length (fun H1 => Sub F H1 ∧ H1 a = some (.frz od (.dK vs))) (YD X.K F true xs) := ⟨fun i H hi h => ⟨h.2, by omega⟩, fun H h => ⟨h.2, by omega⟩, fun i H x H' hi h y => by
    obtain ⟨rfl, k, hk⟩ := y
    obtain ⟨d, hd, rd⟩ := gv i k x hk
    exact ⟨d, hd, rfl, rd⟩⟩
  refine for_it w (fun i σ' H' => ∃ e' F', Sub F F' ∧ Post X.K F HL σ e2 F' H' σ' e' ∧ EndK pr X.K F' H' σ' e' DL (forL f kill (xs.drop i) e')) ⟨e2, F, Sub.refl _, Post.refl rL, kL⟩ (fun i σ' H' _ ⟨e', F', h1, h2, _⟩ => ⟨h1.trans h2.rel.sub, h2.keep a _ hL oL⟩) (fun i x σ' H' H'' hi' ⟨e', F', h1, h2, h3⟩ y => ?_) fun σ' H' ⟨e', F', h1, h2, h3⟩ => ?_
  · obtain ⟨d, hd, y⟩ := y
    have hdr : xs.drop i = d :: xs.drop (i + 1) := by
      rw [List.drop_eq_getElem_cons hi']
      have := (List.getElem?_eq_some_iff.mp hd).2
      rw [this]
    rw [hdr, forL_cons] at h3
    have hfd : f d e' = match asgT t d e' with | some e2 => execs φ b e2 | none => SR.bad := by rw [← hf]
    cases ha : asgT t d e' with
    | none =>
      rw [hfd, ha] at h3
      exact False.elim h3
    | some e3 =>
      rw [hfd, ha] at h3
      obtain ⟨rfl, r⟩ := y
      refine (htg X G).rg h2.rel (.inl (h1.rp _ _ r)) ha fun σ2 s2 => ?_
      refine hb X G e3 F' H'' σ2 _ s2.post.rel (loop_endP h3 s2.post (stored_kept s2 hpr) fun σ3 F3 H3 e4 p4 k4 => ⟨e4, F3, h1.trans p4.grow, h2.trans p4, k4⟩)
  · rw [List.drop_length] at h3
    simp only [forL] at h3
    have := h3 σ' F' H' (Post.refl h2.rel) Kept.refl
    rw [← hDL] at this ⊢
    exact this
end
end Sw
end T_SwFv
section T_SwFw
set_option autoImplicit false
set_option linter.all false
set_option Elab.async false
set_option maxRecDepth 100000
/-! SwFw: tuple(reversed(a tuple)); min of int tuples; len(set(..)) of any ints; list.count. -/
namespace RT
open PySem PySem.Spec PyProof.Rows
section
variable {prog : Program} {w : World} {A : Around} {E : Value → Shared → Prop} {s : Shared}
theorem tup_at {h h' : Heap} {t : Addr} {items : Array Value} (x : IsTup h t items) (e : ∀ o, h.get? t = some o → h'.get? t = some o) : IsTup h' t items := let ⟨o, ho, r⟩ := x; ⟨o, e _ ho, r⟩
theorem walks_rt {prog : Program} {w : World} {A : Around} (hh : A.handled = none) (I t : Addr) (hne : t ≠ I) (items : Array Value) (hz : items.size ≤ sizeLine) :
    Walks prog w A I [I, t] [I] items.size (fun i v => items[items.size - 1 - i]? = some v) (fun i h => i ≤ items.size ∧ IsRt h I t ((items.size : Int) - 1 - (i : Int)) ∧ IsTup h t items) where
  sub := fun b hb => by simp at hb; simp [hb]
  frame := fun _ _ _ x hk => ⟨x.1, x.2.1.at fun o e => hk I (by simp) o e, tup_at x.2.2 fun o e => hk t (by simp) o e⟩
  item := fun i s Q E hi x hQ => by
    have e : (items.size : Int) - 1 - (i : Int) = ((items.size - 1 - i : Nat) : Int) := by omega
    have hit := x.2.1
    rw [e] at hit
    have hx : items[items.size - 1 - i]? = some (items[items.size - 1 - i]'(by omega)) := Array.getElem?_eq_getElem (by omega)
    refine next_rt_item hit x.2.2 hx hz fun h' hit' hs' => ?_
    have e2 : ((items.size - 1 - i : Nat) : Int) - 1 = (items.size : Int) - 1 - ((i + 1 : Nat) : Int) := by omega
    rw [e2] at hit'
    exact hQ _ h' _ hx ⟨hi, hit', tup_at x.2.2 fun o eo => (hs'.2 t hne).trans eo⟩ fun b o hb eo => hs'.extBut b o (fun h => hb (by simp [h])) eo
  done := fun s Q E x hQ => by
    have e : (items.size : Int) - 1 - (items.size : Int) = -1 := by omega
    have hit := x.2.1
    rw [e] at hit
    exact next_rt_end hh hit fun h' he' => hQ h' s.toks fun b o hb eo => he' b o (fun h => hb (by simp [h])) eo
  self := fun _ _ _ _ x hQ => iter_rt x.2.1 hQ
theorem hint_rt : typeLookup (.type "reversed") "__length_hint__" = pure (some (.builtin "reversed.__length_hint__")) := by rw [typeLookup_type, builtinLookup_eq_fast]; kernel_rfl
theorem nolen_rt : typeLookup (.type "reversed") "__len__" = pure none := by rw [typeLookup_type, builtinLookup_eq_fast]; kernel_rfl
def slot_rt_hint : Slot "reversed" "__length_hint__" "reversed.__length_hint__" :=
  .of (owner := "reversed") (n := "__length_hint__") (by rw [typeLookup_type, builtinLookup_eq_fast]; kernel_rfl) (by decide +kernel) (by decide +kernel) (by decide +kernel)
    (by first | exact .inl (by decide +kernel) | exact .inr (by decide +kernel)) (by rw [isSubtype_type]; kernel_rfl)
theorem entry_rt_hint : entryFor table "reversed.__length_hint__" = some Builtin.«reversed.__length_hint__» := entryFor_of_tree (by kernel_rfl)
theorem args_rt_hint (a : Value) : argsOk "reversed.__length_hint__" ⟨[a], []⟩ := by
  unfold argsOk; rw [signature?_of (id := "reversed.__length_hint__") (n := ['_', '_', 't', 'n', 'i', 'h', '_', 'h', 't', 'g', 'n', 'e', 'l', '_', '_']) (o := ['d', 'e', 's', 'r', 'e', 'v', 'e', 'r']) (by kernel_rfl) owner_rt]; kernel_rfl
theorem call_hint {it t : Addr} {items : Array Value} {Q : Value → Shared → Prop} (hit : IsRt s.heap it t ((items.size : Int) - 1)) (hl : IsTup s.heap t items) (hn : items.size ≤ sizeLine)
    (hQ : ∀ u tk, Q (.int items.size u) { s with toks := tk }) : wpAny (model prog w) A (call (.builtin "reversed.__length_hint__") [.ref it]) Q E s := by
  obtain ⟨o, ho, hc, hd⟩ := id hit
  rw [sizeLine_eq] at hn
  refine wpAny_call_entry slot_rt_hint hit.typeIs entry_rt_hint ?_ (args_rt_hint _)
  unfold Builtin.«reversed.__length_hint__»
  refine wpAny_bind (wpAny_of_eq (a := Value.ref it) rfl ?_)
  refine wpAny_bind (wpAny_field ho hd (x := .ref t) rfl ?_)
  try dsimp only
  rw [if_neg (show ¬ ((Value.ref t == Value.none) = true) from Bool.false_ne_true)]
  refine wpAny_bind (len_tuple hl (by omega) ?_)
  refine wpAny_bind (wpAny_of_eq (a := some ((items.size : Nat) : Int)) rfl ?_)
  try dsimp only
  refine wpAny_bind (wpAny_field (s := { s with toks := s.toks + 1 + 1 }) ho hd (x := rawInt ((items.size : Int) - 1)) rfl ?_)
  show wpAny _ _ (if (items.size : Int) < (items.size : Int) - 1 + 1 then _ else retInt ((items.size : Int) - 1 + 1)) _ _ _
  rw [if_neg (by omega), show (items.size : Int) - 1 + 1 = (items.size : Int) by omega]
  refine wpAny_bind (wpAny_mkInt ?_)
  exact wpAny_pure ⟨_, rfl, hQ _ _⟩
theorem collect_rt {it t : Addr} {items : Array Value} {Q : List Value → Shared → Prop} (hh : A.handled = none) (hit : IsRt s.heap it t ((items.size : Int) - 1)) (hl : IsTup s.heap t items) (hne : t ≠ it) (hn : items.size ≤ sizeLine)
    (hQ : ∀ (h' : Heap) (tk : Nat) (acc : Array Value), (∀ b o, b ≠ it → s.heap.get? b = some o → h'.get? b = some o) → ItemsOf (fun i v => items[items.size - 1 - i]? = some v) acc items.size → Q acc.toList { s with heap := h', toks := tk }) :
    wpAny (model prog w) A (collect (.ref it)) Q E s := by
  have W := (walks_rt (prog := prog) (w := w) (A := A.in1) hh it t hne items hn).toS
  obtain ⟨oi, hoi, _⟩ := id hit
  obtain ⟨ol, hol, _⟩ := id hl
  have hSi : s.heap.objs.size ≠ it := Nat.ne_of_gt (Heap.lt_size hoi)
  have hSl : s.heap.objs.size ≠ t := Nat.ne_of_gt (Heap.lt_size hol)
  have hSf : s.heap.objs.size ∉ [it, t] := by simp only [List.mem_cons, List.not_mem_nil, or_false, not_or]; exact ⟨hSi, hSl⟩
  unfold collect
  refine wpAny_bind (wpAny_runValue (codeAny_builtin F.entry_proto_collect ?_))
  rw [Around.under_plainId F.plain_proto_collect _]
  show wpAny _ A.in1 (newList [] >>= fun l' => again (.builtin "list.__iadd__" ⟨[l', .ref it], []⟩)) _ _ s
  refine wpAny_bind (wpAny_newObj_type ?_)
  refine wpAny_pure ⟨plainId_quiet F.plain_list_iadd _, codeAny_builtin F.entry_list_iadd ?_⟩
  rw [Around.under_plainId F.plain_list_iadd _]
  have hS₁ : (s.heap.push { cls := .type "list", data := .seq ([] : List Value).toArray }).get? s.heap.objs.size = some { cls := .type "list", data := .seq ([] : List Value).toArray } := Heap.get?_push_size _ rfl
  have hit1 : IsRt (s.heap.push { cls := .type "list", data := .seq ([] : List Value).toArray }) it t ((items.size : Int) - 1) := hit.at fun o e => Heap.get?_push_of_some _ e
  have hl1 : IsTup (s.heap.push { cls := .type "list", data := .seq ([] : List Value).toArray }) t items := tup_at hl fun o e => Heap.get?_push_of_some _ e
  have hT : ({ s with heap := s.heap.push { cls := .type "list", data := .seq ([] : List Value).toArray } } : Shared).TypeIs (.ref it) "reversed" := IsRt.typeIs (s := { s with heap := s.heap.push { cls := .type "list", data := .seq ([] : List Value).toArray } }) hit1
  have h1 : Builtin.List.listSameRef (.ref s.heap.objs.size) (.ref it) = false := by simp [Builtin.List.listSameRef, hSi]
  show wpAny _ A.in1 (Builtin.List.listExtendWith (.ref s.heap.objs.size) (.ref it) (.ref s.heap.objs.size)) _ _ _
  unfold Builtin.List.listExtendWith
  refine wpAny_bind (wpAny_typeOf hT ?_)
  rw [if_neg (by rw [h1]; decide)]
  refine wpAny_bind (iter_rt (s := { s with heap := s.heap.push { cls := .type "list", data := .seq ([] : List Value).toArray } }) hit1 ?_)
  refine wpAny_bind (wpAny_holding ?_)
  unfold Builtin.List.listLengthHint
  refine wpAny_bind (wpAny_specialOf hT nolen_rt ?_)
  show wpAny _ A.in1 (specialOf (Value.ref it) (Str.ofString "__length_hint__") >>= _) _ _ _
  refine wpAny_bind (wpAny_specialOf hT hint_rt ?_)
  generalize hid : ("reversed.__length_hint__" : String) = id0
  wp_delta
  rw [show splitId id0 = some ("reversed", "__length_hint__") from by subst hid; decide +kernel]
  subst hid
  refine wpAny_bind (wpAny_isInstance (b := true) hT (by rw [isSubtype_type]; kernel_rfl) ?_)
  rw [if_neg (by decide)]
  dsimp only
  rw [if_neg (by decide +kernel)]
  refine wpAny_bind (wpAny_rule ?_)
  refine wpAny_bind (wpAny_of_eq (slot_rt_hint.bind _) ?_)
  try dsimp only
  refine wpAny_bind (wpAny_attempt ?_)
  refine call_hint (s := { s with heap := s.heap.push { cls := .type "list", data := .seq ([] : List Value).toArray } }) hit1 hl1 hn fun u tk => ?_
  try dsimp only
  rw [show asInt? (.int ((items.size : Nat) : Int) u) = pure (some ((items.size : Nat) : Int)) from rfl, pure_bind]
  have hn2 := hn
  rw [sizeLine_eq] at hn2
  have hfi : Builtin.List.listFitsIndex ((items.size : Nat) : Int) = true := by
    unfold Builtin.List.listFitsIndex
    simp only [Bool.and_eq_true, decide_eq_true_eq]
    omega
  have htl : Builtin.List.listTooLong (((items.size : Nat) : Int).toNat) = false := by
    unfold Builtin.List.listTooLong
    rw [decide_eq_false_iff_not, sizeLine_eq]
    omega
  dsimp only
  rw [if_neg (by rw [hfi]; decide), if_neg (by omega), if_neg (by rw [htl]; decide)]
  refine wpAny_pure ?_
  have e0 : ((items.size : Nat) : Int) - 1 - ((0 : Nat) : Int) = (items.size : Int) - 1 := by omega
  have tail : ∀ (hp : Heap) (c : Nat), (∀ b o, b ≠ s.heap.objs.size → s.heap.get? b = some o → hp.get? b = some o) → hp.get? s.heap.objs.size = some { cls := .type "list", dict := none, data := .seq ([] : List Value).toArray c, slots := #[] } →
      codeAny (model prog w) A (.builtin "list.extend.loop" ⟨[.ref s.heap.objs.size, .ref it, .ref s.heap.objs.size], []⟩) (fun r s' => match r with
        | .ok (.ret v) => wpAny (model prog w) A (match v with | .ref a => (load a >>= fun o => match o.data with | .seq xs _ => pure xs.toList | _ => unsupported "internal:collect") | _ => unsupported "internal:collect") Q E s'
        | .ok _ => False
        | .error e => E e s') { s with heap := hp, toks := tk } := fun hp c oth hS => by
    refine codeAny_extend_loopS W hn _ hSf _ items.size 0 _ _ _ rfl (Nat.zero_le _) ⟨Nat.zero_le _, by rw [e0]; exact hit.at fun o e => oth _ _ (Ne.symm hSi) e, tup_at hl fun o e => oth _ _ (Ne.symm hSl) e⟩ hS (ItemsOf.nil _) fun s' acc' c' hm hS' hacc => ?_
    show wpAny _ A (load s.heap.objs.size >>= _) _ _ s'
    refine wpAny_bind (wpAny_load hS' ?_)
    refine wpAny_pure ?_
    rw [Moved.eq_with hm]
    refine hQ s'.heap s'.toks acc' (fun b o hb e => hm.heap b o (fun hmem => ?_) (oth b o (fun e' => absurd (Heap.lt_size e) (by rw [e']; exact Nat.lt_irrefl _)) e)) hacc
    rcases List.mem_cons.mp hmem with e' | hmem
    · exact absurd (Heap.lt_size e) (by rw [e']; exact Nat.lt_irrefl _)
    · exact hb (List.mem_singleton.mp hmem)
  rcases Nat.eq_zero_or_pos items.size with hz | hz
  · have hb : (((items.size : Nat) : Int) != 0) = false := by rw [hz]; rfl
    rw [hb, if_neg (by decide +kernel)]
    exact wpAny_pure ⟨plainId_quiet F.plain_extend_loop _, tail _ _ (fun b o hb e => Heap.get?_push_of_some _ e) hS₁⟩
  · have hb : (((items.size : Nat) : Int) != 0) = true := by
      rw [bne_iff_ne]
      omega
    rw [hb, if_pos (by decide +kernel)]
    refine wpAny_bind (wpAny_rule ?_)
    refine wpAny_bind ?_
    show wpAny _ A.in1 (updateSeq s.heap.objs.size (·.push .none) >>= fun _ => updateSeq s.heap.objs.size (·.pop)) _ _ _
    refine wpAny_bind (wpAny_updateSeq hS₁ rfl ?_ (by rw [sizeLine_eq]; simp) (by rw [sizeLine_eq]; simp))
    have hS₂ := Heap.get?_update_self (Obj.mapSeq (·.push Value.none)) hS₁ rfl
    refine wpAny_updateSeq hS₂ rfl ?_ (by rw [sizeLine_eq]; simp) (by rw [sizeLine_eq]; simp)
    have hS₃ := Heap.get?_update_self (Obj.mapSeq (·.pop)) hS₂ rfl
    have oth : ∀ b o, b ≠ s.heap.objs.size → s.heap.get? b = some o →
        (((s.heap.push { cls := .type "list", data := .seq ([] : List Value).toArray }).update s.heap.objs.size (Obj.mapSeq (·.push Value.none))).update s.heap.objs.size (Obj.mapSeq (·.pop))).get? b = some o :=
      fun b o hb e => (Heap.get?_update_other _ _ (Ne.symm hb)).trans ((Heap.get?_update_other _ _ (Ne.symm hb)).trans (Heap.get?_push_of_some _ e))
    exact wpAny_pure ⟨plainId_quiet F.plain_extend_loop _, tail _ _ oth hS₃⟩
theorem code_tuple_new_rt {it t : Addr} {items : Array Value} {Q₁ : Value → Shared → Prop} (hh : A.handled = none) (hit : IsRt s.heap it t ((items.size : Int) - 1)) (hl : IsTup s.heap t items) (hne : t ≠ it) (hn : items.size ≤ sizeLine)
    (h : ∀ (h' : Heap) (tk : Nat) (acc : Array Value), (∀ b o, b ≠ it → s.heap.get? b = some o → h'.get? b = some o) → ItemsOf (fun i v => items[items.size - 1 - i]? = some v) acc items.size →
      Q₁ (.ref h'.objs.size) { s with heap := h'.push { cls := .type "tuple", data := .seq acc }, toks := tk }) :
    codeAny (model prog w) A (.call (.builtin "tuple.__new__") ⟨[.type "tuple", .ref it], []⟩) (wants Q₁ E) s := by
  refine codeAny_of_tree ?_
  show wpAny _ A.in1 (do checkBuiltinCall "tuple.__new__" ⟨[.type "tuple", .ref it], []⟩; again (.builtin "tuple.__new__" ⟨[.type "tuple", .ref it], []⟩)) _ _ s
  refine wpAny_bind (wpAny_of_eq (F.newCall_tuple_1 _) (wpAny_pure ⟨plainId_quiet F.plain_tuple_new _, codeAny_builtin F.entry_tuple_new ?_⟩))
  rw [Around.under_plainId F.plain_tuple_new _]
  have hsub := sub_tuple_self
  have hinit := init_tuple_lookup
  have hmh := madeHere_tuple
  have hTI : s.TypeIs (.ref it) "reversed" := hit.typeIs
  have hh1 : A.in1.handled = none := hh
  wp_walk using wpAny_typeOf hTI, collect_rt (A := A.in1) hh1 hit hl hne hn
  intro h' tk acc hk hacc
  show wpAny _ _ (Builtin.Tuple.tupleExact acc.toList.toArray >>= fun v => ret v) _ _ _
  unfold Builtin.Tuple.tupleExact
  refine wpAny_bind (wpAny_newObj_type ?_ (by show acc.toList.toArray.size ≤ sizeLine; simp only [Array.toArray_toList]; rw [hacc.1]; exact hn))
  refine wpAny_pure ?_
  have e : acc.toList.toArray = acc := by simp
  rw [e]
  exact h h' tk acc hk hacc
theorem call_tuple_rt {it t : Addr} {items : Array Value} {Q : Value → Shared → Prop} (hh : A.handled = none) (hit : IsRt s.heap it t ((items.size : Int) - 1)) (hl : IsTup s.heap t items) (hne : t ≠ it) (hn : items.size ≤ sizeLine)
    (hQ : ∀ (h' : Heap) (tk : Nat) (acc : Array Value), (∀ b o, b ≠ it → s.heap.get? b = some o → h'.get? b = some o) → ItemsOf (fun i v => items[items.size - 1 - i]? = some v) acc items.size →
      Q (.ref h'.objs.size) { s with heap := h'.push { cls := .type "tuple", data := .seq acc }, toks := tk }) :
    wpAny (model prog w) A (call (.type "tuple") [.ref it]) Q E s := by
  refine callType_codes (Q₁ := fun obj s₁ => s₁.TypeIs obj "tuple" ∧ Q obj s₁) F.called_tuple (F.typeCall_tuple_1 _) F.entry_object_init
    (code_tuple_new_rt (A := A.in1) hh hit hl hne hn fun h' tk acc hk hacc => ⟨⟨_, Heap.get?_push_size _ rfl, rfl⟩, hQ h' tk acc hk hacc⟩) fun obj s₁ h₁ => ?_
  exact ⟨h₁.1, F.args_object_init_2 obj _, object_init_meets F.called_tuple.init.lookup F.called_tuple.made (by decide) prog w A.in1 _ s₁ ⟨h₁.1, rfl, h₁.2⟩⟩
end
end RT
namespace Sw
open PySem L2
/-! ### tuple(reversed(a tuple)) -/
section
variable {X : Cx}
open PySem.Spec PyProof.Rows in
theorem pe_tupRevT {e : Expr} {te : TE} {p p2 pos pos2 : Pos} (hc : X.calm = true) (hg : Gl X "tuple") (hm : X.mg "tuple" = none) (hg2 : Gl X "reversed") (hm2 : X.mg "reversed" = none) (he : PE X e te)
    (hs : starEach [e] X.env = (false, eval e X.env) :: starEach [] X.env := by rfl)
    (hs2 : starEach [.Call (.Name "reversed" p2) [e] [] pos2] X.env = (false, eval (.Call (.Name "reversed" p2) [e] [] pos2) X.env) :: starEach [] X.env := by rfl) :
    PE X (.Call (.Name "tuple" p) [.Call (.Name "reversed" p2) [e] [] pos2] [] pos) (fun σ H Q => te σ H fun v H1 => ∃ (a : Addr) (xs : List L2.V), v = .ref a ∧ SqT X.K H1 a xs ∧ ∀ q o, H1 q = none → o.dict = none → Q (.ref q) (upd H1 q (.frz o (.tup xs.reverse)))) := by
  refine ⟨fun pins s σ H Q I h => ?_⟩
  refine Call_ (ld_blt I hg hm boot_tuple (PyProof.Rows.callWith_type1 (args_cons (Call_ (ld_blt I hg2 hm2 PyProof.Rows.boot_reversed (PyProof.Rows.callWith_type1 (args_cons (thn (he.run pins s σ H _ I h) fun u s1 ⟨v, H1, I1, r1, q1⟩ => args_nil ?_) hs) hs rfl))) hs2) hs2 rfl))
  obtain ⟨a, xs, ev, hq, q⟩ := q1
  subst ev
  obtain rfl : u = Value.ref a := r1
  obtain ⟨its, rv, p', hz⟩ := I1.tuple hq
  have hl := rv.length
  have hn' := line63
  have hn : its.toArray.size ≤ sizeLine := by rw [List.size_toArray, ← rv.length]; exact hz
  refine RT.call_reversed_tup p' (fun A E Q k => PyProof.Rows.len_tuple p' (by simp only [List.size_toArray] <;> omega) k) (args_nil ?_)
  have k0 : ∀ b o, s1.heap.get? b = some o → (s1.heap.push (RT.rtObj a ((its.toArray.size : Int) - 1))).get? b = some o := fun b o e => Heap.get?_push_of_some _ e
  have I2 : Inv X pins σ H1 { s1 with heap := s1.heap.push (RT.rtObj a ((its.toArray.size : Int) - 1)), toks := s1.toks + 1 + 1 } := I1.kept (t' := s1.toks + 1 + 1) k0
  obtain ⟨f0, f1, f2, f3, f4, f5⟩ := I1.fpOk (H' := H1) (b := s1.heap.objs.size) (Nat.le_refl _) (I1.hok.fresh (Nat.le_refl _))
  obtain ⟨ol, hol, _⟩ := id p'
  have hne : a ≠ s1.heap.objs.size := Nat.ne_of_lt (Heap.lt_size hol)
  have hl' : PyProof.Rows.IsTup (s1.heap.push (RT.rtObj a ((its.toArray.size : Int) - 1))) a its.toArray := RT.tup_at p' fun o e => Heap.get?_push_of_some _ e
  refine RT.call_tuple_rt (s := { s1 with heap := s1.heap.push (RT.rtObj a ((its.toArray.size : Int) - 1)), toks := s1.toks + 1 + 1 }) (I1.ok.hd hc) ⟨_, Heap.get?_push_size _ rfl, rfl, rfl⟩ hl' hne hn fun h' tk acc hk hi => ?_
  have I3 : Inv X pins σ H1 { s1 with heap := h', toks := tk } := I2.turned (t' := tk) (fun b o hb e => hk b o hb e) f0 f1 f3 f4 f5
  have get := Heap.get?_push_size h' (o := { cls := .type "tuple", data := .seq acc }) rfl
  refine ⟨.ref h'.objs.size, upd H1 h'.objs.size (.frz { cls := .type "tuple", data := .seq acc } (.tup xs.reverse)), I3.laid (t' := tk) (o := .frz { cls := .type "tuple", data := .seq acc } (.tup xs.reverse)) (fun c o e => Heap.get?_push_of_some _ e) (Nat.le_refl _) (show ObjOk X.prog X.w _ _ _ (.frz _ _) from ⟨get, by rw [List.length_reverse]; exact hz, acc.toList, RT.vals_rev rv hi, ?_⟩), rfl, q _ _ (I3.hok.fresh (Nat.le_refl _)) rfl⟩
  rw [Array.toArray_toList]
  exact ⟨_, get, rfl, _, rfl⟩
end
section
variable {N : List Str} {sc : Scope} {CX : CXT} {φ : Orc} {ex : Expr}
theorem a1_revT {p p2 q pos : Pos} (hg : GlS sc (Str.ofString "tuple")) (hg2 : GlS sc (Str.ofString "reversed")) (hs : noStar ex = true) : A1 N sc CX φ .revT ex (.Call (.Name (Str.ofString "tuple") p) [.Call (.Name (Str.ofString "reversed") p2) [ex] [] q] [] pos) := by
  refine A1.mk (r := fun X v H Q => ∃ (a : Addr) (xs : List L2.V), v = .ref a ∧ SqT X.K H a xs ∧ ∀ q o, H q = none → o.dict = none → Q (.ref q) (upd H q (.frz o (.tup xs.reverse)))) (fun X G => pe_tupRevT G.calm (G.gl hg) (G.blt "tuple" (by decide)) (G.gl hg2) (G.blt "reversed" (by decide)) (peE ex) (star_of hs)) fun X G σ H F e Q x w v hw l rel vw k => ?_
  cases x <;> first | (cases hw; done) | skip
  cases hw
  obtain ⟨a, vs, rfl, h1, h2⟩ := vw.tup rel.sub
  exact ⟨a, vs, rfl, rel.sub.sqT h1.sq, fun p o hp ho => k.tup rel (rpAll_back h2) hp ho⟩
end
/-! ### min of a list of int tuples -/
theorem tupsI_eq : ∀ {xs : List D} {ts : List (List Int)}, tupsI xs = some ts → xs = ts.map fun t => .tuple (t.map .int)
  | [], _, h => by cases h; rfl
  | x :: r, _, h => by
    cases x <;> first | (cases h; done) | skip
    simp only [tupsI, Option.bind_eq_some_iff, Option.map_eq_some_iff] at h
    obtain ⟨k, h1, l, h2, rfl⟩ := h
    rw [List.map_cons, ← tupsI_eq h2, ints_eq h1]
theorem lt_toks : ∀ ns ms : List Int, PyProof.Rows.lexLt PyProof.Rows.itemOrd (PySem.W.keyToksAll (ns.map .int)) (PySem.W.keyToksAll (ms.map .int)) = lexB ns ms
  | [], [] => by simp only [List.map_nil, PySem.W.keyToksAll, lexB]; exact PyProof.Rows.lex_self (O := PyProof.Rows.itemOrd) _ [] []
  | [], m :: ms => by
    simp only [List.map_nil, List.map_cons, PySem.W.keyToksAll, lexB]
    rw [PyProof.Rows.lex_diff (O := PyProof.Rows.itemOrd) (by simp)]
    rfl
  | n :: ns, [] => by
    simp only [List.map_nil, List.map_cons, PySem.W.keyToksAll, lexB]
    rw [PyProof.Rows.lex_diff (O := PyProof.Rows.itemOrd) (by simp)]
    rfl
  | n :: ns, m :: ms => by
    simp only [List.map_cons, PySem.W.keyToksAll, lexB, PySem.W.keyToks, List.cons_append, List.nil_append]
    rw [PyProof.Rows.lex_self (O := PyProof.Rows.itemOrd)]
    by_cases h : n = m
    · subst h
      rw [PyProof.Rows.lex_self (O := PyProof.Rows.itemOrd), if_pos rfl, lt_toks ns ms]
    · rw [PyProof.Rows.lex_diff (O := PyProof.Rows.itemOrd) (fun q => h (Sum.inl.inj q)), if_neg h]
      rfl
theorem lt_tups (ns ms : List Int) : PySem.W.dataLt (.tuple (ns.map .int)) (.tuple (ms.map .int)) = lexB ns ms := by
  rw [PySem.W.dataLt_tuple, lt_toks]
theorem minD_tups : ∀ (r : List (List Int)) (t : List Int), PySem.W.minD (.tuple (t.map .int)) (r.map fun t => .tuple (t.map .int)) = .tuple ((r.foldl (fun a b => if lexB b a then b else a) t).map .int)
  | [], t => rfl
  | m :: r, t => by
    rw [List.foldl_cons, ← minD_tups r]
    unfold PySem.W.minD
    rw [List.map_cons, List.foldl_cons, lt_tups]
    by_cases h : lexB m t = true
    · rw [if_pos h, if_pos h]
    · rw [if_neg h, if_neg h]
theorem ints_alike : ∀ ns ms : List Int, PySem.W.alikeAll (ns.map .int) (ms.map .int) = true
  | [], _ => by simp [PySem.W.alikeAll]
  | _ :: _, [] => by simp [PySem.W.alikeAll]
  | n :: ns, m :: ms => by simp [PySem.W.alikeAll, PySem.W.alike, ints_alike ns ms]
theorem ints_depth : ∀ ns : List Int, PyData.depthAll (ns.map PyData.int) ≤ 1
  | [] => by simp [PyData.depthAll]
  | n :: ns => by
    have := ints_depth ns
    simp only [List.map_cons, PyData.depthAll, PyData.depth]
    omega
theorem tups_depth : ∀ ts : List (List Int), PyData.depthAll (ts.map fun t => .tuple (t.map PyData.int)) ≤ 2
  | [] => by simp [PyData.depthAll]
  | n :: ns => by
    have := tups_depth ns
    have := ints_depth n
    simp only [List.map_cons, PyData.depthAll, PyData.depth]
    omega
theorem ints_lay : ∀ ns : List Int, PyData.canLayAll0 (ns.map PyData.int) = true
  | [] => by simp [PyData.canLayAll0]
  | n :: ns => by simp [PyData.canLayAll0, PyData.canLay0, ints_lay ns]
theorem tups_lay : ∀ ts : List (List Int), PyData.canLayAll0 (ts.map fun t => .tuple (t.map PyData.int)) = true
  | [] => by simp [PyData.canLayAll0]
  | n :: ns => by simp [PyData.canLayAll0, PyData.canLay0, ints_lay n, tups_lay ns]
theorem rpAll_at {K : Frag} {F : Hp} : ∀ {vs : List L2.V} {xs : List D}, RpAll K F vs xs → ∀ (i : Nat) (x : D), xs[i]? = some x → ∃ v, vs[i]? = some v ∧ Rp K F v x
  | _, _, .nil, i, x, h => by simp at h
  | _, _, .cons (v := v) h1 h2, 0, x, h => by
    simp at h
    subst h
    exact ⟨v, by simp, h1⟩
  | _, _, .cons h1 h2, i + 1, x, h => by
    simp at h
    obtain ⟨u, k1, k2⟩ := rpAll_at h2 i x h
    exact ⟨u, by simpa using k1, k2⟩
section
variable {X : Cx}
theorem cr_minT (hc : X.calm = true) (hu : X.A.units + 65 < cLine) : CallR X (.builtin "min") fun vs H Q => ∃ (a : Addr) (xs : List L2.V) (F : Hp) (t : List Int) (r : List (List Int)), vs = [.ref a] ∧ SqL X.K H a xs ∧ Sub F H ∧ RpAll X.K F xs ((t :: r).map fun t => .tuple (t.map .int)) ∧
    ∀ v, Rp X.K F v (.tuple ((r.foldl (fun a b => if lexB b a then b else a) t).map .int)) → Q v H := by
  intro pins s σ H vs us Q I rr h
  obtain ⟨a, xs, F, t, r, rfl, hs, sb, ha, q⟩ := h
  obtain ⟨its, rv, hl, hz⟩ := I.list hs
  rw [Vals.ref1 rr]
  obtain ⟨as, h4⟩ := Dp.readsAll I _ _ its (Rp.dps _ _ (tups_lay (t :: r)) (sb.rpAll _ _ ha)) rv
  have al : PySem.W.AlikeAll ((t :: r).map fun t => PyData.tuple (t.map .int)) := by
    refine ⟨fun x hx y hy => ?_, fun x hx => ?_⟩
    · obtain ⟨n, _, rfl⟩ := List.mem_map.mp hx
      obtain ⟨m, _, rfl⟩ := List.mem_map.mp hy
      simp [PySem.W.alike, ints_alike]
    · obtain ⟨n, _, rfl⟩ := List.mem_map.mp hx
      intro e
      cases e
  have dp := tups_depth (t :: r)
  have hn : its.toArray.size = r.length + 1 := by
    have e := PySem.SeqAt.ReadsAll.length _ _ _ h4
    simpa using e
  refine PySem.call_min_walkH (PySem.W.iter_listW (A := X.A.in1) (I.ok.hd hc) hl.isList fun s₂ e W st hfp hw hk => ?_)
  refine ⟨_, _, _, _, _, _, _, s.heap, _, rfl, W, st, hfp, by omega, hw, hk, PySem.W.cmpIn_lt (A := X.A.in1) (vs := its.toArray) (as := as) (xs := (t :: r).map fun t => PyData.tuple (t.map .int)) h4 al (by show X.A.units + 1 + _ < _; omega), fun v s' hP m => ?_⟩
  obtain ⟨h', tk, rfl, hk'⟩ := PySem.W.moved_old e rfl m
  have e1 : its.toArray.size - 1 = r.length := by omega
  obtain ⟨b1, b2⟩ := PySem.W.argBest_fold PySem.W.dataLt PyData.none (.tuple (t.map .int)) (r.map fun t => PyData.tuple (t.map .int)) r.length (by rw [List.length_map]; exact Nat.le_refl _)
  rw [e1] at hP
  rw [List.take_of_length_le (by rw [List.length_map]; exact Nat.le_refl _)] at b2
  have b3 : (r.map fun t => PyData.tuple (t.map .int)).foldl (fun a y => if PySem.W.dataLt y a then y else a) (.tuple (t.map .int)) = .tuple ((r.foldl (fun a b => if lexB b a then b else a) t).map .int) := minD_tups r t
  rw [b3] at b2
  generalize hj : PySem.argBest (fun i j => PySem.W.dataLt ((((t :: r).map fun t => PyData.tuple (t.map .int))).getD i PyData.none) ((((t :: r).map fun t => PyData.tuple (t.map .int))).getD j PyData.none)) r.length = jj at hP
  have hj2 : ((t :: r).map fun t => PyData.tuple (t.map .int)).getD jj PyData.none = .tuple ((r.foldl (fun a b => if lexB b a then b else a) t).map .int) := by rw [← hj]; exact b2
  have hj3 : jj ≤ r.length := by rw [← hj]; exact b1
  have hj4 : ((t :: r).map fun t => PyData.tuple (t.map .int))[jj]? = some (.tuple ((r.foldl (fun a b => if lexB b a then b else a) t).map .int)) := by
    have : jj < ((t :: r).map fun t => PyData.tuple (t.map PyData.int)).length := by simp; omega
    rw [List.getD_eq_getElem?_getD, List.getElem?_eq_getElem this] at hj2
    rw [List.getElem?_eq_getElem this]
    exact congrArg some hj2
  obtain ⟨u, k1, k2⟩ := rpAll_at ha jj _ hj4
  obtain ⟨u2, k3, k4⟩ := rv.get k1
  have : u2 = v := by
    have hP' : its[jj]? = some v := by simpa using hP
    rw [k3] at hP'
    exact Option.some.inj hP'
  subst this
  exact ⟨u, H, I.kept (t' := tk) hk', k4, q u k2⟩
end
section
variable {N : List Str} {sc : Scope} {CX : CXT} {φ : Orc} {ex : Expr}
theorem a1_minT {p pos : Pos} (hg : GlS sc (Str.ofString "min")) (hs : noStar ex = true) : A1 N sc CX φ .minT ex (.Call (.Name (Str.ofString "min") p) [ex] [] pos) := by
  refine A1.mk (fun X G => pe_blt1 G (by decide) (cr_minT G.calm (by have := G.units; omega)) hg PyProof.Rows.boot_min (by decide +kernel) hs) fun X G σ H F e Q x w v hw l rel vw k => ?_
  cases x <;> first | (cases hw; done) | skip
  simp only [op1, Option.bind_eq_some_iff, Option.map_eq_some_iff] at hw
  obtain ⟨ts, h0, m, hm, rfl⟩ := hw
  obtain ⟨a, vs, rfl, h1, h2⟩ := vw.list rel.sub
  rw [tupsI_eq h0] at h2
  cases ts with
  | nil => cases hm
  | cons t r =>
    cases hm
    exact ⟨a, vs, F, t, r, rfl, h1, rel.sub, h2, fun v hv => k.val rel hv⟩
/-! ### list.count -/
theorem mt_countD {X : Cx} (hu : X.A.units + 65 < cLine) : MtR X "list.count" fun x xs H Q => ∃ (a : Addr) (y : L2.V) (d : PyData) (ds : List PyData), x = L2.V.ref a ∧ xs = [y] ∧ Dp X.K H (L2.V.ref a) (.list ds) ∧ Dp X.K H y d ∧
    SeqAt.shaped (.list ds) = true ∧ SeqAt.shaped d = true ∧ Q (.int (ds.countP fun z => PyData.eqv z d : Nat)) H := by
  intro pins s σ H x xs v us Q I rx rxs h
  obtain ⟨a, y, d, ds, rfl, rfl, hl, hy, sl, sd, q⟩ := h
  cases rx
  obtain ⟨uy, rfl, ry⟩ := rxs.one
  obtain ⟨bs, r1⟩ := Dp.reads I d y uy hy ry
  have hxs : PyData.canLayAll0 ds = true := SeqAt.canLay_of_shaped sl
  have hroom : X.A.units + 1 + min (PyData.depthAll ds) d.depth < cLine := PyProof.Rows.room_in_shaped sd hu
  cases hl with
  | lst hs ha =>
    obtain ⟨its, rv, ⟨⟨cls, dd, data, sls⟩, n, ho, hc, hdn, hdt⟩, hlen⟩ := I.list hs
    simp only at hc hdt
    subst hc hdt
    obtain ⟨as, h4⟩ := Dp.readsAll I ds _ its ha rv
    have hmap : its.map (SeqAt.readOf s.heap) = ds := SeqAt.readsAll_map ds its as hxs h4
    refine call_meets PySem.F.slot_list_count ⟨_, ho, rfl⟩ PySem.F.entry_list_count (PySem.F.args_list_count_2 _ _)
      (SeqAt.list_countAt a its.toArray n dd sls uy (fun u => PyData.eqv (SeqAt.readOf s.heap u) d)) ⟨ho, SeqAt.items_eqAt (vs := its.toArray) (show ReadsAll s.heap its.toArray.toList ds as from h4) r1 hxs (SeqAt.canLay_of_shaped sd) hroom, ?_⟩
    refine ⟨L2.V.int (ds.countP fun z => PyData.eqv z d : Nat), H, I.tok _, ⟨s.toks, ?_⟩, q⟩
    have e : List.countP (fun u => PyData.eqv (SeqAt.readOf s.heap u) d) its = List.countP (fun z => PyData.eqv z d) ds := by
      rw [← hmap, List.countP_map]
      rfl
    show Value.int ((List.countP (fun u => PyData.eqv (SeqAt.readOf s.heap u) d) its : Nat) : Int) s.toks = _
    rw [e]
end
section
variable {N : List Str} {sc : Scope} {CX : CXT} {φ : Orc} {ex ey : Expr}
theorem countD_inv {x y : D} {w : V} (h : countD x y = some w) : ∃ xs, x = .list xs ∧ shapedB x = true ∧ shapedB y = true ∧ w = .d (.int (xs.countP fun z => z.eqv y : Nat)) := by
  unfold countD at h
  split at h
  · split at h
    · rename_i hc
      rw [Bool.and_eq_true] at hc
      cases h
      exact ⟨_, rfl, hc.1, hc.2, rfl⟩
    · cases h
  · cases h
theorem se_count {a b : E} {apos cpos : Pos} (ha : SO N sc CX ex φ (opW (evalE φ a) a)) (hb : SO N sc CX ey φ (opW (evalE φ b) b)) (hs : isBase ex = true) (hline : (apos.endLine == cpos.line) = true) (hn : noStar ey = true) :
    SE N sc CX (.Call (.Attribute ex (Str.ofString "count") apos) [ey] [] cpos) φ (evalE φ (.count a b)) := by
  intro X G e w e' hr F H σ Q rel k
  simp only [evalE] at hr
  obtain ⟨⟨oa, e1⟩, r1, r2⟩ := bind_inv hr
  obtain ⟨x0, r3, r4⟩ := bind_inv r2
  obtain ⟨⟨ob, e2⟩, r7, r8⟩ := bind_inv r4
  obtain ⟨x, r9, r10⟩ := bind_inv r8
  obtain ⟨y, r11, r12⟩ := bind_inv r10
  dsimp only at r12
  split at r12
  case isFalse => cases r12
  rename_i hk
  obtain ⟨r13, rfl⟩ := ret1_inv r12
  obtain ⟨xs, rfl, i2, i3, rfl⟩ := countD_inv r13
  have hu : X.A.units + 65 < cLine := by have := G.units; omega
  refine RE.of (pe_m1 PySem.F.plainAttrs_list PySem.F.slot_list_count PySem.F.type_list_count (mt_countD hu) hs hline hn) ?_
  refine ha X G e oa e1 r1 F H σ _ rel fun u F1 H1 p1 o1 _ => ?_
  obtain ⟨ys, hys⟩ : ∃ ys, x0 = .list ys := by
    have := hk.1
    cases x0 <;> first | (cases this; done) | exact ⟨_, rfl⟩
  subst hys
  rcases o1.seq p1.rel (ofO_inv r3) (show seqOf (.list ys) = some ys from rfl) with ⟨_, c, vs, rfl, hc⟩ | ⟨z, _⟩
  · refine ⟨ty_list hc, hb X G e1 ob _ r7 F1 H1 σ _ p1.rel fun v F2 H2 p2 o2 _ => ?_⟩
    have p := p1.trans p2
    have vx := (o1.stay p2).view p.rel (ofO_inv r9)
    have vy := o2.view p.rel (ofO_inv r11)
    exact ⟨c, v, y, xs, rfl, rfl, vx.dp p.rel.sub (lay_of i2), vy.dp p.rel.sub (lay_of i3), i2, i3, k _ _ _ p (.int _) trivial⟩
  · cases z
end
end Sw
end T_SwFw
section T_SwP
set_option autoImplicit false
set_option linter.all false
set_option Elab.async false
set_option maxRecDepth 100000
set_option maxHeartbeats 2000000
/-! SwP: the check of the text against the core term, and that it is enough. -/
namespace Sw
open PySem L2
def cName (N : List Str) (sc : Scope) (i : Nat) (ex : Expr) : Bool := match ex with
  | .Name x _ => decide (N[i]? = some x) && isVis sc x && plainName x
  | _ => false
def glB (sc : Scope) (x : Str) : Bool := decide (sc.names.lookup x = some .globalImplicit)
def bName : O1 → Option String
  | .len => some "len" | .tupleOf => some "tuple" | .listOf => some "list" | .sum => some "sum" | .minOf => some "min" | .minT => some "min" | .maxOf => some "max" | .all => some "all" | .any => some "any"
  | .repr => some "repr" | .strOf => some "str" | .intOf => some "int" | .sorted => some "sorted" | _ => none
def cCall1 (sc : Scope) (b : String) (ex : Expr) (f : Expr → Bool) : Bool := match ex with
  | .Call (.Name nm _) [x] [] _ => decide (nm = Str.ofString b) && glB sc nm && noStar x && f x
  | _ => false
def cCall2 (sc : Scope) (b : String) (ex : Expr) (f g : Expr → Bool) : Bool := match ex with
  | .Call (.Name nm _) [x, y] [] _ => decide (nm = Str.ofString b) && glB sc nm && noStar x && noStar y && f x && g y
  | _ => false
def cCall3 (sc : Scope) (b : String) (ex : Expr) (f g h : Expr → Bool) : Bool := match ex with
  | .Call (.Name nm _) [x, y, z] [] _ => decide (nm = Str.ofString b) && glB sc nm && noStar x && noStar y && noStar z && f x && g y && h z
  | _ => false
def cMeth1 (m : String) (ex : Expr) (f g : Expr → Bool) : Bool := match ex with
  | .Call (.Attribute o nm ap) [x] [] cp => decide (nm = Str.ofString m) && (ap.endLine == cp.line) && noStar x && f o && g x
  | _ => false
def cMeth2 (m : String) (ex : Expr) (f g h : Expr → Bool) : Bool := match ex with
  | .Call (.Attribute o nm ap) [x, y] [] cp => decide (nm = Str.ofString m) && (ap.endLine == cp.line) && noStar x && noStar y && f o && g x && h y
  | _ => false
def cDisp : Expr → Bool
  | .Dict [] [] _ => true
  | _ => false
def cMeth0 (m : String) (ex : Expr) (f : Expr → Bool) : Bool := match ex with
  | .Call (.Attribute o nm ap) [] [] cp => decide (nm = Str.ofString m) && (ap.endLine == cp.line) && f o
  | _ => false
def cCmp (ex : Expr) (p : CmpOp → Expr → Expr → Bool) : Bool := match ex with
  | .Compare x [o] [y] _ => p o x y
  | _ => false
def isK (c : Const) : Expr → Bool | .Constant d _ _ => decide (d = c) | _ => false
def isNm (t : String) : Expr → Bool | .Name x _ => decide (x = Str.ofString t) | _ => false
def c1 (sc : Scope) (o : O1) (ex : Expr) (f : Expr → Bool) : Bool := match o with
  | .neg => (match ex with | .UnaryOp .USub x _ => f x | _ => false)
  | .isNone b => cCmp ex fun p x y => decide (p = if b then .Is else .IsNot) && isK .none y && f x
  | .isBool v b => cCmp ex fun p x y => decide (p = if b then .Is else .IsNot) && isK (.bool v) y && f x
  | .rev => (match ex with | .Subscript x (.Slice none none (some (.UnaryOp .USub (.Constant (.int 1) _ _) _)) _) _ => f x | _ => false)
  | .lenSet => cCall1 sc "len" ex fun y => cCall1 sc "set" y f
  | .revT => cCall1 sc "tuple" ex fun y => cCall1 sc "reversed" y f
  | .bits => cMeth0 "bit_length" ex fun x => isBase x && f x
  | .isi t => isiOk t && glB sc (Str.ofString t) && cCall2 sc "isinstance" ex f fun y => isNm t y
  | o => (match bName o with | some b => cCall1 sc b ex f | none => false)
def copOf : O2 → Option CmpOp
  | .eq => some .Eq | .ne => some .NotEq | .lt => some .Lt | .le => some .LtE | .gt => some .Gt | .ge => some .GtE | .inn => some .In | .notin => some .NotIn | _ => none
def bopOf : O2 → Option Operator
  | .add => some .Add | .sub => some .Sub | .mul => some .Mult | .fdiv => some .FloorDiv | .mod => some .Mod | .pow => some .Pow | .shl => some .LShift | .shr => some .RShift | .band => some .BitAnd | .bxor => some .BitXor | _ => none
def cIdx (ex : Expr) (f g : Expr → Bool) : Bool := match ex with
  | .Subscript x y _ => !isSl y && f x && g y
  | _ => false
def cBop (op : Operator) (ex : Expr) (f g : Expr → Bool) : Bool := match ex with
  | .BinOp x p y _ => decide (p = op) && f x && g y
  | _ => false
def c2 (sc : Scope) (o : O2) (ex : Expr) (f g : Expr → Bool) : Bool := match copOf o with
  | some op => cCmp ex fun p x y => decide (p = op) && !behindInMarks p y && f x && g y
  | none => match bopOf o with
    | some op => cBop op ex f g
    | none => match o with
      | .idx => cIdx ex f g
      | .min2 => cCall2 sc "min" ex f g
      | .max2 => cCall2 sc "max" ex f g
      | _ => false
def isTup : Expr → Bool | .Tuple _ _ _ => true | _ => false
mutual
def cTg (N : List Str) (L : Str → Bool) : T → Expr → Bool
  | .n i, tg => (match tg with | .Name x _ => decide (N[i]? = some x) && L x | _ => false)
  | .p ts, tg => (match tg with | .Tuple tgs _ _ => allNoStar tgs && decide (tgs.length = ts.length) && cTgs N L ts tgs | _ => false)
def cTgs (N : List Str) (L : Str → Bool) : List T → List Expr → Bool
  | [], tgs => (match tgs with | [] => true | _ => false)
  | t :: ts, tgs => (match tgs with | tg :: r => cTg N L t tg && cTgs N L ts r | [] => false)
end
def plS : Src → Bool | .zip2 _ _ => false | .enum _ => false | _ => true
def isRg : Src → Bool | .rng1 _ => true | .rng2 _ _ => true | .rng3 _ _ _ => true | _ => false
/-- a test's shape -/
def cTe (a : E) (ex : Expr) : Bool := isPlainT ex || (match a with
  | .o2 o _ _ => (copOf o).isSome
  | .chain _ _ _ _ _ => true
  | .din _ _ _ => true
  | .tin _ _ _ => true
  | .o1 o _ => (match o with | .isNone _ => true | .isBool _ _ => true | _ => false)
  | _ => false)
def ownS (N : List Str) (own : List Nat) : List (Str × Nat) := own.map fun i => ((N[i]?).getD (Str.ofString ""), i)
mutual
def cE (N : List Str) : E → Scope → Expr → Bool
  | .var i, sc, ex => cName N sc i ex
  | .mv i, sc, ex => cName N sc i ex
  | .non, _, ex => isK .none ex
  | .bl b, _, ex => isK (.bool b) ex
  | .int i, _, ex => isK (.int i) ex
  | .str s, _, ex => isK (.str (Str.ofString s)) ex
  | .tup es, sc, ex => (match ex with | .Tuple xs _ _ => cEs N es sc xs | _ => false)
  | .lst es, sc, ex => (match ex with | .List xs _ => cEs N es sc xs | _ => false)
  | .rep tp es a, sc, ex => !tp && cBop .Mult ex (fun x => match x with | .List xs _ => cEs N es sc xs | _ => false) (fun y => cE N a sc y)
  | .o1 o a, sc, ex => c1 sc o ex fun x => cE N a sc x
  | .o2 o a b, sc, ex => c2 sc o ex (fun x => cE N a sc x) (fun y => cE N b sc y)
  | .slice a lo hi, sc, ex => (match ex with | .Subscript x (.Slice l h none _) _ => cE N a sc x && cEo N lo sc l && cEo N hi sc h | _ => false)
  | .count a b, sc, ex => cMeth1 "count" ex (fun x => isBase x && cE N a sc x) (fun y => cE N b sc y)
  | .index a b, sc, ex => cMeth1 "index" ex (fun x => isBase x && cE N a sc x) (fun y => cE N b sc y)
  | .chain o o' a b c, sc, ex => (match ex with | .Compare x [p, p'] [y, z] _ => decide (copOf o = some p) && decide (copOf o' = some p') && !lastMarks [p, p'] [y, z] && cE N a sc x && cE N b sc y && cE N c sc z | _ => false)
  | .not a, sc, ex => (match ex with | .UnaryOp .Not x _ => cT N a sc x | _ => false)
  | .and a b, sc, ex => (match ex with | .BoolOp .And (x :: y :: r) p => cE N a sc x && (match r with | [] => cE N b sc y | _ => cE N b sc (.BoolOp .And (y :: r) p)) | _ => false)
  | .or a b, sc, ex => (match ex with | .BoolOp .Or (x :: y :: r) p => cE N a sc x && (match r with | [] => cE N b sc y | _ => cE N b sc (.BoolOp .Or (y :: r) p)) | _ => false)
  | .ite t a b, sc, ex => (match ex with | .IfExp c x y _ => cT N t sc c && cE N a sc x && cE N b sc y | _ => false)
  | .call f as, sc, ex => (match ex with | .Call (.Name nm _) (x :: xs) [] _ => decide (isCon f = none) && decide (nm = Str.ofString f) && glB sc nm && plainName nm && cEs N as sc (x :: xs) | .Call (.Name nm _) [] [] _ => (match as with | .nil => true | _ => false) && decide (isCon f = none) && decide (nm = Str.ofString f) && glB sc nm && plainName nm | .Name nm _ => (match as with | .nil => true | _ => false) && (match isCon f with | some s => decide (nm = Str.ofString s) | none => false) && glB sc nm && plainName nm | _ => false)
  | .comp own t s cond elt, sc, ex => (match ex with
    | .ListComp el [⟨tg, iter, ifs, asy⟩] scope _ => decide (asy = 0) && cTg N (isLoc scope) t tg && (plS s || (isP t && isTup tg)) && (slotsT t).all (fun j => own.contains j) && blkC N sc scope (ownS N own) && !isSetE iter && cSrc N s sc iter && cCo N cond (relS scope sc) ifs && cE N elt (relS scope sc) el
    | _ => false)
  | .ofSrc tup s, sc, ex => isRg s && cCall1 sc (if tup then "tuple" else "list") ex (fun x => cSrc N s sc x)
  | .pop i a, sc, ex => cMeth1 "pop" ex (cName N sc i) (fun y => cE N a sc y)
  | .popl i, sc, ex => cMeth0 "pop" ex (cName N sc i)
  | .app i a, sc, ex => cMeth1 "append" ex (cName N sc i) (fun y => cE N a sc y)
  | .ext i a, sc, ex => cMeth1 "extend" ex (cName N sc i) (fun y => cE N a sc y)
  | .dnew, _, ex => cDisp ex
  | .dlit j x, _, ex => (match ex with | .Dict [some y] [z] _ => isK (.int j) y && isK (.int x) z | _ => false)
  | .dof a, sc, ex => cCall1 sc "dict" ex (fun x => cE N a sc x)
  | .tnew, _, ex => cDisp ex
  | .sstep a lo k, sc, ex => (match ex with | .Subscript x (.Slice (some l) none (some y) _) _ => decide (0 < k) && isK (.int (k : Int)) y && cE N a sc x && cE N lo sc l | _ => false)
  | .tin b i a, sc, ex => cCmp ex fun o x y => decide (o = if b then .In else .NotIn) && cName N sc i y && cE N a sc x
  | .tget i a, sc, ex => cIdx ex (cName N sc i) (fun y => cE N a sc y)
  | .tgtd i a b, sc, ex => cMeth2 "get" ex (cName N sc i) (fun y => cE N a sc y) (fun y => cE N b sc y)
  | .din b i a, sc, ex => cCmp ex fun o x y => decide (o = if b then .In else .NotIn) && cName N sc i y && cE N a sc x
  | .dget i a, sc, ex => cIdx ex (cName N sc i) (fun y => cE N a sc y)
  | .dgtd i a b, sc, ex => cMeth2 "get" ex (cName N sc i) (fun y => cE N a sc y) (fun y => cE N b sc y)
  | .dsetd i a b, sc, ex => cMeth2 "setdefault" ex (cName N sc i) (fun y => cE N a sc y) (fun y => cE N b sc y)
  | .dupd i a, sc, ex => cMeth1 "update" ex (cName N sc i) (fun y => cE N a sc y)
  | .dsort i, sc, ex => cCall1 sc "sorted" ex (cName N sc i)
  | .gapp i a j, sc, ex => (match ex with
    | .Call (.Attribute (.Call (.Attribute o nm ap) [y, .List [] _] [] cp) nm2 apos) [z] [] cpos => decide (nm = Str.ofString "setdefault") && decide (nm2 = Str.ofString "append") && (ap.endLine == cp.line) && (apos.endLine == cpos.line) && noStar y && cName N sc i o && cName N sc j z && cE N a sc y
    | _ => false)
def cEs (N : List Str) : Es → Scope → List Expr → Bool
  | .nil, _, xs => (match xs with | [] => true | _ => false)
  | .cons a r, sc, xs => (match xs with | x :: xr => noStar x && cE N a sc x && cEs N r sc xr | [] => false)
def cEo (N : List Str) : Eo → Scope → Option Expr → Bool
  | .no, _, x => (match x with | none => true | some _ => false)
  | .yes a, sc, x => (match x with | some ex => cE N a sc ex | none => false)
def cT (N : List Str) : Te → Scope → Expr → Bool
  | .e a, sc, ex => cTe a ex && cE N a sc ex
  | .not a, sc, ex => (match ex with | .UnaryOp .Not x _ => cT N a sc x | _ => false)
  | .and a b, sc, ex => (match ex with | .BoolOp .And (x :: y :: r) p => cT N a sc x && (match r with | [] => cT N b sc y | _ => cT N b sc (.BoolOp .And (y :: r) p)) | _ => false)
  | .or a b, sc, ex => (match ex with | .BoolOp .Or (x :: y :: r) p => cT N a sc x && (match r with | [] => cT N b sc y | _ => cT N b sc (.BoolOp .Or (y :: r) p)) | _ => false)
  | .ite t a b, sc, ex => (match ex with | .IfExp c x y _ => cT N t sc c && cT N a sc x && cT N b sc y | _ => false)
def cCo (N : List Str) : Co → Scope → List Expr → Bool
  | .no, _, xs => (match xs with | [] => true | _ => false)
  | .yes t, sc, xs => (match xs with | [x] => cT N t sc x | _ => false)
def cSrc (N : List Str) : Src → Scope → Expr → Bool
  | .seq a, sc, ex => cE N a sc ex
  | .rng1 a, sc, ex => cCall1 sc "range" ex fun x => cE N a sc x
  | .rng2 a b, sc, ex => cCall2 sc "range" ex (fun x => cE N a sc x) (fun y => cE N b sc y)
  | .rng3 a b c, sc, ex => cCall3 sc "range" ex (fun x => cE N a sc x) (fun y => cE N b sc y) (fun z => cE N c sc z)
  | .zip2 a b, sc, ex => cCall2 sc "zip" ex (fun x => cE N a sc x) (fun y => cE N b sc y)
  | .enum a, sc, ex => cCall1 sc "enumerate" ex fun x => cE N a sc x
end
section
variable {N : List Str} {CX : CXT} {φ : Orc} {sc : Scope} {ex : Expr}
theorem cName_inv {i : Nat} (h : cName N sc i ex = true) : ∃ x p, ex = .Name x p ∧ N[i]? = some x ∧ isVis sc x = true ∧ plainName x = true := by
  unfold cName at h
  split at h
  · simp only [Bool.and_eq_true, decide_eq_true_eq] at h
    exact ⟨_, _, rfl, h.1.1, h.1.2, h.2⟩
  · cases h
theorem isK_inv {c : Const} (h : isK c ex = true) : ∃ k p, ex = .Constant c k p := by
  unfold isK at h
  split at h
  · rw [of_decide_eq_true h]; exact ⟨_, _, rfl⟩
  · cases h
theorem cCall1_inv {b : String} {f : Expr → Bool} (h : cCall1 sc b ex f = true) : ∃ p x q, ex = .Call (.Name (Str.ofString b) p) [x] [] q ∧ GlS sc (Str.ofString b) ∧ noStar x = true ∧ f x = true := by
  unfold cCall1 at h
  split at h
  · simp only [Bool.and_eq_true, decide_eq_true_eq, glB] at h
    obtain ⟨⟨⟨rfl, h2⟩, h3⟩, h4⟩ := h
    exact ⟨_, _, _, rfl, h2, h3, h4⟩
  · cases h
theorem cCall2_inv {b : String} {f g : Expr → Bool} (h : cCall2 sc b ex f g = true) : ∃ p x y q, ex = .Call (.Name (Str.ofString b) p) [x, y] [] q ∧ GlS sc (Str.ofString b) ∧ noStar x = true ∧ noStar y = true ∧ f x = true ∧ g y = true := by
  unfold cCall2 at h
  split at h
  · simp only [Bool.and_eq_true, decide_eq_true_eq, glB] at h
    obtain ⟨⟨⟨⟨⟨rfl, h2⟩, h3⟩, h4⟩, h5⟩, h6⟩ := h
    exact ⟨_, _, _, _, rfl, h2, h3, h4, h5, h6⟩
  · cases h
theorem cCall3_inv {b : String} {f g k : Expr → Bool} (h : cCall3 sc b ex f g k = true) : ∃ p x y z q, ex = .Call (.Name (Str.ofString b) p) [x, y, z] [] q ∧ GlS sc (Str.ofString b) ∧ noStar x = true ∧ noStar y = true ∧ noStar z = true ∧ f x = true ∧ g y = true ∧ k z = true := by
  unfold cCall3 at h
  split at h
  · simp only [Bool.and_eq_true, decide_eq_true_eq, glB] at h
    obtain ⟨⟨⟨⟨⟨⟨⟨rfl, h2⟩, h3⟩, h4⟩, h5⟩, h6⟩, h7⟩, h8⟩ := h
    exact ⟨_, _, _, _, _, rfl, h2, h3, h4, h5, h6, h7, h8⟩
  · cases h
theorem cMeth1_inv {m : String} {f g : Expr → Bool} (h : cMeth1 m ex f g = true) : ∃ o ap x cp, ex = .Call (.Attribute o (Str.ofString m) ap) [x] [] cp ∧ (ap.endLine == cp.line) = true ∧ noStar x = true ∧ f o = true ∧ g x = true := by
  unfold cMeth1 at h
  split at h
  · simp only [Bool.and_eq_true, decide_eq_true_eq] at h
    obtain ⟨⟨⟨⟨rfl, h2⟩, h3⟩, h4⟩, h5⟩ := h
    exact ⟨_, _, _, _, rfl, h2, h3, h4, h5⟩
  · cases h
theorem cMeth2_inv {m : String} {f g k : Expr → Bool} (h : cMeth2 m ex f g k = true) : ∃ o ap x y cp, ex = .Call (.Attribute o (Str.ofString m) ap) [x, y] [] cp ∧ (ap.endLine == cp.line) = true ∧ noStar x = true ∧ noStar y = true ∧ f o = true ∧ g x = true ∧ k y = true := by
  unfold cMeth2 at h
  split at h
  · simp only [Bool.and_eq_true, decide_eq_true_eq] at h
    obtain ⟨⟨⟨⟨⟨⟨rfl, h2⟩, h3⟩, h4⟩, h5⟩, h6⟩, h7⟩ := h
    exact ⟨_, _, _, _, _, rfl, h2, h3, h4, h5, h6, h7⟩
  · cases h
theorem cDisp_inv (h : cDisp ex = true) : ∃ p, ex = .Dict [] [] p := by
  unfold cDisp at h
  split at h
  · exact ⟨_, rfl⟩
  · cases h
theorem cMeth0_inv {m : String} {f : Expr → Bool} (h : cMeth0 m ex f = true) : ∃ o ap cp, ex = .Call (.Attribute o (Str.ofString m) ap) [] [] cp ∧ (ap.endLine == cp.line) = true ∧ f o = true := by
  unfold cMeth0 at h
  split at h
  · simp only [Bool.and_eq_true, decide_eq_true_eq] at h
    obtain ⟨⟨rfl, h2⟩, h3⟩ := h
    exact ⟨_, _, _, rfl, h2, h3⟩
  · cases h
theorem cCmp_inv {f : CmpOp → Expr → Expr → Bool} (h : cCmp ex f = true) : ∃ x o y p, ex = .Compare x [o] [y] p ∧ f o x y = true := by
  unfold cCmp at h
  split at h
  · exact ⟨_, _, _, _, rfl, h⟩
  · cases h
theorem cBop_inv {op : Operator} {f g : Expr → Bool} (h : cBop op ex f g = true) : ∃ x y p, ex = .BinOp x op y p ∧ f x = true ∧ g y = true := by
  unfold cBop at h
  split at h
  · simp only [Bool.and_eq_true, decide_eq_true_eq] at h
    obtain ⟨⟨rfl, h2⟩, h3⟩ := h
    exact ⟨_, _, _, rfl, h2, h3⟩
  · cases h
theorem cIdx_inv {f g : Expr → Bool} (h : cIdx ex f g = true) : ∃ x y p, ex = .Subscript x y p ∧ isSl y = false ∧ f x = true ∧ g y = true := by
  unfold cIdx at h
  split at h
  · simp only [Bool.and_eq_true, Bool.not_eq_true'] at h
    obtain ⟨⟨h1, h2⟩, h3⟩ := h
    exact ⟨_, _, _, rfl, h1, h2, h3⟩
  · cases h
theorem plainIx_of {y : Expr} (h : isSl y = false) : PlainIx y := fun o i => by cases y <;> first | rfl | cases h
theorem c1_ok {o : O1} {f : Expr → Bool} (h : c1 sc o ex f = true) : ∃ x, f x = true ∧ A1 N sc CX φ o x ex := by
  cases o with
  | neg =>
    simp only [c1] at h
    split at h
    · exact ⟨_, h, a1_neg⟩
    · cases h
  | isNone b =>
    simp only [c1] at h
    obtain ⟨x, o, y, p, rfl, h0⟩ := cCmp_inv h
    simp only [Bool.and_eq_true, decide_eq_true_eq] at h0
    obtain ⟨⟨rfl, h2⟩, h3⟩ := h0
    obtain ⟨k, q, rfl⟩ := isK_inv h2
    exact ⟨x, h3, a1_isNone⟩
  | isBool v b =>
    simp only [c1] at h
    obtain ⟨x, o, y, p, rfl, h0⟩ := cCmp_inv h
    simp only [Bool.and_eq_true, decide_eq_true_eq] at h0
    obtain ⟨⟨rfl, h2⟩, h3⟩ := h0
    obtain ⟨k, q, rfl⟩ := isK_inv h2
    exact ⟨x, h3, a1_isBool⟩
  | len => obtain ⟨p, x, q, rfl, h1, h2, h3⟩ := cCall1_inv (b := "len") h; exact ⟨x, h3, a1_len h1 h2⟩
  | tupleOf => obtain ⟨p, x, q, rfl, h1, h2, h3⟩ := cCall1_inv (b := "tuple") h; exact ⟨x, h3, a1_tuple h1 h2⟩
  | listOf => obtain ⟨p, x, q, rfl, h1, h2, h3⟩ := cCall1_inv (b := "list") h; exact ⟨x, h3, a1_list h1 h2⟩
  | sum => obtain ⟨p, x, q, rfl, h1, h2, h3⟩ := cCall1_inv (b := "sum") h; exact ⟨x, h3, a1_sum h1 h2⟩
  | minOf => obtain ⟨p, x, q, rfl, h1, h2, h3⟩ := cCall1_inv (b := "min") h; exact ⟨x, h3, a1_min h1 h2⟩
  | minT => obtain ⟨p, x, q, rfl, h1, h2, h3⟩ := cCall1_inv (b := "min") h; exact ⟨x, h3, a1_minT h1 h2⟩
  | revT =>
    obtain ⟨p, x, q, rfl, h1, h2, h3⟩ := cCall1_inv (b := "tuple") h
    obtain ⟨p2, y, q2, rfl, h4, h5, h6⟩ := cCall1_inv (b := "reversed") h3
    exact ⟨y, h6, a1_revT h1 h4 h5⟩
  | maxOf => obtain ⟨p, x, q, rfl, h1, h2, h3⟩ := cCall1_inv (b := "max") h; exact ⟨x, h3, a1_max h1 h2⟩
  | all => obtain ⟨p, x, q, rfl, h1, h2, h3⟩ := cCall1_inv (b := "all") h; exact ⟨x, h3, a1_all h1 h2⟩
  | any => obtain ⟨p, x, q, rfl, h1, h2, h3⟩ := cCall1_inv (b := "any") h; exact ⟨x, h3, a1_any h1 h2⟩
  | repr => obtain ⟨p, x, q, rfl, h1, h2, h3⟩ := cCall1_inv (b := "repr") h; exact ⟨x, h3, a1_repr h1 h2⟩
  | strOf => obtain ⟨p, x, q, rfl, h1, h2, h3⟩ := cCall1_inv (b := "str") h; exact ⟨x, h3, a1_str h1 h2⟩
  | intOf => obtain ⟨p, x, q, rfl, h1, h2, h3⟩ := cCall1_inv (b := "int") h; exact ⟨x, h3, a1_int h1 h2⟩
  | sorted => obtain ⟨p, x, q, rfl, h1, h2, h3⟩ := cCall1_inv (b := "sorted") h; exact ⟨x, h3, a1_sorted h1 h2⟩
  | lenSet =>
    obtain ⟨p, x, q, rfl, h1, h2, h3⟩ := cCall1_inv (b := "len") h
    obtain ⟨p2, y, q2, rfl, h4, h5, h6⟩ := cCall1_inv (b := "set") h3
    exact ⟨y, h6, a1_lenSet h1 h4 h5⟩
  | rev =>
    simp only [c1] at h
    split at h
    · exact ⟨_, h, a1_rev⟩
    · cases h
  | bits =>
    simp only [c1] at h
    obtain ⟨o, ap, cp, rfl, h1, h3⟩ := cMeth0_inv h
    simp only [Bool.and_eq_true] at h3
    exact ⟨o, h3.2, a1_bits h3.1 h1⟩
  | isi t =>
    simp only [c1, Bool.and_eq_true, decide_eq_true_eq, glB] at h
    obtain ⟨⟨ht, hg⟩, h⟩ := h
    obtain ⟨p, x, y, q, rfl, h1, h2, h3, h4, h5⟩ := cCall2_inv (b := "isinstance") h
    unfold isNm at h5
    split at h5
    · obtain rfl := of_decide_eq_true h5
      exact ⟨x, h4, a1_isi h1 ht hg h2⟩
    · cases h5
theorem oc_of {o : O2} {op : CmpOp} (h : copOf o = some op) : OC N sc CX φ o op := by
  cases o <;> cases h
  · exact oc_eq
  · exact oc_ne
  · exact oc_lt
  · exact oc_le
  · exact oc_gt
  · exact oc_ge
  · exact oc_in
  · exact oc_notin
theorem isCmp_of {o : O2} {op : CmpOp} (h : copOf o = some op) : isCmp o = true := by cases o <;> first | rfl | cases h
theorem c2_cmp {o : O2} {op : CmpOp} {f g : Expr → Bool} (ho : copOf o = some op) (h : c2 sc o ex f g = true) : ∃ x y p, ex = .Compare x [op] [y] p ∧ behindInMarks op y = false ∧ f x = true ∧ g y = true := by
  unfold c2 at h
  rw [ho] at h
  dsimp only at h
  obtain ⟨x, o', y, p, rfl, h0⟩ := cCmp_inv h
  simp only [Bool.and_eq_true, decide_eq_true_eq, Bool.not_eq_true'] at h0
  obtain ⟨⟨⟨rfl, h2⟩, h3⟩, h4⟩ := h0
  exact ⟨x, y, p, rfl, h2, h3, h4⟩
theorem c2_ok {o : O2} {f g : Expr → Bool} (h : c2 sc o ex f g = true) : ∃ x y, f x = true ∧ g y = true ∧ A2 N sc CX φ o x y ex := by
  cases ho : copOf o with
  | some op =>
    obtain ⟨x, y, p, rfl, h1, h2, h3⟩ := c2_cmp ho h
    exact ⟨x, y, h2, h3, (oc_of ho).a2 h1⟩
  | none =>
    cases o <;> first | (cases ho; done) | skip
    · obtain ⟨x, y, p, rfl, h1, h2⟩ := cBop_inv (op := .Add) h; exact ⟨x, y, h1, h2, a2_add⟩
    · obtain ⟨x, y, p, rfl, h1, h2⟩ := cBop_inv (op := .Sub) h; exact ⟨x, y, h1, h2, a2_sub⟩
    · obtain ⟨x, y, p, rfl, h1, h2⟩ := cBop_inv (op := .Mult) h; exact ⟨x, y, h1, h2, a2_mul⟩
    · obtain ⟨x, y, p, rfl, h1, h2⟩ := cBop_inv (op := .FloorDiv) h; exact ⟨x, y, h1, h2, a2_fdiv⟩
    · obtain ⟨x, y, p, rfl, h1, h2⟩ := cBop_inv (op := .Mod) h; exact ⟨x, y, h1, h2, a2_mod⟩
    · obtain ⟨x, y, p, rfl, h1, h2⟩ := cBop_inv (op := .Pow) h; exact ⟨x, y, h1, h2, a2_pow⟩
    · obtain ⟨x, y, p, rfl, h1, h2⟩ := cBop_inv (op := .LShift) h; exact ⟨x, y, h1, h2, a2_shl⟩
    · obtain ⟨x, y, p, rfl, h1, h2⟩ := cBop_inv (op := .RShift) h; exact ⟨x, y, h1, h2, a2_shr⟩
    · obtain ⟨x, y, p, rfl, h1, h2⟩ := cBop_inv (op := .BitAnd) h; exact ⟨x, y, h1, h2, a2_band⟩
    · obtain ⟨x, y, p, rfl, h1, h2⟩ := cBop_inv (op := .BitXor) h; exact ⟨x, y, h1, h2, a2_bxor⟩
    · obtain ⟨x, y, p, rfl, h0, h1, h2⟩ := cIdx_inv h; exact ⟨x, y, h1, h2, a2_idx (plainIx_of h0)⟩
    · obtain ⟨p, x, y, q, rfl, h1, h2, h3, h4, h5⟩ := cCall2_inv (b := "min") h; exact ⟨x, y, h4, h5, a2_min h1 h2 h3⟩
    · obtain ⟨p, x, y, q, rfl, h1, h2, h3, h4, h5⟩ := cCall2_inv (b := "max") h; exact ⟨x, y, h4, h5, a2_max h1 h2 h3⟩
/-! ### targets -/
mutual
theorem cTg_ok {L : Str → Bool} : ∀ (t : T) (tg : Expr), cTg N L t tg = true → ∀ X, GoodT N L X → TgOk X tg t
  | .n i, tg, h, X, G => by
    simp only [cTg] at h
    split at h
    · simp only [Bool.and_eq_true, decide_eq_true_eq] at h
      exact tg_n (by rw [G.hN]; exact G.nd) (by rw [G.hN]; exact h.1) (G.loc _ h.2).1 (G.loc _ h.2).2
    · cases h
  | .p ts, tg, h, X, G => by
    simp only [cTg] at h
    split at h
    · simp only [Bool.and_eq_true, decide_eq_true_eq] at h
      exact tg_p G.calm h.1.1 h.1.2 (cTgs_ok ts _ h.1.1 h.2 X G)
    · cases h
theorem cTgs_ok {L : Str → Bool} : ∀ (ts : List T) (tgs : List Expr), allNoStar tgs = true → cTgs N L ts tgs = true → ∀ X, GoodT N L X → TgsOk X tgs ts
  | [], tgs, _, h, X, G => by
    simp only [cTgs] at h
    split at h
    · exact tgs_nil
    · cases h
  | t :: ts, tgs, hs, h, X, G => by
    simp only [cTgs] at h
    split at h
    · simp only [Bool.and_eq_true] at h
      simp only [allNoStar, Bool.and_eq_true] at hs
      exact tgs_cons hs.1 (cTg_ok t _ h.1 X G) (cTgs_ok ts _ hs.2 h.2 X G)
    · cases h
end
theorem c_so {a : E} (h : cE N a sc ex = true) (s : SE N sc CX ex φ (evalE φ a)) : SO N sc CX ex φ (opW (evalE φ a) a) := so_of s fun i e => by
  subst e
  simp only [cE] at h
  obtain ⟨x, p, rfl, h1, h2, h3⟩ := cName_inv h
  exact so_var h1 h2 h3 _
theorem ownS_snd (own : List Nat) : (ownS N own).map (·.2) = own := by
  unfold ownS
  rw [List.map_map]
  exact List.map_id own
/-- a test's three readings -/
structure TOk (N : List Str) (sc : Scope) (CX : CXT) (ex : Expr) (φ : Orc) (r : Env → R (Bool × Env)) : Prop where
  st : ST N sc CX ex φ r
  sb : SB N sc CX ex φ r
theorem st_sw {op : PySem.BoolOp} {vs : List Expr} {p : Pos} {r : Env → R (Bool × Env)} (h : ST N sc CX (.BoolOp op vs p) φ r) : SW N sc CX (.BoolOp op vs p) φ r := fun X G e w e' hr F H σ Q rel k wh pins s I => by
  have := h X G e w e' hr F H σ Q rel k pins s I
  rw [arm_isTrue_BoolOp] at this ⊢
  exact this
theorem noStars_of {as : Es} {xs : List Expr} (h : cEs N as sc xs = true) : noStars xs = true := by
  induction xs generalizing as with
  | nil => rfl
  | cons x r ih =>
    cases as with
    | nil => simp [cEs] at h
    | cons a as =>
      simp only [cEs, Bool.and_eq_true] at h
      simp only [noStars, Bool.and_eq_true]
      exact ⟨h.1.1, ih h.2⟩
mutual
theorem cE_ok : ∀ (a : E) (sc : Scope) (ex : Expr), cE N a sc ex = true → SE N sc CX ex φ (evalE φ a)
  | .var i, sc, ex, h => by
    simp only [cE] at h
    obtain ⟨x, p, rfl, h1, h2, h3⟩ := cName_inv h
    exact se_var h1 h2 h3
  | .mv i, sc, ex, h => by
    simp only [cE] at h
    obtain ⟨x, p, rfl, h1, h2, h3⟩ := cName_inv h
    exact se_mv h1 h2 h3
  | .non, sc, ex, h => by
    simp only [cE] at h
    obtain ⟨k, p, rfl⟩ := isK_inv h
    exact se_const (t := .non) (x := .none) (fun e => by simp only [evalE]) (fun X => pe_non) fun K F => .non
  | .bl b, sc, ex, h => by
    simp only [cE] at h
    obtain ⟨k, p, rfl⟩ := isK_inv h
    exact se_const (t := .bl b) (x := .bool b) (fun e => by simp only [evalE]) (fun X => pe_bl) fun K F => .bl b
  | .int i, sc, ex, h => by
    simp only [cE] at h
    obtain ⟨k, p, rfl⟩ := isK_inv h
    exact se_const (t := .int i) (x := .int i) (fun e => by simp only [evalE]) (fun X => pe_int) fun K F => .int i
  | .str s, sc, ex, h => by
    simp only [cE] at h
    obtain ⟨k, p, rfl⟩ := isK_inv h
    exact se_const (t := .str (Str.ofString s)) (x := .str (Str.ofString s)) (fun e => by simp only [evalE]) (fun X => pe_str) fun K F => .str _
  | .tup es, sc, ex, h => by
    simp only [cE] at h
    split at h
    · exact se_tup (cEs_ok es sc _ h).1
    · cases h
  | .lst es, sc, ex, h => by
    simp only [cE] at h
    split at h
    · exact se_lst (cEs_ok es sc _ h).1
    · cases h
  | .rep tp es a, sc, ex, h => by
    simp only [cE, Bool.and_eq_true, Bool.not_eq_true'] at h
    obtain ⟨rfl, h⟩ := h
    obtain ⟨x, y, p, rfl, h1, h2⟩ := cBop_inv h
    split at h1
    · exact se_rep (cEs_ok es sc _ h1).1 (c_so h2 (cE_ok a sc y h2))
    · cases h1
  | .o1 o a, sc, ex, h => by
    simp only [cE] at h
    obtain ⟨x, h1, h2⟩ := c1_ok (N := N) (CX := CX) (φ := φ) h
    exact se_o1 (c_so h1 (cE_ok a sc x h1)) h2
  | .o2 o a b, sc, ex, h => by
    simp only [cE] at h
    obtain ⟨x, y, h1, h2, h3⟩ := c2_ok (N := N) (CX := CX) (φ := φ) h
    exact se_o2 (c_so h1 (cE_ok a sc x h1)) (c_so h2 (cE_ok b sc y h2)) h3
  | .slice a lo hi, sc, ex, h => by
    simp only [cE] at h
    split at h
    · simp only [Bool.and_eq_true] at h
      exact se_slice (c_so h.1.1 (cE_ok a sc _ h.1.1)) (cEo_ok lo sc _ h.1.2) (cEo_ok hi sc _ h.2)
    · cases h
  | .index a b, sc, ex, h => by
    simp only [cE] at h
    obtain ⟨o, ap, x, cp, rfl, h1, h2, h3, h4⟩ := cMeth1_inv h
    simp only [Bool.and_eq_true] at h3
    exact se_index (c_so h3.2 (cE_ok a sc o h3.2)) (c_so h4 (cE_ok b sc x h4)) h3.1 h1 h2
  | .count a b, sc, ex, h => by
    simp only [cE] at h
    obtain ⟨o, ap, x, cp, rfl, h1, h2, h3, h4⟩ := cMeth1_inv h
    simp only [Bool.and_eq_true] at h3
    exact se_count (c_so h3.2 (cE_ok a sc o h3.2)) (c_so h4 (cE_ok b sc x h4)) h3.1 h1 h2
  | .chain o o' a b c, sc, ex, h => by
    simp only [cE] at h
    split at h
    · simp only [Bool.and_eq_true, decide_eq_true_eq, Bool.not_eq_true'] at h
      obtain ⟨⟨⟨⟨⟨h1, h2⟩, h3⟩, h4⟩, h5⟩, h6⟩ := h
      exact se_chain (isCmp_of h1) (c_so h4 (cE_ok a sc _ h4)) (c_so h5 (cE_ok b sc _ h5)) (c_so h6 (cE_ok c sc _ h6)) (oc_of h1) (oc_of h2) h3
    · cases h
  | .not a, sc, ex, h => by
    simp only [cE] at h
    split at h
    · exact se_not (cT_ok a sc _ h).sb
    · cases h
  | .and a b, sc, ex, h => by
    simp only [cE] at h
    split at h
    · rename_i x y r p
      simp only [Bool.and_eq_true] at h
      cases r with
      | nil => exact se_and (sd_of (cE_ok a sc x h.1)) (se_one (cE_ok b sc y h.2))
      | cons z r => exact se_and (sd_of (cE_ok a sc x h.1)) (cE_ok b sc _ h.2)
    · cases h
  | .or a b, sc, ex, h => by
    simp only [cE] at h
    split at h
    · rename_i x y r p
      simp only [Bool.and_eq_true] at h
      cases r with
      | nil => exact se_or (sd_of (cE_ok a sc x h.1)) (se_one (cE_ok b sc y h.2))
      | cons z r => exact se_or (sd_of (cE_ok a sc x h.1)) (cE_ok b sc _ h.2)
    · cases h
  | .ite t a b, sc, ex, h => by
    simp only [cE] at h
    split at h
    · simp only [Bool.and_eq_true] at h
      exact se_ite (cT_ok t sc _ h.1.1).st (cE_ok a sc _ h.1.2) (cE_ok b sc _ h.2)
    · cases h
  | .call f as, sc, ex, h => by
    simp only [cE] at h
    split at h
    · simp only [Bool.and_eq_true, decide_eq_true_eq, glB] at h
      obtain ⟨⟨⟨⟨h0, h1⟩, h2⟩, h3⟩, h4⟩ := h
      exact se_call h0 h1 h2 h3 (noStars_of h4) (cEs_ok as sc _ h4).2
    · simp only [Bool.and_eq_true, decide_eq_true_eq, glB] at h
      obtain ⟨⟨⟨⟨h0, h1⟩, h2⟩, h3⟩, h4⟩ := h
      split at h0
      · exact se_call0 h1 h2 h3 h4
      · cases h0
    · simp only [Bool.and_eq_true, decide_eq_true_eq, glB] at h
      obtain ⟨⟨⟨h1, h2⟩, h3⟩, h4⟩ := h
      split at h1
      · split at h2
        · rename_i s hs
          exact se_con hs (of_decide_eq_true h2) h3 h4
        · cases h2
      · cases h1
    · cases h
  | .comp own t s cond elt, sc, ex, h => by
    simp only [cE] at h
    split at h
    · simp only [Bool.and_eq_true, decide_eq_true_eq, Bool.not_eq_true', Bool.or_eq_true, List.all_eq_true] at h
      obtain ⟨⟨⟨⟨⟨⟨⟨⟨rfl, h1⟩, h2⟩, h3⟩, h4⟩, h5⟩, h6⟩, h7⟩, h8⟩ := h
      rename_i el tg iter ifs scope pos
      have := se_comp (pos := pos) (t := t) (s := s) (cond := cond) (a := elt) (pl := plS s) ((cSrc_ok s sc iter h6).1 tg (h2.imp id fun z => z.2)) (cTg_ok t tg h1) (h2.imp id fun z => z.1) (ownS := ownS N own) (fun j hj => by rw [ownS_snd]; simpa using h3 j hj) h4 h5 (cCo_ok cond (relS scope sc) ifs h7) (sd_of (cE_ok elt (relS scope sc) el h8))
      rw [ownS_snd] at this
      exact this
    · cases h
  | .ofSrc tup s, sc, ex, h => by
    simp only [cE, Bool.and_eq_true] at h
    obtain ⟨p, x, q, rfl, h1, h2, h3⟩ := cCall1_inv h.2
    exact se_ofRg h1 h2 ((cSrc_ok s sc x h3).2 h.1)
  | .pop i a, sc, ex, h => by
    simp only [cE] at h
    obtain ⟨o, ap, x, cp, rfl, h1, h2, h3, h4⟩ := cMeth1_inv h
    obtain ⟨y, p, rfl, g1, g2, g3⟩ := cName_inv h3
    exact se_pop g1 g2 g3 (c_so h4 (cE_ok a sc x h4)) h1 h2
  | .popl i, sc, ex, h => by
    simp only [cE] at h
    obtain ⟨o, ap, cp, rfl, h1, h3⟩ := cMeth0_inv h
    obtain ⟨y, p, rfl, g1, g2, g3⟩ := cName_inv h3
    exact se_popl g1 g2 g3 h1
  | .app i a, sc, ex, h => by
    simp only [cE] at h
    obtain ⟨o, ap, x, cp, rfl, h1, h2, h3, h4⟩ := cMeth1_inv h
    obtain ⟨y, p, rfl, g1, g2, g3⟩ := cName_inv h3
    exact se_app g1 g2 g3 (sd_of (cE_ok a sc x h4)) h1 h2
  | .ext i a, sc, ex, h => by
    simp only [cE] at h
    obtain ⟨o, ap, x, cp, rfl, h1, h2, h3, h4⟩ := cMeth1_inv h
    obtain ⟨y, p, rfl, g1, g2, g3⟩ := cName_inv h3
    exact se_ext g1 g2 g3 (c_so h4 (cE_ok a sc x h4)) h1 h2
  | .dnew, sc, ex, h => by
    simp only [cE] at h
    obtain ⟨p, rfl⟩ := cDisp_inv h
    exact se_dnew
  | .dlit j x, sc, ex, h => by
    simp only [cE] at h
    split at h
    · rw [Bool.and_eq_true] at h
      obtain ⟨k, p, rfl⟩ := isK_inv h.1
      obtain ⟨k', p', rfl⟩ := isK_inv h.2
      exact se_dlit
    · cases h
  | .dof a, sc, ex, h => by
    simp only [cE] at h
    obtain ⟨p, x, q, rfl, h1, h2, h3⟩ := cCall1_inv h
    exact se_dof h1 h2 (sd_of (cE_ok a sc x h3))
  | .tin b i a, sc, ex, h => by
    simp only [cE] at h
    obtain ⟨x, o, y, p, rfl, h0⟩ := cCmp_inv h
    simp only [Bool.and_eq_true, decide_eq_true_eq] at h0
    obtain ⟨⟨rfl, h3⟩, h4⟩ := h0
    obtain ⟨z, q, rfl, g1, g2, g3⟩ := cName_inv h3
    exact se_tin g1 g2 g3 (sd_of (cE_ok a sc x h4))
  | .tget i a, sc, ex, h => by
    simp only [cE] at h
    obtain ⟨x, y, p, rfl, h1, h2, h3⟩ := cIdx_inv h
    obtain ⟨z, q, rfl, g1, g2, g3⟩ := cName_inv h2
    exact se_tget g1 g2 g3 h1 (sd_of (cE_ok a sc y h3))
  | .tgtd i a b, sc, ex, h => by
    simp only [cE] at h
    obtain ⟨o, ap, x, y, cp, rfl, h1, h2, h3, h4, h5, h6⟩ := cMeth2_inv h
    obtain ⟨z, p, rfl, g1, g2, g3⟩ := cName_inv h4
    exact se_tgtd g1 g2 g3 (sd_of (cE_ok a sc x h5)) (sd_of (cE_ok b sc y h6)) h1 h2 h3
  | .tnew, sc, ex, h => by
    simp only [cE] at h
    obtain ⟨p, rfl⟩ := cDisp_inv h
    exact se_tnew
  | .sstep a lo n, sc, ex, h => by
    simp only [cE] at h
    split at h
    · simp only [Bool.and_eq_true, decide_eq_true_eq] at h
      obtain ⟨⟨⟨h1, h2⟩, h3⟩, h4⟩ := h
      obtain ⟨k, p, rfl⟩ := isK_inv h2
      exact se_sstep h1 (c_so h3 (cE_ok a sc _ h3)) (sd_of (cE_ok lo sc _ h4))
    · cases h
  | .din b i a, sc, ex, h => by
    simp only [cE] at h
    obtain ⟨x, o, y, p, rfl, h0⟩ := cCmp_inv h
    simp only [Bool.and_eq_true, decide_eq_true_eq] at h0
    obtain ⟨⟨rfl, h3⟩, h4⟩ := h0
    obtain ⟨z, q, rfl, g1, g2, g3⟩ := cName_inv h3
    exact se_din g1 g2 g3 (sd_of (cE_ok a sc x h4))
  | .dget i a, sc, ex, h => by
    simp only [cE] at h
    obtain ⟨x, y, p, rfl, h1, h2, h3⟩ := cIdx_inv h
    obtain ⟨z, q, rfl, g1, g2, g3⟩ := cName_inv h2
    exact se_dget g1 g2 g3 h1 (sd_of (cE_ok a sc y h3))
  | .dgtd i a b, sc, ex, h => by
    simp only [cE] at h
    obtain ⟨o, ap, x, y, cp, rfl, h1, h2, h3, h4, h5, h6⟩ := cMeth2_inv h
    obtain ⟨z, p, rfl, g1, g2, g3⟩ := cName_inv h4
    exact se_dgtd g1 g2 g3 (sd_of (cE_ok a sc x h5)) (sd_of (cE_ok b sc y h6)) h1 h2 h3
  | .dsetd i a b, sc, ex, h => by
    simp only [cE] at h
    obtain ⟨o, ap, x, y, cp, rfl, h1, h2, h3, h4, h5, h6⟩ := cMeth2_inv h
    obtain ⟨z, p, rfl, g1, g2, g3⟩ := cName_inv h4
    exact se_dsetd g1 g2 g3 (sd_of (cE_ok a sc x h5)) (sd_of (cE_ok b sc y h6)) h1 h2 h3
  | .dupd i a, sc, ex, h => by
    simp only [cE] at h
    obtain ⟨o, ap, x, cp, rfl, h1, h2, h3, h4⟩ := cMeth1_inv h
    obtain ⟨y, p, rfl, g1, g2, g3⟩ := cName_inv h3
    exact se_dupd g1 g2 g3 (cE_ok a sc x h4) h1 h2
  | .gapp i a j, sc, ex, h => by
    simp only [cE] at h
    split at h
    · simp only [Bool.and_eq_true, decide_eq_true_eq] at h
      obtain ⟨⟨⟨⟨⟨⟨⟨rfl, rfl⟩, h1⟩, h2⟩, h3⟩, h4⟩, h5⟩, h6⟩ := h
      obtain ⟨x, p, rfl, g1, g2, g3⟩ := cName_inv h4
      obtain ⟨y, q, rfl, f1, f2, f3⟩ := cName_inv h5
      exact se_gapp g1 g2 g3 f1 f2 f3 (sd_of (cE_ok a sc _ h6)) h1 h2 h3
    · cases h
  | .dsort i, sc, ex, h => by
    simp only [cE] at h
    obtain ⟨p, x, q, rfl, h1, h2, h3⟩ := cCall1_inv h
    obtain ⟨y, p, rfl, g1, g2, g3⟩ := cName_inv h3
    exact se_dsort g1 g2 g3 h1
theorem cEs_ok : ∀ (as : Es) (sc : Scope) (xs : List Expr), cEs N as sc xs = true → SDs N sc CX xs φ (evalDs φ as) ∧ SOs N sc CX xs φ (evalOs φ as)
  | .nil, sc, xs, h => by
    simp only [cEs] at h
    split at h
    · exact ⟨sds_nil, sos_nil⟩
    · cases h
  | .cons a r, sc, xs, h => by
    simp only [cEs] at h
    split at h
    · simp only [Bool.and_eq_true] at h
      have e := cE_ok a sc _ h.1.2
      have q := cEs_ok r sc _ h.2
      exact ⟨sds_cons h.1.1 (sd_of e) q.1, sos_cons h.1.1 (c_so h.1.2 e) q.2⟩
    · cases h
theorem cEo_ok : ∀ (a : Eo) (sc : Scope) (x : Option Expr), cEo N a sc x = true → SPt N sc CX x φ (evalPart φ a)
  | .no, sc, x, h => by
    simp only [cEo] at h
    split at h
    · exact sp_none
    · cases h
  | .yes a, sc, x, h => by
    simp only [cEo] at h
    split at h
    · exact sp_some (sd_of (cE_ok a sc _ h))
    · cases h
theorem cT_ok : ∀ (a : Te) (sc : Scope) (ex : Expr), cT N a sc ex = true → TOk N sc CX ex φ (evalT φ a)
  | .e a, sc, ex, h => by
    simp only [cT, Bool.and_eq_true] at h
    have e := cE_ok a sc ex h.2
    have so := c_so h.2 e
    refine ⟨?_, sb_e so⟩
    have h1 := h.1
    unfold cTe at h1
    rw [Bool.or_eq_true] at h1
    rcases h1 with h1 | h1
    · exact st_plain so h1
    · cases a <;> first | (cases h1; done) | skip
      · rename_i o a
        cases o <;> first | (cases h1; done) | skip
        · rename_i b
          have h2 := h.2
          simp only [cE, c1] at h2
          obtain ⟨x, o, y, p, rfl, h0⟩ := cCmp_inv h2
          simp only [Bool.and_eq_true, decide_eq_true_eq] at h0
          obtain ⟨⟨rfl, h3⟩, h4⟩ := h0
          obtain ⟨k, q, rfl⟩ := isK_inv h3
          exact st_isNone (c_so h4 (cE_ok a sc x h4))
        · rename_i z b
          have h2 := h.2
          simp only [cE, c1] at h2
          obtain ⟨x, o, y, p, rfl, h0⟩ := cCmp_inv h2
          simp only [Bool.and_eq_true, decide_eq_true_eq] at h0
          obtain ⟨⟨rfl, h3⟩, h4⟩ := h0
          obtain ⟨k, q, rfl⟩ := isK_inv h3
          exact st_isBool (c_so h4 (cE_ok a sc x h4))
      · rename_i o a b
        have h1 : (copOf o).isSome = true := h1
        obtain ⟨op, ho⟩ := Option.isSome_iff_exists.mp h1
        have h2 := h.2
        simp only [cE] at h2
        obtain ⟨x, y, p, rfl, g1, g2, g3⟩ := c2_cmp ho h2
        exact st_cmp (isCmp_of ho) (c_so g2 (cE_ok a sc x g2)) (c_so g3 (cE_ok b sc y g3)) (oc_of ho) g1
      · rename_i o o' a b c
        have h2 := h.2
        simp only [cE] at h2
        split at h2
        · simp only [Bool.and_eq_true, decide_eq_true_eq, Bool.not_eq_true'] at h2
          obtain ⟨⟨⟨⟨⟨g1, g2⟩, g3⟩, g4⟩, g5⟩, g6⟩ := h2
          exact st_chain (isCmp_of g1) (isCmp_of g2) (c_so g4 (cE_ok a sc _ g4)) (c_so g5 (cE_ok b sc _ g5)) (c_so g6 (cE_ok c sc _ g6)) (oc_of g1) (oc_of g2) g3
        · cases h2
      · rename_i b i a
        have h2 := h.2
        simp only [cE] at h2
        obtain ⟨x, o, y, p, rfl, h0⟩ := cCmp_inv h2
        simp only [Bool.and_eq_true, decide_eq_true_eq] at h0
        obtain ⟨⟨rfl, h3⟩, h4⟩ := h0
        obtain ⟨z, q, rfl, g1, g2, g3⟩ := cName_inv h3
        exact st_din g1 g2 g3 (sd_of (cE_ok a sc x h4))
      · rename_i b i a
        have h2 := h.2
        simp only [cE] at h2
        obtain ⟨x, o, y, p, rfl, h0⟩ := cCmp_inv h2
        simp only [Bool.and_eq_true, decide_eq_true_eq] at h0
        obtain ⟨⟨rfl, h3⟩, h4⟩ := h0
        obtain ⟨z, q, rfl, g1, g2, g3⟩ := cName_inv h3
        exact st_tin g1 g2 g3 (sd_of (cE_ok a sc x h4))
  | .not a, sc, ex, h => by
    simp only [cT] at h
    split at h
    · have q := cT_ok a sc _ h
      exact ⟨st_not q.st, sb_not q.sb⟩
    · cases h
  | .and a b, sc, ex, h => by
    simp only [cT] at h
    split at h
    · rename_i x y r p
      simp only [Bool.and_eq_true] at h
      rw [evalT_and]
      have q := cT_ok a sc x h.1
      cases r with
      | nil =>
        have q2 := cT_ok b sc y h.2
        exact ⟨(sw_and q.st (sw_and1 q2.st)).st, sb_and q.sb (sb_one q2.sb)⟩
      | cons z r =>
        have q2 := cT_ok b sc _ h.2
        exact ⟨(sw_and q.st (st_sw q2.st)).st, sb_and q.sb q2.sb⟩
    · cases h
  | .or a b, sc, ex, h => by
    simp only [cT] at h
    split at h
    · rename_i x y r p
      simp only [Bool.and_eq_true] at h
      rw [evalT_or]
      have q := cT_ok a sc x h.1
      cases r with
      | nil =>
        have q2 := cT_ok b sc y h.2
        exact ⟨(sw_or q.st (sw_or1 q2.st)).st, sb_or q.sb (sb_one q2.sb)⟩
      | cons z r =>
        have q2 := cT_ok b sc _ h.2
        exact ⟨(sw_or q.st (st_sw q2.st)).st, sb_or q.sb q2.sb⟩
    · cases h
  | .ite t a b, sc, ex, h => by
    simp only [cT] at h
    split at h
    · simp only [Bool.and_eq_true] at h
      have q := cT_ok t sc _ h.1.1
      have q1 := cT_ok a sc _ h.1.2
      have q2 := cT_ok b sc _ h.2
      exact ⟨st_ite q.st q1.st q2.st, sb_ite q.st q1.sb q2.sb⟩
    · cases h
theorem cCo_ok : ∀ (a : Co) (sc : Scope) (xs : List Expr), cCo N a sc xs = true → SCo N sc CX xs φ (evalC φ a)
  | .no, sc, xs, h => by
    simp only [cCo] at h
    split at h
    · exact sco_no
    · cases h
  | .yes t, sc, xs, h => by
    simp only [cCo] at h
    split at h
    · exact sco_yes (cT_ok t sc _ h).st
    · cases h
theorem cSrc_ok : ∀ (s : Src) (sc : Scope) (ex : Expr), cSrc N s sc ex = true → (∀ tg, (plS s = true ∨ isTup tg = true) → Srcs N sc CX tg ex φ (plS s) (evalSrc φ s)) ∧ (isRg s = true → RgS N sc CX ex φ (evalSrc φ s))
  | .seq a, sc, ex, h => by
    simp only [cSrc] at h
    exact ⟨fun tg _ => src_seq (sd_of (cE_ok a sc ex h)), fun z => by cases z⟩
  | .rng1 a, sc, ex, h => by
    simp only [cSrc] at h
    obtain ⟨p, x, q, rfl, h1, h2, h3⟩ := cCall1_inv h
    have e := sd_of (cE_ok a sc x h3)
    exact ⟨fun tg _ => src_rng1 h1 h2 e, fun _ => rgs1 h1 h2 e⟩
  | .rng2 a b, sc, ex, h => by
    simp only [cSrc] at h
    obtain ⟨p, x, y, q, rfl, h1, h2, h3, h4, h5⟩ := cCall2_inv h
    have e := sd_of (cE_ok a sc x h4)
    have e2 := sd_of (cE_ok b sc y h5)
    exact ⟨fun tg _ => src_rng2 h1 h2 h3 e e2, fun _ => rgs2 h1 h2 h3 e e2⟩
  | .rng3 a b c, sc, ex, h => by
    simp only [cSrc] at h
    obtain ⟨p, x, y, z, q, rfl, h1, h2, h3, h4, h5, h6, h7⟩ := cCall3_inv h
    have e := sd_of (cE_ok a sc x h5)
    have e2 := sd_of (cE_ok b sc y h6)
    have e3 := sd_of (cE_ok c sc z h7)
    exact ⟨fun tg _ => src_rng3 h1 h2 h3 h4 e e2 e3, fun _ => rgs3 h1 h2 h3 h4 e e2 e3⟩
  | .zip2 a b, sc, ex, h => by
    simp only [cSrc] at h
    obtain ⟨p, x, y, q, rfl, h1, h2, h3, h4, h5⟩ := cCall2_inv h
    refine ⟨fun tg ht => ?_, fun z => by cases z⟩
    rcases ht with z | z
    · cases z
    · cases tg <;> first | (cases z; done) | skip
      exact src_zip h1 h2 h3 (sd_of (cE_ok a sc x h4)) (sd_of (cE_ok b sc y h5))
  | .enum a, sc, ex, h => by
    simp only [cSrc] at h
    obtain ⟨p, x, q, rfl, h1, h2, h3⟩ := cCall1_inv h
    refine ⟨fun tg ht => ?_, fun z => by cases z⟩
    rcases ht with z | z
    · cases z
    · cases tg <;> first | (cases z; done) | skip
      exact src_enum h1 h2 (sd_of (cE_ok a sc x h3))
end
end
end Sw
end T_SwP
section T_SwQ
set_option autoImplicit false
set_option linter.all false
set_option Elab.async false
set_option maxRecDepth 100000
set_option maxHeartbeats 2000000
/-! SwQ: the check of statements, and that it is enough. -/
namespace Sw
open PySem L2
def isCompE : E → Bool | .comp _ _ _ _ _ => true | _ => false
def cLc (sc : Scope) (x : Str) (px : Pos) (a : E) (ex : Expr) : Bool := if isComp ex && !(decide (sc.names.lookup x = some .cell)) then isCompE a && (match ex with
  | .ListComp _ _ scope pos => decide (sc.names.lookup x = some .local) && (px.line == pos.line) && !(scope.names.any fun (n, k) => n == x && (k == .local || k == .cell))
  | _ => false) else true
def npr (pr : Nat → Bool) (l : List Nat) : Bool := l.all fun j => !pr j
def isNmS (y : Str) : Expr → Bool | .Name x _ => decide (x = y) | _ => false
mutual
def cS (N : List Str) (sc : Scope) (pr : Nat → Bool) : S → Stmt → Bool
  | .asg i a, st => (match st with | .Assign [.Name x px] ex _ => decide (N[i]? = some x) && isLoc sc x && !pr i && cE N a sc ex && cLc sc x px a ex | _ => false)
  | .asgT t a, st => (match st with | .Assign [.Tuple tgs c p] ex _ => cTg N (isLoc sc) t (.Tuple tgs c p) && npr pr (slotsT t) && !isTup ex && cE N a sc ex | _ => false)
  | .aug i o a, st => (match st with | .AugAssign (.Name x _) .Add ex _ => decide (o = .add) && decide (N[i]? = some x) && isLoc sc x && !pr i && cE N a sc ex | _ => false)
  | .dst i ix a, st => (match st with | .Assign [.Subscript o iy _] ex _ => cName N sc i o && cE N ix sc iy && cE N a sc ex | _ => false)
  | .tst i ix a, st => (match st with | .Assign [.Subscript o iy _] ex _ => cName N sc i o && cE N ix sc iy && cE N a sc ex | _ => false)
  | .st i ix a, st => (match st with | .Assign [.Subscript o iy _] ex _ => cName N sc i o && !isSl iy && cE N ix sc iy && cE N a sc ex | _ => false)
  | .st2 i ix j jx a b, st => (match st with | .Assign [.Tuple [.Subscript o ia _, .Subscript q ja _] _ _] (.Tuple [e1, e2] _ _) _ => cName N sc i o && cName N sc j q && !isSl ia && !isSl ja && noStar e1 && noStar e2 && cE N ix sc ia && cE N jx sc ja && cE N a sc e1 && cE N b sc e2 | _ => false)
  | .ex a, st => (match st with | .Expr ex _ => !isComp ex && cE N a sc ex | _ => false)
  | .ret a, st => (match st with | .Return (some ex) _ => cE N a sc ex | _ => false)
  | .retN, st => (match st with | .Return none _ => true | _ => false)
  | .iff t a b, st => (match st with | .If c as bs _ => cT N t sc c && cSs N sc pr a as && cSs N sc pr b bs | _ => false)
  | .forr t s b kill, st => (match st with | .For tg iter body [] _ => cTg N (isLoc sc) t tg && (plS s || (isP t && isTup tg)) && npr pr (slotsT t) && !isSetE iter && cSrc N s sc iter && cSs N sc pr b body | _ => false)
  | .whil t b kill, st => (match st with | .While c body [] _ => cT N t sc c && cSs N sc pr b body | _ => false)
  | .forv t i b kill, st => (match st with | .For tg (.Call (.Attribute o nm ap) [] [] cp) body [] _ => cTg N (isLoc sc) t tg && npr pr (slotsT t) && cName N sc i o && decide (nm = Str.ofString "values") && (ap.endLine == cp.line) && cSs N sc pr b body | _ => false)
  | .zext j i a b, st => (match st with
    | .For (.Name y _) (.Call (.Name z _) [ea, eb] [] _) [.Expr (.Call (.Attribute o nm ap) [y2] [] cp) _] [] _ => decide (N[j]? = some y) && isLoc sc y && cName N sc j y2 && isNmS y y2 && !pr j && decide (z = Str.ofString "zip") && glB sc z && noStar ea && noStar eb && decide (nm = Str.ofString "extend") && (ap.endLine == cp.line) && cName N sc i o && cE N a sc ea && cE N b sc eb
    | _ => false)
  | .pass, st => (match st with | .Pass _ => true | _ => false)
  | .brk, st => (match st with | .Break _ => true | _ => false)
  | .cnt, st => (match st with | .Continue _ => true | _ => false)
  | .raise _, st => (match st with | .Raise _ _ _ => true | _ => false)
def cSs (N : List Str) (sc : Scope) (pr : Nat → Bool) : Ss → List Stmt → Bool
  | .nil, l => (match l with | [] => true | _ => false)
  | .cons s r, l => (match l with | st :: lr => cS N sc pr s st && cSs N sc pr r lr | [] => false)
end
section
variable {N : List Str} {CX : CXT} {φ : Orc} {sc : Scope} {ex : Expr} {pr : Nat → Bool}
theorem npr_of {l : List Nat} (h : npr pr l = true) : ∀ j ∈ l, pr j = false := fun j hj => by
  have := List.all_eq_true.mp h j hj
  simpa using this
theorem sw_tup {tgs : List Expr} {c : Nat} {p : Pos} (env : PySem.Env) (l : Nat) : swapsWith ex (some (.Tuple tgs c p)) l env = pure false := by cases ex <;> rfl
theorem sp_tup {tgs : List Expr} {c : Nat} {p : Pos} (h : isTup ex = false) (env : PySem.Env) : swappedStores [.Tuple tgs c p] ex env = pure none := by
  cases ex <;> first | rfl | cases h
theorem sw_cell {t : Str} {p : Pos} {l : Nat} {env : PySem.Env} (h : env.scope.names.lookup t = some .cell) : swapsWith ex (some (.Name t p)) l env = pure false := by
  have k : env.kindOf t = some .cell := h
  unfold swapsWith
  split
  · simp only [k]
    rw [show (some NameKind.cell == some NameKind.local) = false from rfl, Bool.and_false, Bool.false_and, Bool.false_and]
  · rfl
theorem ss_asgCell {i : Nat} {x : Str} {p pos : Pos} {a : E} (hi : N[i]? = some x) (hl : isLoc sc x = true) (hp : pr i = false) (hc : sc.names.lookup x = some .cell) (h : SE N sc CX ex φ (evalE φ a)) : SS N sc CX pr (.Assign [.Name x p] ex pos) φ (exec φ (.asg i a)) := by
  intro X G e F H σ Dn rel k
  simp only [exec] at k
  obtain ⟨⟨w, e1⟩, r1, k⟩ := ofR_ok' k
  refine RS.know fun l => RS.of (ps_set (by rw [G.hN]; exact G.nd) (by rw [G.hN]; exact hi) (G.loc hl).1 (peE ex) (sw_cell (by rw [G.hsc]; exact hc)) (G.loc hl).2) (h X G.toGood e w e1 r1 F H σ _ rel fun v F1 H1 p1 d1 f1 => ?_)
  have hiσ : i < σ.length := by rw [l.len, G.hN]; exact (List.getElem?_eq_some_iff.mp hi).1
  exact k _ F1 H1 (Post.set p1 hiσ d1 f1) (kept_set hp)
mutual
theorem cS_ok : ∀ (s : S) (st : Stmt), cS N sc pr s st = true → SS N sc CX pr st φ (exec φ s)
  | .asg i a, st, h => by
    simp only [cS] at h
    split at h
    · rename_i x px ex pos
      simp only [Bool.and_eq_true, decide_eq_true_eq, Bool.not_eq_true'] at h
      obtain ⟨⟨⟨⟨h1, h2⟩, h3⟩, h4⟩, h5⟩ := h
      by_cases hce : sc.names.lookup x = some .cell
      · exact ss_asgCell h1 h2 h3 hce (cE_ok a sc ex h4)
      by_cases hc : isComp ex = true
      · unfold cLc at h5
        rw [if_pos (by rw [hc, decide_eq_false hce]; rfl), Bool.and_eq_true] at h5
        obtain ⟨h6, h5⟩ := h5
        split at h5
        · rename_i el gs scope pos2
          simp only [Bool.and_eq_true, decide_eq_true_eq, Bool.not_eq_true'] at h5
          obtain ⟨⟨g1, g2⟩, g3⟩ := h5
          cases a <;> first | (cases h6; done) | skip
          rename_i own t s cond elt
          simp only [cE] at h4
          split at h4
          · rename_i el' tg iter ifs asy scope' pos3 heq
            cases heq
            simp only [Bool.and_eq_true, decide_eq_true_eq, Bool.not_eq_true', Bool.or_eq_true, List.all_eq_true] at h4
            obtain ⟨⟨⟨⟨⟨⟨⟨⟨rfl, f1⟩, f2⟩, f3⟩, f4⟩, f5⟩, f6⟩, f7⟩, f8⟩ := h4
            have := ss_setLc (CX := CX) (φ := φ) (pos := pos2) (spos := pos) (py := px) (t := t) (s := s) (cond := cond) (a := elt) (pl := plS s) h1 g1 h3 g2 g3 ((cSrc_ok s sc iter f6).1 tg (f2.imp id fun z => z.2)) (cTg_ok t tg f1) (f2.imp id fun z => z.1) (ownS := ownS N own) (fun j hj => by rw [ownS_snd]; simpa using f3 j hj) f4 f5
              (cCo_ok cond (relS scope sc) ifs f7) (sd_of (cE_ok elt (relS scope sc) _ f8))
            rw [ownS_snd] at this
            exact this
          · cases h4
        · cases h5
      · exact ss_asg h1 h2 h3 (by simpa using hc) (cE_ok a sc ex h4)
    · cases h
  | .asgT t a, st, h => by
    simp only [cS] at h
    split at h
    · simp only [Bool.and_eq_true, Bool.not_eq_true'] at h
      obtain ⟨⟨⟨h1, h2⟩, h3⟩, h4⟩ := h
      exact ss_asgT (fun X G => cTg_ok t _ h1 X G.tgt) (npr_of h2) sw_tup (sp_tup h3) (fun env => rfl) (sd_of (cE_ok a sc _ h4))
    · cases h
  | .aug i o a, st, h => by
    simp only [cS] at h
    split at h
    · simp only [Bool.and_eq_true, decide_eq_true_eq, Bool.not_eq_true'] at h
      obtain ⟨⟨⟨⟨rfl, h1⟩, h2⟩, h3⟩, h4⟩ := h
      exact ss_aug h1 h2 h3 (sd_of (cE_ok a sc _ h4))
    · cases h
  | .st i ix a, st, h => by
    simp only [cS] at h
    split at h
    · simp only [Bool.and_eq_true, Bool.not_eq_true'] at h
      obtain ⟨⟨⟨h1, h2⟩, h3⟩, h4⟩ := h
      obtain ⟨x, p, rfl, g1, g2, g3⟩ := cName_inv h1
      exact ss_st g1 g2 g3 (sd_of (cE_ok a sc _ h4)) (sd_of (cE_ok ix sc _ h3)) h2
    · cases h
  | .dst i ix a, st, h => by
    simp only [cS] at h
    split at h
    · simp only [Bool.and_eq_true] at h
      obtain ⟨⟨h1, h3⟩, h4⟩ := h
      obtain ⟨x, p, rfl, g1, g2, g3⟩ := cName_inv h1
      exact ss_dst g1 g2 g3 (sd_of (cE_ok a sc _ h4)) (sd_of (cE_ok ix sc _ h3))
    · cases h
  | .tst i ix a, st, h => by
    simp only [cS] at h
    split at h
    · simp only [Bool.and_eq_true] at h
      obtain ⟨⟨h1, h3⟩, h4⟩ := h
      obtain ⟨x, p, rfl, g1, g2, g3⟩ := cName_inv h1
      exact ss_tst g1 g2 g3 (sd_of (cE_ok a sc _ h4)) (sd_of (cE_ok ix sc _ h3))
    · cases h
  | .st2 i ix j jx a b, st, h => by
    simp only [cS] at h
    split at h
    · simp only [Bool.and_eq_true, Bool.not_eq_true'] at h
      obtain ⟨⟨⟨⟨⟨⟨⟨⟨⟨h1, h2⟩, h3⟩, h4⟩, h5⟩, h6⟩, h7⟩, h8⟩, h9⟩, h10⟩ := h
      obtain ⟨x, p, rfl, g1, g2, g3⟩ := cName_inv h1
      obtain ⟨y, q, rfl, f1, f2, f3⟩ := cName_inv h2
      exact ss_st2 g1 g2 g3 f1 f2 f3 (sd_of (cE_ok a sc _ h9)) (sd_of (cE_ok b sc _ h10)) (sd_of (cE_ok ix sc _ h7)) (sd_of (cE_ok jx sc _ h8)) h5 h6 h3 h4
    · cases h
  | .ex a, st, h => by
    simp only [cS] at h
    split at h
    · simp only [Bool.and_eq_true, Bool.not_eq_true'] at h
      exact ss_ex h.1 (cE_ok a sc _ h.2)
    · cases h
  | .ret a, st, h => by
    simp only [cS] at h
    split at h
    · exact ss_ret (cE_ok a sc _ h)
    · cases h
  | .retN, st, h => by
    simp only [cS] at h
    split at h
    · exact ss_retN
    · cases h
  | .iff t a b, st, h => by
    simp only [cS] at h
    split at h
    · simp only [Bool.and_eq_true] at h
      exact ss_iff (cT_ok t sc _ h.1.1).st (cSs_ok a _ h.1.2) (cSs_ok b _ h.2)
    · cases h
  | .forr t s b kill, st, h => by
    simp only [cS] at h
    split at h
    · simp only [Bool.and_eq_true, Bool.not_eq_true', Bool.or_eq_true] at h
      obtain ⟨⟨⟨⟨⟨h1, h2⟩, h3⟩, h4⟩, h5⟩, h6⟩ := h
      exact ss_for (pl := plS s) ((cSrc_ok s sc _ h5).1 _ (h2.imp id fun z => z.2)) (fun X G => cTg_ok t _ h1 X G.tgt) (h2.imp id fun z => z.1) (npr_of h3) h4 (cSs_ok b _ h6)
    · cases h
  | .whil t b kill, st, h => by
    simp only [cS] at h
    split at h
    · simp only [Bool.and_eq_true] at h
      exact ss_while (cT_ok t sc _ h.1).st (cSs_ok b _ h.2)
    · cases h
  | .forv t i b kill, st, h => by
    simp only [cS] at h
    split at h
    · simp only [Bool.and_eq_true, decide_eq_true_eq] at h
      obtain ⟨⟨⟨⟨⟨h1, h2⟩, h3⟩, h4⟩, h5⟩, h6⟩ := h
      obtain ⟨x, p, rfl, g1, g2, g3⟩ := cName_inv h3
      subst h4
      exact ss_forv g1 g2 g3 h5 (fun X G => cTg_ok t _ h1 X G.tgt) (npr_of h2) (cSs_ok b _ h6)
    · cases h
  | .zext j i a b, st, h => by
    simp only [cS] at h
    split at h
    · rename_i ny np z zp ea eb zpos o nm ap y2 cp ep pos
      simp only [Bool.and_eq_true, decide_eq_true_eq, Bool.not_eq_true'] at h
      obtain ⟨⟨⟨⟨⟨⟨⟨⟨⟨⟨⟨⟨⟨h1, h2⟩, h3⟩, h4⟩, h5⟩, h6⟩, h7⟩, h8⟩, h9⟩, h10⟩, h11⟩, h12⟩, h13⟩, h14⟩ := h
      obtain ⟨y', q, rfl, g1, g2, g3⟩ := cName_inv h3
      obtain ⟨x, p, rfl, f1, f2, f3⟩ := cName_inv h12
      have e : y' = ny := of_decide_eq_true h4
      subst e
      subst h6
      subst h10
      exact ss_zext f1 f2 f3 g1 h2 g2 g3 h5 (show sc.names.lookup _ = _ from of_decide_eq_true (show decide (sc.names.lookup _ = _) = true from h7)) h8 h9 (sd_of (cE_ok a sc _ h13)) (sd_of (cE_ok b sc _ h14)) h11
    · cases h
  | .pass, st, h => by
    simp only [cS] at h
    split at h
    · exact ss_pass
    · cases h
  | .brk, st, h => by
    simp only [cS] at h
    split at h
    · exact ss_brk
    · cases h
  | .cnt, st, h => by
    simp only [cS] at h
    split at h
    · exact ss_cnt
    · cases h
  | .raise c, st, h => by
    intro X G e F H σ Dn rel k
    simp only [exec] at k
    exact False.elim k
theorem cSs_ok : ∀ (s : Ss) (l : List Stmt), cSs N sc pr s l = true → SSs N sc CX pr l φ (execs φ s)
  | .nil, l, h => by
    simp only [cSs] at h
    split at h
    · exact sss_nil
    · cases h
  | .cons s r, l, h => by
    simp only [cSs] at h
    split at h
    · simp only [Bool.and_eq_true] at h
      exact sss_cons (cS_ok s _ h.1) (cSs_ok r _ h.2)
    · cases h
end
end
end Sw
end T_SwQ
section T_SwR
set_option autoImplicit false
set_option linter.all false
set_option Elab.async false
set_option maxRecDepth 100000
set_option maxHeartbeats 2000000
/-! SwR: defs, levels of calls, the law's end. -/
namespace Sw
open PySem L2
/-! ### a def by its body, where no repr is under way -/
theorem fng_of {CX : CXT} {P : Program} {w : World} {K : Frag} {mg : Str → Option Value} {base : Heap} {lv : Nat} {fa : Addr} {nm : Str} {st : Stmt} {fd : FuncData} {N ps : List Str} {sp : Sp} (Fn : Fun K nm nm st fa fd) (S : FnScope N ps (defScope st))
    (cnt : ∀ vs H Q E, sp vs H Q E → vs.length = ps.length)
    (run : ∀ (cd : Value) (A : Around) (outer : List PySem.Env) (s : Shared) (H : Hp) (vs : List L2.V) (Q : VK) (E : XK), A.guards = some [] → Room lv (A.deeper (PyProof.Rows.envOfC nm (defScope st) s.heap.objs.size fa cd)) → sp vs H Q E →
      RSs (cxOf CX P w K mg base N nm (defScope st) fa cd A outer s H E).nox (defBody st) { nx := fun _ H' => Q .non H', rt := Q } (L2.start N vs) H) : FnG P w K mg base CX (lv + 1) fa fd ps sp := by
  obtain ⟨oc, od, kV, doc, pm, an, cd, ct, osl, rfl, hl, hc⟩ := Fn.ex
  refine ⟨cnt, fun A outer s H args us vs Q E hg room e0 bt rel hs => ?_⟩
  have hn := cnt _ _ _ _ hs
  have kin : K.In s.heap := e0.mod.kin.keeps fun a u q => (e0.bs a u q).1
  have noLim : s.heap.NoLimit := e0.mod.nolimit.keeps fun a u q => (e0.bs a u q).1
  refine codeAny_call_function room.depth (kin _ _ hl) rfl S.co S.gen rfl (PySem.W.codeRec_of kin hc) (bt _ _ _ _ ?_)
  refine wpAny_newFunctionEnv_cells S.kind (fun z hz => ?_) fun fe he s' ic => ?_
  · obtain ⟨y, u⟩ := z
    rcases S.par y (List.of_mem_zip hz).1 with g | g
    · exact .inl g
    · exact .inr ⟨g, PySem.W.cellsFrom_some _ _ _ (.inl g)⟩
  · subst he
    refine ⟨noLim.keeps ic.toInCall.keep, codeAny_func ?_⟩
    have I := inv_start (CX := CX) (E := E) S room.hd e0 hn rel ic
    have body := run cd A outer s H vs Q E hg (room.deeper _) hs [] s' (I.wish _)
    refine wpAny_mono body (fun fl t q => ?_) fun _ _ q => q.elim
    have q := q.unwish
    cases fl with
    | ret u =>
      obtain ⟨v, σ', H', J, rv, z⟩ := q
      exact ⟨v, H', J.os, J.bare, J.base, J.hok, rv, z⟩
    | next =>
      obtain ⟨σ', H', J, z⟩ := q
      exact ⟨.non, H', J.os, J.bare, J.base, J.hok, rfl, z⟩
    | brk => obtain ⟨_, _, _, z⟩ := q; exact z.elim
    | cont => obtain ⟨_, _, _, z⟩ := q; exact z.elim
/-! ### the frame at the start and at the end -/
section
variable {K : Frag} {F H : Hp} {vs : List L2.V} {args : List V} {N : List Str}
theorem start_lt {i : Nat} (h : i < vs.length) : (L2.start N vs)[i]? = (vs.map some)[i]? := by
  unfold L2.start
  rw [List.getElem?_append_left (by rw [List.length_map]; exact h)]
theorem get_app {m i : Nat} : get (args ++ List.replicate m .u) i = get args i := by
  unfold get
  rw [List.getD_eq_getElem?_getD, List.getD_eq_getElem?_getD]
  by_cases h : i < args.length
  · rw [List.getElem?_append_left h]
  · rw [List.getElem?_append_right (by omega), List.getElem?_eq_none (l := args) (by omega), List.getElem?_replicate]
    split <;> rfl
theorem has_start {m i : Nat} {a : Addr} (hl : vs.length = args.length) (h : HasV H (get (args ++ List.replicate m .u) i) (L2.start N vs)[i]? a) : HasV H (get args i) (vs.map some)[i]? a := by
  rw [get_app] at h
  have hi : i < vs.length := by
    by_cases z : i < vs.length
    · exact z
    · rw [get_ge (by omega)] at h; exact absurd h (HasV.not rfl)
  rw [start_lt hi] at h
  exact h
theorem own_start {m : Nat} {a : Addr} (hl : vs.length = args.length) (h : Own H (L2.start N vs) (args ++ List.replicate m .u) a) : Own H (vs.map some) args a := by
  obtain ⟨i, h⟩ := h
  exact ⟨i, has_start hl h⟩
theorem rel_start {m : Nat} (hl : vs.length = args.length) (r : Rel K F H (vs.map some) args) : Rel K F H (L2.start N vs) (args ++ List.replicate m .u) := by
  refine ⟨r.sub, fun i => ?_, fun i j a h1 h2 => r.sep i j a (has_start hl h1) (has_start hl h2)⟩
  rw [get_app]
  by_cases z : i < vs.length
  · rw [start_lt z]; exact r.slot i
  · rw [get_ge (by omega)]; trivial
def prF (fd : FDef) (i : Nat) : Bool := decide (i < fd.np) && !fd.wp.contains i
theorem get_take {e : Env} {n i : Nat} : get (e.take n) i = if i < n then get e i else .u := by
  unfold get
  rw [List.getD_eq_getElem?_getD, List.getD_eq_getElem?_getD, List.getElem?_take]
  split <;> rfl
/-- the outs of a def -/
theorem post_end {F' H' : Hp} {m : Nat} {fd : FDef} {σ' : L2.St} {e' : Env} (hl : vs.length = args.length) (hn : fd.np = args.length) (p : Post K F H (L2.start N vs) (args ++ List.replicate m .u) F' H' σ' e') (kp : Kept (prF fd) (L2.start N vs) σ') :
    Post K F H (vs.map some) args F' H' (vs.map some) (killAll fd.wp (e'.take fd.np)) ∧ ∀ a, Own H' (vs.map some) (killAll fd.wp (e'.take fd.np)) a → Own H' σ' e' a := by
  have slot : ∀ i, get (killAll fd.wp (e'.take fd.np)) i = .u ∨ (get (killAll fd.wp (e'.take fd.np)) i = get e' i ∧ (vs.map some)[i]? = σ'[i]?) := fun i => by
    rcases get_kill (l := fd.wp) (e := e'.take fd.np) (i := i) with z | ⟨z1, z2⟩
    · exact .inl z
    · rw [get_take] at z1
      split at z1
      · rename_i hi
        refine .inr ⟨z1, ?_⟩
        have := kp i (by unfold prF; simp [hi, z2])
        rw [this, start_lt (by omega)]
      · exact .inl z1
  have ow : ∀ i a, HasV H' (get (killAll fd.wp (e'.take fd.np)) i) (vs.map some)[i]? a → HasV H' (get e' i) σ'[i]? a := fun i a h => by
    rcases slot i with z | ⟨z1, z2⟩
    · rw [z] at h; exact absurd h (HasV.not rfl)
    · rw [z1, z2] at h; exact h
  have own' : ∀ a, Own H' (vs.map some) (killAll fd.wp (e'.take fd.np)) a → Own H' σ' e' a := fun a ⟨i, h⟩ => ⟨i, ow i a h⟩
  refine ⟨⟨p.grow, ⟨p.rel.sub, fun i => ?_, fun i j a h1 h2 => p.rel.sep i j a (ow i a h1) (ow j a h2)⟩, fun a o h n => p.keep a o h fun z => n (own_start hl z), fun a h => ?_, p.dom, fun a h => ?_⟩, own'⟩
  · rcases slot i with z | ⟨z1, z2⟩
    · rw [z]; trivial
    · rw [z1, z2]; exact p.rel.slot i
  · rcases p.new a h with z | z | z
    · exact .inl z
    · exact .inr (.inl z)
    · exact .inr (.inr (own_start hl z))
  · rcases p.own a (own' a h) with z | z
    · exact .inl (own_start hl z)
    · exact .inr z
end
/-! ### the table of defs -/
structure DefAt (K : Frag) (mg : Str → Option Value) (f : String) (fd : FDef) (st : Stmt) (N ps : List Str) (fa : Addr) (FD : FuncData) : Prop where
  fn : Fun K (Str.ofString f) (Str.ofString f) st fa FD
  binds : Binds K FD ps []
  mg : mg (Str.ofString f) = some (.ref fa)
  scope : FnScope N ps (defScope st)
  ok : cSs N (defScope st) (prF fd) fd.body (defBody st) = true
  np : fd.np = ps.length
def ConAt (K : Frag) (mg : Str → Option Value) (T : Tab) (f s : String) : Prop := ∃ d v u, (∀ m args p, callF T (m + 1) f args = .ok p → p.1 = V.d d) ∧ mg (Str.ofString s) = some u ∧ RelV v u ∧ ∀ F, Rp K F v d
def TabOk (K : Frag) (mg : Str → Option Value) (T : Tab) : Prop := ∀ f fd, T f = some fd → (isCon f = none → ∃ st N ps fa FD, DefAt K mg f fd st N ps fa FD) ∧ ∀ s, isCon f = some s → ConAt K mg T f s
theorem not_con {f : String} (h : isCon f = none) {P : String → Prop} : ∀ s, isCon f = some s → P s := fun s hs => by rw [h] at hs; cases hs
theorem call_inv {T : Tab} {n : Nat} {f : String} {args : List V} {p : V × List V} (h : callF T n f args = .ok p) : ∃ m fd, n = m + 1 ∧ T f = some fd ∧ args.length = fd.np ∧ endF fd (execs (callF T m) fd.body (args ++ List.replicate (fd.nv - fd.np) .u)) = .ok p := by
  cases n with
  | zero => simp only [callF] at h; cases h
  | succ m =>
    simp only [callF] at h
    split at h
    · rename_i fd hT
      split at h
      · rename_i hl
        exact ⟨m, fd, rfl, hT, hl, h⟩
      · cases h
    · cases h
theorem lev {P : Program} {w : World} {K : Frag} {mg : Str → Option Value} {base : Heap} {T : Tab} (TO : TabOk K mg T) (hb : ∀ b ∈ blts, mg (Str.ofString b) = none) :
    ∀ (n : Nat) (f : String) (fd : FDef) (st : Stmt) (N ps : List Str) (fa : Addr) (FD : FuncData), T f = some fd → DefAt K mg f fd st N ps fa FD → FnG P w K mg base CX0 n fa FD ps (SpOf K (callF T n) f)
  | 0, f, fd, st, N, ps, fa, FD, hT, D => by
    have no : ∀ vs H Q E, ¬ SpOf K (callF T 0) f vs H Q E := fun vs H Q E ⟨args, w', outs, F, h, _⟩ => by
      obtain ⟨m, _, z, _⟩ := call_inv h
      omega
    exact ⟨fun vs H Q E h => (no vs H Q E h).elim, fun A outer s H args us vs Q E _ _ _ _ _ h => (no vs H Q E h).elim⟩
  | n + 1, f, fd, st, N, ps, fa, FD, hT, D => by
    have shape : ∀ vs H Q E, SpOf K (callF T (n + 1)) f vs H Q E → vs.length = ps.length := fun vs H Q E ⟨args, w', outs, F, h, hl, _⟩ => by
      obtain ⟨m, fd', z, hT', hn, _⟩ := call_inv h
      rw [hT] at hT'; cases hT'
      rw [hl, hn, D.np]
    refine fng_of D.fn D.scope shape fun cd A outer s H vs Q E hg room hsp => ?_
    obtain ⟨args, w', outs, F, h, hl, rel, q⟩ := hsp
    obtain ⟨m, fd', z, hT', hn, hE⟩ := call_inv h
    rw [hT] at hT'; cases hT'
    have hm : m = n := by omega
    subst hm
    have units : (A.deeper (PyProof.Rows.envOfC (Str.ofString f) (defScope st) s.heap.objs.size fa cd)).units + 200 < cLine := by have := room.un; omega
    have G : GoodS N (defScope st) CX0 (cxOf CX0 P w K mg base N (Str.ofString f) (defScope st) fa cd A outer s H E).nox (callF T m) := by
      refine ⟨⟨rfl, D.scope.nd, rfl, rfl, hg, units, hb, fun _ _ _ _ _ z => z, fun g s as p hs hp => ?_, fun g as p hg0 hp => ?_⟩, fun _ _ => rfl, fun _ _ z => z, D.scope.kind⟩
      · obtain ⟨m', fd2, z, hT2, _⟩ := call_inv hp
        obtain ⟨d, v, u, g1, g2, g3, g4⟩ := (TO g fd2 hT2).2 s hs
        rw [z] at hp
        exact ⟨d, v, u, g1 m' as p hp, g2, g3, g4⟩
      obtain ⟨m', fd2, z, hT2, _⟩ := call_inv hp
      obtain ⟨st2, N2, ps2, fa2, FD2, D2⟩ := (TO g fd2 hT2).1 hg0
      exact ⟨fa2, FD2, ps2, m, lev TO hb m g fd2 st2 N2 ps2 fa2 FD2 hT2 D2, room, D2.mg, D2.fn.kp, D2.binds⟩
    refine cSs_ok fd.body (defBody st) D.ok _ G (args ++ List.replicate (fd.nv - fd.np) Sw.V.u) F H (L2.start N vs) _ (rel_start hl rel) ?_
    have fin : ∀ {v w2 e' σ' F' H'}, Post K F H (L2.start N vs) (args ++ List.replicate (fd.nv - fd.np) .u) F' H' σ' e' → Kept (prF fd) (L2.start N vs) σ' → ResR K F' H' σ' e' w2 v → From H (L2.start N vs) (args ++ List.replicate (fd.nv - fd.np) .u) w2 v →
        w2 = w' → killAll fd.wp (e'.take fd.np) = outs → Q v H' := fun {v w2 e' σ' F' H'} p kp r fr e1 e2 => by
      subst e1 e2
      obtain ⟨p', ow⟩ := post_end hl hn.symm p kp
      refine q v F' H' p' ?_ ?_
      · cases w2 with
        | u => exact r
        | g _ => exact r
        | k xs =>
          obtain ⟨a, us, h1, h2, h3, h4, h5⟩ := r
          exact ⟨a, us, h1, h2, h3, h4, fun z => h5 (ow a z)⟩
        | t xs =>
          obtain ⟨a, us, h1, h2, h3, h4, h5⟩ := r
          exact ⟨a, us, h1, h2, h3, h4, fun z => h5 (ow a z)⟩
        | d x => exact r
        | c xs =>
          obtain ⟨a, us, h1, h2, h3, h4, h5⟩ := r
          exact ⟨a, us, h1, h2, h3, h4, fun z => h5 (ow a z)⟩
      · cases w2 with
        | c xs =>
          intro a ha
          rcases fr a ha with z | z
          · exact .inl z
          · exact .inr (own_start hl z)
        | k xs =>
          intro a ha
          rcases fr a ha with z | z
          · exact .inl z
          · exact .inr (own_start hl z)
        | t xs =>
          intro a ha
          rcases fr a ha with z | z
          · exact .inl z
          · exact .inr (own_start hl z)
        | u => trivial
        | g _ => exact fr
        | d _ => trivial
    revert hE
    cases execs (callF T m) fd.body (args ++ List.replicate (fd.nv - fd.np) .u) with
    | nx e' =>
      intro hE
      cases hE
      exact fun σ' F' H' p kp => fin p kp (w2 := .d .none) .non trivial rfl rfl
    | rt w2 e' =>
      intro hE
      cases hE
      exact fun v σ' F' H' p kp r fr => fin p kp r fr rfl rfl
    | bk e' => intro hE; cases hE
    | ct e' => intro hE; cases hE
    | exc c => intro hE; cases hE
    | bad => intro hE; cases hE
end Sw
end T_SwR
section T_SwS
set_option autoImplicit false
set_option linter.all false
set_option Elab.async false
set_option maxRecDepth 100000
set_option maxHeartbeats 2000000
/-! SwS: the law's end. -/
namespace Sw
open PySem L2
theorem room_caller {k : Nat} (h : k ≤ 40) : Room k callerA := by
  have d : callerA.depth + 3 * 40 + 5 < recursionLimit := by decide +kernel
  have u : callerA.units + 16 * 40 + 200 < cLine := by decide +kernel
  exact ⟨rfl, by omega, by omega⟩
theorem ints_rp {K : Frag} {F : Hp} (ns : List Int) : RpAll K F (ns.map L2.V.int) (ns.map PyData.int) := rpAll_ints
theorem end_call {P : Program} {w : World} {K : Frag} {mg mb : Str → Option Value} {k : Nat} {fa sa : Addr} {FD : FuncData} {x : Str} {T : Tab} {S1 : Shared} {items : List Value} {ns : List Int}
    (kin : K.In S1.heap) (gl : S1.heap.Ns mainGlobals mg) (bl : S1.heap.Ns builtinsNs mb) (bb : ∀ y : Str, y ≠ "__name__" → mb y = bootBuiltins y) (nl : S1.heap.NoLimit) (gens : S1.gens = #[])
    (obj : S1.heap.get? sa = some { cls := .type "list", data := .seq items.toArray }) (intz : PyProof.Rows.IntsAre items ns) (short : ns.length ≤ sizeLine) (rm : Room k callerA)
    (fn : ∀ B : Heap, K.In B → B.Ns mainGlobals mg → FnG P w K mg B CX0 k fa FD [x] (SpOf K (callF T k) "law")) (bt : ∀ (t : Shared) (u : Value), BindsTo t FD ⟨[u], []⟩ [(x, u)])
    (val : ∃ outs, callF T k "law" [.d (.list (ns.map .int))] = .ok (.d (.bool true), outs)) :
    codeAny (model P w) callerA (.call (.ref fa) ⟨[.ref sa], []⟩) (fun r t => r = .ok (.ret (.bool true)) ∧ OldK S1.heap t.heap ∧ t.os = S1.os ∧ PyProof.Rows.AllBare t.gens) S1 := by
  have rv := vals_ints intz
  have il := intz.length
  obtain ⟨outs, hval⟩ := val
  have go : ∀ Hx : Hp, Only Hx → SqL K Hx sa (ns.map L2.V.int) → HOk P w Hx S1.heap → (∀ b, Hx b ≠ none → b = sa) → (Hx sa ≠ none → K.lookup sa = none) →
      codeAny (model P w) callerA (.call (.ref fa) ⟨[.ref sa], []⟩) (fun r t => r = .ok (.ret (.bool true)) ∧ OldK S1.heap t.heap ∧ t.os = S1.os ∧ PyProof.Rows.AllBare t.gens) S1 := by
    intro Hx only sq ok one out
    have keepB : ∀ {b : Addr} {o : Obj}, S1.heap.get? b = some o → Hx b = none → (hidT S1.heap Hx).get? b = some o := fun g z => hidT_get g z
    have dictB : ∀ {b : Addr} {o : Obj} {es : Array DictEntry} {ep : Nat}, S1.heap.get? b = some o → o.data = .dict es ep → Hx b = none := fun {b o es ep} g d => by
      cases z : Hx b with
      | none => rfl
      | some u =>
        have hb := one b (by rw [z]; simp)
        subst hb
        rw [obj] at g; cases g
        cases (show Data.seq items.toArray _ = Data.dict es ep from d)
    have nsB : ∀ {b : Addr} {m : Str → Option Value}, S1.heap.Ns b m → (hidT S1.heap Hx).Ns b m := fun {b m} ⟨o, es, ep, g, d, r⟩ => ⟨o, es, ep, keepB g (dictB g d), d, r⟩
    have kinB : K.In (hidT S1.heap Hx) := fun b o g => keepB (kin b o g) (by
      cases z : Hx b with
      | none => rfl
      | some u =>
        have hb := one b (by rw [z]; simp)
        subst hb
        rw [out (by rw [z]; simp)] at g; cases g)
    obtain ⟨mc, nl1, nl2⟩ := nl
    have md : Mod K mg (hidT S1.heap Hx) := ⟨kinB, nsB gl, ⟨mb, nsB bl, bb⟩, ⟨mc, nsB nl1, nl2⟩⟩
    have ee : Env0 P w K mg (hidT S1.heap Hx) callerA [] S1 Hx := by
      refine ⟨rfl, md, fun b o g => of_hidT g, Nat.le_of_eq (hidT_size _ _), trivial, ?_, ok, .of_eq gens⟩
      intro b hb
      cases (show b ∈ ([] : List Addr) from hb)
    have slot : Rel K Hx Hx ([L2.V.ref sa].map some) [.d (.list (ns.map .int))] := by
      refine ⟨Sub.refl _, fun i => ?_, fun i j b h1 => ?_⟩
      · cases i with
        | zero => exact ⟨_, rfl, .lst sq (ints_rp ns)⟩
        | succ i => rw [get_ge (by simp)]; trivial
      · cases i with
        | zero => exact absurd h1 (HasV.not rfl)
        | succ i => rw [get_ge (by simp)] at h1; exact absurd h1 (HasV.not rfl)
    have sp : SpOf K (callF T k) "law" [L2.V.ref sa] Hx (fun v _ => v = .bl true) (fun _ _ _ => False) := ⟨_, _, _, Hx, hval, rfl, slot, fun v F' H' _ r _ => by cases r; rfl⟩
    refine codeAny_mono ((fn _ kinB (nsB gl)).go callerA [] S1 Hx ⟨[.ref sa], []⟩ [.ref sa] [.ref sa] _ _ rfl rm ee (bt S1 (.ref sa)) (.cons rfl .nil) sp) fun r t hr => ?_
    cases r with
    | error er => exact hr.elim
    | ok fl =>
      cases fl with
      | ret u =>
        obtain ⟨v, H', c1, c2, c3, c4, c5, c6⟩ := hr
        have c6 : v = .bl true := c6
        subst c6
        cases (show u = Value.bool true from c5)
        refine ⟨rfl, OldK.of_keep fun b o g => ?_, c1, c2⟩
        cases z : Hx b with
        | none =>
          refine c3.keep b o g z (fun y => ?_) (by simp)
          cases (show b ∈ ([] : List Addr) from y)
        | some u =>
          rcases only b with y | ⟨ob, xs, y⟩
          · rw [z] at y; cases y
          · have old := (ok b _ y).1
            rw [g] at old; cases old
            exact (c4 b _ (c3.frzs b _ _ y)).1
      | next => exact hr.elim
      | brk => exact hr.elim
      | cont => exact hr.elim
  by_cases hk : ∃ o, K.lookup sa = some o
  · obtain ⟨o, hk⟩ := hk
    have g := kin sa o hk
    rw [obj] at g
    cases g
    refine go (fun _ => none) (fun _ => .inl rfl) (.inr ⟨_, items.toArray, _, hk, rfl, rfl, rfl, ?_, by simpa using rv⟩) (fun b u y => by cases (show (none : Option HO) = some u from y)) (fun b y => (y rfl).elim) fun y => (y rfl).elim
    rw [List.size_toArray, il]; exact short
  · have hk' : K.lookup sa = none := by
      cases z : K.lookup sa with
      | none => rfl
      | some o => exact absurd ⟨o, z⟩ hk
    have self : (fun b => if b = sa then some (HO.frz { cls := .type "list", data := .seq items.toArray } (.lst (ns.map L2.V.int))) else none) sa = some (HO.frz { cls := .type "list", data := .seq items.toArray } (.lst (ns.map L2.V.int))) := if_pos rfl
    refine go (fun b => if b = sa then some (HO.frz { cls := .type "list", data := .seq items.toArray } (.lst (ns.map L2.V.int))) else none) (fun b => ?_) (.inl (.inr ⟨_, self⟩)) (fun b u y => ?_) (fun b y => ?_) fun _ => hk'
    · by_cases hb : b = sa
      · subst hb; exact .inr ⟨_, _, self⟩
      · exact .inl (if_neg hb)
    · by_cases hb : b = sa
      · subst hb
        rw [self] at y
        cases y
        exact ⟨obj, by rw [List.length_map]; exact short, items, _, rv, obj⟩
      · cases (if_neg hb).symm.trans y
    · exact Classical.byContradiction fun hb => y (if_neg hb)
/-- what the goal of k_head asks, from the table of defs and the core's answer -/
theorem end_walk {l : PySem.W.OpenLaw} {n k : Nat} {q : Program} {loose : List Str} {XP : (Str → Option Value) → Heap → Prop} {YP : World → Heap → Prop} {d : DefRec} {Kf : Params → Frag} {T : Tab} {lawD : FDef} {lawS : Stmt} {NL : List Str} {x : Str}
    (most : l.most = some n) (short : n ≤ sizeLine) (dflt : d.params.defaults = []) (hk : k ≤ 40) (isY : ∀ (w : World) (h : Heap), YP w h → (Kf w.params).In h) (dn : d.name = Str.ofString "law")
    (tab : ∀ (w : World) (mg : Str → Option Value) (h : Heap), (Kf w.params).In h → h.Ns mainGlobals mg → TabOk (Kf w.params) mg T ∧ (∀ b ∈ blts, mg (Str.ofString b) = none) ∧ T "law" = some lawD ∧ ∃ fa FD, DefAt (Kf w.params) mg "law" lawD lawS NL [x] fa FD ∧ ∀ (t : Shared) (u : Value), BindsTo t FD ⟨[u], []⟩ [(x, u)])
    (val : ∀ ns : List Int, ns.length ≤ n → ∃ outs, callF T k "law" [.d (.list (ns.map .int))] = .ok (.d (.bool true), outs)) :
    PySem.W.WalkO q loose XP YP l.row.toRowW d [] (fun f vs => PySem.call f vs) := by
  refine Att.attach_call most dflt fun w s0 S1 mg mb fa o pm cd doc sa items ns G Y ho hd hcd hmg obj intz len gens => ?_
  have kin := isY w _ Y
  obtain ⟨TO, hb, hT, fa', FD, D, bt⟩ := tab w mg _ kin G.T.g
  have e := hmg
  rw [dn, D.mg] at e
  cases e
  exact end_call kin G.T.g G.T.b G.T.builtins G.T.nolimit gens obj intz (Nat.le_trans len short) (room_caller hk) (fun B _ _ => lev TO hb k "law" lawD lawS NL [x] fa FD hT D) bt (val ns len)
end Sw
end T_SwS
section T_SwU
set_option autoImplicit false
set_option linter.all false
set_option maxRecDepth 100000
/-! SwU: plain facts about the core, and the helpers that many laws share. -/
namespace Sw
open PySem
theorem call_eq {T : Tab} {n : Nat} {f : String} {fd : FDef} {as : List V} (h : T f = some fd) (hl : as.length = fd.np) : callF T (n + 1) f as = endF fd (execs (callF T n) fd.body (as ++ List.replicate (fd.nv - fd.np) .u)) := by
  simp only [callF, h, hl, if_true]
/-! ### comprehensions and loops by what stays true -/
theorem compL_inv {f : D → Env → R (Option D × Env)} {own : List Nat} (P : List D → List D → Env → Prop) (step : ∀ x r acc e, P (x :: r) acc e → ∃ od e', f x e = .ok (od, e') ∧ P r (acc ++ od.toList) (killAll own e')) :
    ∀ (xs acc : List D) (e : Env), P xs acc e → ∃ ys e', compL f own xs e = .ok (ys, e') ∧ P [] (acc ++ ys) e'
  | [], acc, e, h => ⟨[], e, rfl, by simpa using h⟩
  | x :: r, acc, e, h => by
    obtain ⟨od, e1, h1, h2⟩ := step x r acc e h
    obtain ⟨ys, e2, h3, h4⟩ := compL_inv P step r _ _ h2
    exact ⟨od.toList ++ ys, e2, by simp [compL, h1, h3], by simpa using h4⟩
/-! ### lists of numbers as data -/
def natD (n : Nat) : D := .int (n : Int)
def natsD (ns : List Nat) : List D := ns.map natD
def tupN (ns : List Nat) : D := .tuple (natsD ns)
theorem natsD_len (ns : List Nat) : (natsD ns).length = ns.length := List.length_map _
theorem natsD_get (ns : List Nat) (i : Nat) : (natsD ns)[i]? = (ns[i]?).map natD := List.getElem?_map ..
theorem rangeD_nat (n : Nat) : rangeD 0 n 1 = natsD (List.range n) := by
  unfold rangeD natsD natD
  refine List.map_congr_left fun i _ => ?_
  simp
theorem eqv_natsD : ∀ ns ms : List Nat, PyData.eqvAll (natsD ns) (natsD ms) = decide (ns = ms)
  | [], [] => rfl
  | [], _ :: _ => rfl
  | _ :: _, [] => rfl
  | x :: xs, y :: ys => by
    have ih := eqv_natsD xs ys
    show (PyData.eqv (natD x) (natD y) && PyData.eqvAll (natsD xs) (natsD ys)) = _
    rw [ih]
    have e : PyData.eqv (natD x) (natD y) = decide (x = y) := by
      show ((x : Int) == (y : Int)) = decide (x = y)
      by_cases h : x = y
      · subst h; simp
      · have : ¬ (x : Int) = (y : Int) := by omega
        simp [h, this]
    rw [e, ← Bool.decide_and]
    congr 1
    simp
theorem canLay_natsD : ∀ ns : List Nat, PyData.canLayAll0 (natsD ns) = true
  | [] => rfl
  | x :: r => by
    have := canLay_natsD r
    show (PyData.canLay0 (natD x) && PyData.canLayAll0 (natsD r)) = true
    rw [this]; rfl
theorem depth_natsD : ∀ ns : List Nat, PyData.depthAll (natsD ns) ≤ 1
  | [] => by simp [natsD, PyData.depthAll]
  | x :: r => by
    have := depth_natsD r
    show PyData.depthAll (natD x :: natsD r) ≤ 1
    simp only [PyData.depthAll, natD, PyData.depth]
    omega
theorem shaped_tupN (ns : List Nat) : shapedB (tupN ns) = true := by
  have h1 := canLay_natsD ns
  have h2 := depth_natsD ns
  unfold shapedB tupN
  simp only [PyData.canLay0, PyData.depth, h1, Bool.true_and]
  exact decide_eq_true (by omega)
@[simp] theorem eqD_tupN (ns ms : List Nat) : eqD (tupN ns) (tupN ms) = some (decide (ns = ms)) := by
  show (if shapedB (tupN ns) && shapedB (tupN ms) then some ((tupN ns).eqv (tupN ms)) else none) = _
  rw [shaped_tupN, shaped_tupN]
  show some (PyData.eqvAll (natsD ns) (natsD ms)) = _
  rw [eqv_natsD]
end Sw
end T_SwU
section T_SwV
set_option autoImplicit false
set_option linter.all false
set_option maxRecDepth 100000
/-! SwV: the helpers that many laws share. -/
namespace Sw
open PySem
def b_law_cell_at : FDef := ⟨2, 2, [], (.of [
  .iff (.e (.o2 .lt (.var 1) (.o1 .len (.var 0)))) (.of [
    .ret (.o2 .idx (.var 0) (.var 1))]) (.of []),
  .ret (.int 0)])⟩
def b_law_begin : FDef := ⟨1, 2, [], (.of [
  .asg 1 (.o2 .add (.o2 .add (.o2 .mod (.var 0) (.int 2147483647)) (.o2 .mod (.o2 .fdiv (.var 0) (.int 2147483647)) (.int 1000003))) (.int 3)),
  .iff (.e (.o2 .lt (.var 0) (.o2 .pow (.int 10) (.int 18)))) (.of [
    .ret (.lst (.of [(.int 0), (.var 1)]))]) (.of []),
  .ret (.lst (.of [(.var 0), (.var 1)]))])⟩
def b_law_draw : FDef := ⟨2, 4, [], (.of [
  .iff (.e (.o2 .gt (.o2 .idx (.var 0) (.int 0)) (.int 0))) (.of [
    .asg 2 (.o2 .mod (.o2 .idx (.var 0) (.int 0)) (.var 1)),
    .st 0 (.int 0) (.o2 .fdiv (.o2 .idx (.var 0) (.int 0)) (.var 1)),
    .ret (.mv 2)]) (.of []),
  .asg 3 (.o2 .mod (.o2 .add (.o2 .mul (.o2 .idx (.var 0) (.int 1)) (.int 48271)) (.int 11)) (.int 2147483629)),
  .st 0 (.int 1) (.o2 .mod (.o2 .add (.o2 .mul (.var 3) (.int 69621)) (.int 7)) (.int 2147483587)),
  .ret (.o2 .mod (.o2 .fdiv (.o2 .mod (.o2 .add (.o2 .mul (.o2 .idx (.var 0) (.int 1)) (.int 16807)) (.int 3)) (.int 2147483579)) (.int 8)) (.var 1))])⟩
theorem draw_ok {T : Tab} (hT : T "_law_draw" = some b_law_draw) (n : Nat) (a b m : Int) (hm : 0 < m) (hl : m < 18446744073709551616) :
    ∃ r a' b', callF T (n + 1) "_law_draw" [.c [.int a, .int b], .d (.int m)] = .ok (.d (.int r), [.c [.int a', .int b'], .d (.int m)]) ∧ 0 ≤ r ∧ r < m := by
  have h1 : ∀ x : Int, 0 ≤ x % m := fun x => Int.emod_nonneg x (by omega)
  have h2 : ∀ x : Int, x % m < m := fun x => Int.emod_lt_of_pos x hm
  rw [call_eq hT rfl]
  by_cases ha : 0 < a
  · simp [Ss.of, Es.of, Sw.execs, Sw.exec, evalE, evalT, evalC, evalDs, evalOs, evalSrc, evalPart, opW, daW, Sw.get, Sw.view, viewV, Sw.settle, op1, op2, cmpD, Sw.truth, seqOf, atI, Sw.ixN, int2, ret1, isU, isC, isOwn, setC, endF, killAll, Sw.val, addD, mulD, intMul, eqD, callE, okL, okOuts, isG, apart, putBack, asgT, asgTs, b_law_draw, hm, hl, ha]
    exact ⟨h1 _, h2 _⟩
  · simp [Ss.of, Es.of, Sw.execs, Sw.exec, evalE, evalT, evalC, evalDs, evalOs, evalSrc, evalPart, opW, daW, Sw.get, Sw.view, viewV, Sw.settle, op1, op2, cmpD, Sw.truth, seqOf, atI, Sw.ixN, int2, ret1, isU, isC, isOwn, setC, endF, killAll, Sw.val, addD, mulD, intMul, eqD, callE, okL, okOuts, isG, apart, putBack, asgT, asgTs, b_law_draw, hm, hl, ha]
    exact ⟨h1 _, h2 _⟩
theorem cell_ok {T : Tab} (hT : T "_law_cell_at" = some b_law_cell_at) (n : Nat) (xs : List Int) (k : Int) (hk : 0 ≤ k) :
    ∃ z : Int, callF T (n + 1) "_law_cell_at" [.d (.list (xs.map .int)), .d (.int k)] = .ok (.d (.int z), [.d (.list (xs.map .int)), .d (.int k)]) := by
  rw [call_eq hT rfl]
  by_cases h : k < (xs.length : Int)
  · have hk2 : k.toNat < xs.length := by omega
    simp [Ss.of, Es.of, Sw.execs, Sw.exec, evalE, evalT, evalC, evalDs, evalOs, evalSrc, evalPart, opW, daW, Sw.get, Sw.view, viewV, Sw.settle, op1, op2, cmpD, Sw.truth, seqOf, atI, Sw.ixN, int2, ret1, isU, isC, isOwn, setC, endF, killAll, Sw.val, addD, mulD, intMul, eqD, callE, okL, okOuts, isG, apart, putBack, asgT, asgTs, b_law_cell_at, h, hk, hk2]
  · simp [Ss.of, Es.of, Sw.execs, Sw.exec, evalE, evalT, evalC, evalDs, evalOs, evalSrc, evalPart, opW, daW, Sw.get, Sw.view, viewV, Sw.settle, op1, op2, cmpD, Sw.truth, seqOf, atI, Sw.ixN, int2, ret1, isU, isC, isOwn, setC, endF, killAll, Sw.val, addD, mulD, intMul, eqD, callE, okL, okOuts, isG, apart, putBack, asgT, asgTs, b_law_cell_at, h, hk]
theorem begin_ok {T : Tab} (hT : T "_law_begin" = some b_law_begin) (n : Nat) (z : Int) :
    ∃ a b : Int, callF T (n + 1) "_law_begin" [.d (.int z)] = .ok (.c [.int a, .int b], [.d (.int z)]) := by
  rw [call_eq hT rfl]
  by_cases h : z < 1000000000000000000
  · simp [Ss.of, Es.of, Sw.execs, Sw.exec, evalE, evalT, evalC, evalDs, evalOs, evalSrc, evalPart, opW, daW, Sw.get, Sw.view, viewV, Sw.settle, op1, op2, cmpD, Sw.truth, seqOf, atI, Sw.ixN, int2, ret1, isU, isC, isOwn, setC, endF, killAll, Sw.val, addD, mulD, intMul, eqD, callE, okL, okOuts, isG, apart, putBack, asgT, asgTs, b_law_begin, h, lim]
  · simp [Ss.of, Es.of, Sw.execs, Sw.exec, evalE, evalT, evalC, evalDs, evalOs, evalSrc, evalPart, opW, daW, Sw.get, Sw.view, viewV, Sw.settle, op1, op2, cmpD, Sw.truth, seqOf, atI, Sw.ixN, int2, ret1, isU, isC, isOwn, setC, endF, killAll, Sw.val, addD, mulD, intMul, eqD, callE, okL, okOuts, isG, apart, putBack, asgT, asgTs, b_law_begin, h, lim]
/-! ### a drawn order -/
def IsP (m : Nat) (p : List Nat) : Prop := p.Perm (List.range m)
theorem natsD_erase : ∀ (l : List Nat) (i : Nat), (natsD l).eraseIdx i = natsD (l.eraseIdx i)
  | [], _ => rfl
  | _ :: _, 0 => rfl
  | x :: r, i + 1 => by
    have := natsD_erase r i
    show natD x :: (natsD r).eraseIdx i = natD x :: natsD (r.eraseIdx i)
    rw [this]
theorem popAt_nats {l : List Nat} {r : Int} (h0 : 0 ≤ r) (h1 : r < (l.length : Int)) (hl : l.length ≤ 100000) : ∃ x, l[r.toNat]? = some x ∧ popAt (natsD l) r = some (natD x, natsD (l.eraseIdx r.toNat)) := by
  have hk : r.toNat < l.length := by omega
  refine ⟨l[r.toNat], List.getElem?_eq_getElem hk, ?_⟩
  unfold popAt Sw.ixN
  rw [if_pos (by omega), if_pos h0, natsD_len, if_pos h1]
  simp only [Option.bind_some, natsD_get, List.getElem?_eq_getElem hk, Option.map_some, natsD_erase]
theorem erase_perm {l : List Nat} {i : Nat} {x : Nat} (h : l[i]? = some x) : (x :: l.eraseIdx i).Perm l := by
  induction l generalizing i with
  | nil => simp at h
  | cons y r ih =>
    cases i with
    | zero => simp at h; subst h; exact .refl _
    | succ i =>
      have h' : r[i]? = some x := by simpa using h
      exact (List.Perm.swap ..).trans ((ih h').cons y)
theorem range2_nat {m : Nat} (hm : m ≤ 100000) : range2 (.int 0) (.int m) = some (rangeD 0 m 1) := by
  have c : rgOk 0 m = true := by unfold rgOk; exact decide_eq_true (by omega)
  have l : ((m : Int) - 0).toNat = m := by omega
  show (if rgOk 0 m && decide (((m : Int) - 0).toNat ≤ lim) then some (rangeD 0 ((m : Int) - 0).toNat 1) else none) = _
  rw [c, l, Bool.true_and, if_pos (decide_eq_true (by unfold lim; omega))]
theorem comp_eval {φ : Orc} {own : List Nat} {t : T} {s : Src} {cond : Co} {a : E} {e e0 e1 e2 e3 : Env} {xs ys : List D} (hs : evalSrc φ s e = .ok (xs, e1)) (hl : xs.length ≤ lim) (hk : killAll own e1 = e0) (hc : compL (stepC φ t cond a) own xs e0 = .ok (ys, e2)) (hr : restore e1 own e2 = e3) :
    evalE φ (.comp own t s cond a) e = .ok (.c ys, e3) := by
  rw [evalE_comp, hs]
  simp only [R.bind_ok]
  rw [if_neg (by omega), hk, hc]
  simp only [R.bind_ok]
  rw [hr]
theorem ex_asg {φ : Orc} {i : Nat} {a : E} {r : Ss} {e e1 e2 : Env} {w : V} (h : evalE φ a e = .ok (w, e1)) (he : e1.set i w = e2) : Sw.execs φ (.cons (.asg i a) r) e = Sw.execs φ r e2 := by subst he; simp only [Sw.execs, Sw.exec, h, SR.ofR_ok, SR.seq_nx]
theorem ex_ret {φ : Orc} {a : E} {r : Ss} {e e1 : Env} {w : V} (h : evalE φ a e = .ok (w, e1)) : Sw.execs φ (.cons (.ret a) r) e = .rt w e1 := by simp only [Sw.execs, Sw.exec, h, SR.ofR_ok, SR.seq_rt]
theorem ex_iff {φ : Orc} {t : Te} {p q r : Ss} {e e1 : Env} {b : Bool} (h : evalT φ t e = .ok (b, e1)) : Sw.execs φ (.cons (.iff t p q) r) e = (if b then Sw.execs φ p e1 else Sw.execs φ q e1).seq (Sw.execs φ r) := by simp only [Sw.execs, Sw.exec, h, SR.ofR_ok]
theorem ex_ex {φ : Orc} {a : E} {r : Ss} {e e1 : Env} {w : V} (h : evalE φ a e = .ok (w, e1)) : Sw.execs φ (.cons (.ex a) r) e = Sw.execs φ r e1 := by simp only [Sw.execs, Sw.exec, h, SR.ofR_ok, SR.seq_nx]
def forF (φ : Orc) (t : T) (b : Ss) : D → Env → SR := fun x e2 => match asgT t x e2 with | some e3 => Sw.execs φ b e3 | none => .bad
theorem ex_for {φ : Orc} {t : T} {s : Src} {b r : Ss} {kill : List Nat} {e e1 : Env} {xs : List D} (h : evalSrc φ s e = .ok (xs, e1)) : Sw.execs φ (.cons (.forr t s b kill) r) e = (forL (forF φ t b) kill xs e1).seq (Sw.execs φ r) := by simp only [Sw.execs, Sw.exec, h, SR.ofR_ok]; rfl
def notVar : E → Bool | .var _ => false | _ => true
theorem opW_v {a : E} {e : Env} {r : Env → R (V × Env)} (h : notVar a = true) : opW r a e = (r e).bind fun p => .ok (.v p.1, p.2) := by cases a <;> first | rfl | cases h
theorem tuple_c {φ : Orc} {a : E} {e e1 : Env} {ys : List D} (h : evalE φ a e = .ok (.c ys, e1)) (ha : notVar a = true) : evalE φ (.o1 .tupleOf a) e = .ok (.d (.tuple ys), e1) := by
  simp only [evalE, opW_v ha, h, R.bind_ok]
  rfl
theorem src_r1 {φ : Orc} {a : E} {e e1 : Env} {d : D} {xs : List D} (h : daW (evalE φ a) e = .ok (d, e1)) (hr : range2 (.int 0) d = some xs) : evalSrc φ (.rng1 a) e = .ok (xs, e1) := by
  simp only [evalSrc, h, R.bind_ok, hr, R.ofO_some]
theorem da_var {φ : Orc} {i : Nat} {e : Env} {d : D} (h : Sw.get e i = .d d) : daW (evalE φ (.var i)) e = .ok (d, e) := by
  simp only [daW, evalE, h, R.bind_ok, Sw.settle, R.ofO_some]
theorem da_of {φ : Orc} {a : E} {e e1 : Env} {w : V} {d : D} (h : evalE φ a e = .ok (w, e1)) (hs : Sw.settle w = some d) : daW (evalE φ a) e = .ok (d, e1) := by
  simp only [daW, h, R.bind_ok, hs, R.ofO_some]
theorem ofL_eval {φ : Orc} {s : Src} {e e1 : Env} {xs : List D} (h : evalSrc φ s e = .ok (xs, e1)) : evalE φ (.ofSrc false s) e = .ok (.c xs, e1) := by
  simp only [evalE, h, R.bind_ok]; rfl
theorem ofT_eval {φ : Orc} {s : Src} {e e1 : Env} {xs : List D} (h : evalSrc φ s e = .ok (xs, e1)) : evalE φ (.ofSrc true s) e = .ok (.d (.tuple xs), e1) := by
  simp only [evalE, h, R.bind_ok]; rfl
end Sw
end T_SwV
section T_SwW
set_option autoImplicit false
set_option linter.all false
set_option maxRecDepth 100000
/-! SwW: orders (lists of all the numbers below m), the way back, one after another. -/
namespace Sw
open PySem
theorem IsP.len {m : Nat} {p : List Nat} (h : IsP m p) : p.length = m := by have := h.length_eq; simpa using this
theorem IsP.lt {m : Nat} {p : List Nat} (h : IsP m p) {x : Nat} (hx : x ∈ p) : x < m := by simpa using h.mem_iff.mp hx
theorem IsP.mem {m : Nat} {p : List Nat} (h : IsP m p) {x : Nat} (hx : x < m) : x ∈ p := h.mem_iff.mpr (by simpa using hx)
theorem IsP.nd {m : Nat} {p : List Nat} (h : IsP m p) : p.Nodup := h.symm.nodup List.nodup_range
theorem ixN_nat {n q : Nat} (h : q < n) : Sw.ixN n (q : Int) = some q := by
  unfold Sw.ixN
  rw [if_pos (by omega), if_pos (by omega)]; simp
theorem bind2 {α β : Type} {r : R α} {a : α} {f : α → R β} (h : r = .ok a) : r.bind f = f a := by rw [h]; rfl
theorem op_var {r : Env → R (V × Env)} {i : Nat} {e : Env} (h : isU (Sw.get e i) = false) : opW r (.var i) e = .ok (.x i, e) := by
  show (if isU (Sw.get e i) then R.bad else R.ok (Opd.x i, e)) = _
  rw [h]; rfl
theorem op_v {a : E} {φ : Orc} {e e1 : Env} {w : V} (ha : notVar a = true) (h : evalE φ a e = .ok (w, e1)) : opW (evalE φ a) a e = .ok (.v w, e1) := by rw [opW_v ha, h]; rfl
theorem o1_eval {φ : Orc} {o : O1} {a : E} {e e1 : Env} {p : Opd} {x : D} {w : V} (h : opW (evalE φ a) a e = .ok (p, e1)) (hv : Sw.view p e1 = some x) (ho : op1 o x = some w) : evalE φ (.o1 o a) e = .ok (w, e1) := by
  simp only [evalE, h, R.bind_ok, hv, R.ofO_some, ho, ret1]
theorem o2_eval {φ : Orc} {o : O2} {a b : E} {e e1 e2 : Env} {p q : Opd} {x y : D} {w : V} (h : opW (evalE φ a) a e = .ok (p, e1)) (h2 : opW (evalE φ b) b e1 = .ok (q, e2)) (hv : Sw.view p e2 = some x) (hv2 : Sw.view q e2 = some y) (ho : op2 o x y = some w) : evalE φ (.o2 o a b) e = .ok (w, e2) := by
  simp only [evalE, h, h2, R.bind_ok, hv, hv2, R.ofO_some, ho, ret1]
theorem src_en {φ : Orc} {a : E} {e e1 : Env} {xs : List D} {d : D} (h : daW (evalE φ a) e = .ok (d, e1)) (hs : seqOf d = some xs) : evalSrc φ (.enum a) e = .ok (enumFrom 0 xs, e1) := by
  simp only [evalSrc, h, R.bind_ok, enumD, hs, Option.map_some, R.ofO_some]
theorem src_sq {φ : Orc} {a : E} {e e1 : Env} {xs : List D} {d : D} (h : daW (evalE φ a) e = .ok (d, e1)) (hs : seqOf d = some xs) : evalSrc φ (.seq a) e = .ok (xs, e1) := by
  simp only [evalSrc, h, R.bind_ok, hs, R.ofO_some]
end Sw
end T_SwW
section T_SwX
set_option autoImplicit false
set_option linter.all false
set_option maxRecDepth 100000
/-! SwX: more steps of the core. -/
namespace Sw
open PySem
theorem int_eval {φ : Orc} {i : Int} {e : Env} : evalE φ (.int i) e = .ok (.d (.int i), e) := by rw [evalE]
theorem os_nil {φ : Orc} {e : Env} : evalOs φ .nil e = .ok ([], e) := by rw [evalOs]
theorem os_cons {φ : Orc} {a : E} {r : Es} {e e1 e2 : Env} {o : Opd} {os : List Opd} (h : opW (evalE φ a) a e = .ok (o, e1)) (h2 : evalOs φ r e1 = .ok (os, e2)) : evalOs φ (.cons a r) e = .ok (o :: os, e2) := by
  rw [evalOs]
  exact (bind2 h).trans (bind2 h2)
theorem okL_of {e : Env} {os : List Opd} {outs : List V} (hl : outs.length = os.length) (h : okOuts e os outs = true) : okL e os outs = true := by
  unfold okL
  rw [h, hl]
  simp
theorem okO_d {e : Env} {q : Opd} {d : D} {v : V} {r : List Opd} {s : List V} (hq : Sw.val q e = .d d) : okOuts e (q :: r) (v :: s) = okOuts e r s := by
  cases q with
  | x i =>
    have : Sw.get e i = .d d := hq
    show ((!isOwn (Sw.get e i) || !isG v) && okOuts e r s) = _
    rw [this]; rfl
  | v w => rfl
theorem okO_g {e : Env} {q : Opd} {v : V} {r : List Opd} {s : List V} (hv : isG v = false) : okOuts e (q :: r) (v :: s) = okOuts e r s := by
  cases q with
  | x i =>
    show ((!isOwn (Sw.get e i) || !isG v) && okOuts e r s) = _
    rw [hv]; simp
  | v w => rfl
theorem call_ev {φ : Orc} {f : String} {as : Es} {e e1 e2 : Env} {os : List Opd} {args outs : List V} {w : V} (h : evalOs φ as e = .ok (os, e1)) (hok : (apart e1 os && !(os.any fun o => isU (Sw.val o e1))) = true) (hm : os.map (Sw.val · e1) = args) (hc : φ f args = .ok (w, outs))
    (hl : okL e1 os outs = true) (hp : putBack e1 os outs e1 = e2) : evalE φ (.call f as) e = .ok (w, e2) := by
  rw [evalE]
  refine (bind2 h).trans ?_
  show callE φ f os e1 = _
  unfold callE
  rw [if_pos hok, hm]
  refine (bind2 hc).trans ?_
  rw [if_pos hl, hp]
end Sw
end T_SwX
section T_SwY
set_option autoImplicit false
set_option linter.all false
set_option maxRecDepth 100000
/-! SwY: orders: rotations, swaps. -/
namespace Sw
open PySem
theorem nodup_le : ∀ {l r : List Nat}, l.Nodup → (∀ x ∈ l, x ∈ r) → l.length ≤ r.length
  | [], r, _, _ => Nat.zero_le _
  | x :: l, r, nd, h => by
    obtain ⟨n1, n2⟩ := List.nodup_cons.mp nd
    have hx := h x List.mem_cons_self
    have ih := nodup_le (r := r.erase x) n2 fun y hy => (List.mem_erase_of_ne (fun z => n1 (by subst z; exact hy))).mpr (h y (List.mem_cons_of_mem _ hy))
    rw [List.length_erase_of_mem hx] at ih
    have : 0 < r.length := List.length_pos_of_mem hx
    simp only [List.length_cons]
    omega
theorem nodup_map {l : List Nat} {f : Nat → Nat} (nd : l.Nodup) (inj : ∀ x ∈ l, ∀ y ∈ l, f x = f y → x = y) : (l.map f).Nodup := by
  induction l with
  | nil => exact List.nodup_nil
  | cons x r ih =>
    obtain ⟨n1, n2⟩ := List.nodup_cons.mp nd
    refine List.nodup_cons.mpr ⟨fun h => ?_, ih n2 fun a ha b hb => inj a (List.mem_cons_of_mem _ ha) b (List.mem_cons_of_mem _ hb)⟩
    obtain ⟨y, hy, e⟩ := List.mem_map.mp h
    have := inj y (List.mem_cons_of_mem _ hy) x List.mem_cons_self e
    subst this
    exact n1 hy
end Sw
end T_SwY
section T_SwZ
set_option autoImplicit false
set_option linter.all false
set_option maxRecDepth 100000
/-! SwZ: an order that is drawn in one of four ways. -/
namespace Sw
open PySem
end Sw
end T_SwZ
section T_SxA
set_option autoImplicit false
set_option linter.all false
set_option maxRecDepth 100000
/-! SxA: what holds behind statements; an order that is drawn in one of four ways. -/
namespace Sw
open PySem
/-- what holds behind a piece of code: N falling through, B at a break, C at a continue, Q at a return -/
structure Po where
  N : Env → Prop
  B : Env → Prop
  C : Env → Prop
  Q : V → Env → Prop
def Wp0 (P : Po) : SR → Prop
  | .nx e => P.N e
  | .bk e => P.B e
  | .ct e => P.C e
  | .rt v e => P.Q v e
  | _ => False
/-- (a structure, so that nothing runs the code while a term is read) -/
structure Wp (P : Po) (r : SR) : Prop where
  h : Wp0 P r
def Po.nx (P : Po) (N : Env → Prop) : Po := { P with N := N }
theorem wp_seq {P : Po} {f : Env → SR} : ∀ {r : SR}, Wp (P.nx fun e => Wp P (f e)) r → Wp P (r.seq f)
  | .nx e, h => h.h
  | .bk e, h => ⟨h.h⟩
  | .ct e, h => ⟨h.h⟩
  | .rt v e, h => ⟨h.h⟩
  | .exc c, h => h.h.elim
  | .bad, h => h.h.elim
theorem wp_nil {P : Po} {φ : Orc} {e : Env} (h : P.N e) : Wp P (Sw.execs φ .nil e) := by simp only [Sw.execs]; exact ⟨h⟩
theorem wp_asg {P : Po} {φ : Orc} {i : Nat} {a : E} {r : Ss} {e e1 : Env} {w : V} (h : evalE φ a e = .ok (w, e1)) (k : Wp P (Sw.execs φ r (e1.set i w))) : Wp P (Sw.execs φ (.cons (.asg i a) r) e) := by rw [ex_asg h rfl]; exact k
theorem wp_ret {P : Po} {φ : Orc} {a : E} {r : Ss} {e e1 : Env} {w : V} (h : evalE φ a e = .ok (w, e1)) (k : P.Q w e1) : Wp P (Sw.execs φ (.cons (.ret a) r) e) := by rw [ex_ret h]; exact ⟨k⟩
theorem wp_iff {P : Po} {φ : Orc} {t : Te} {p q r : Ss} {e e1 : Env} {b : Bool} (h : evalT φ t e = .ok (b, e1)) (h1 : b = true → Wp (P.nx fun e => Wp P (Sw.execs φ r e)) (Sw.execs φ p e1)) (h2 : b = false → Wp (P.nx fun e => Wp P (Sw.execs φ r e)) (Sw.execs φ q e1)) : Wp P (Sw.execs φ (.cons (.iff t p q) r) e) := by
  rw [ex_iff h]
  apply wp_seq
  cases b
  · exact h2 rfl
  · exact h1 rfl
theorem wp_if1 {P : Po} {φ : Orc} {t : Te} {p r : Ss} {e e1 : Env} {b : Bool} (h : evalT φ t e = .ok (b, e1)) (h1 : b = true → Wp (P.nx fun e => Wp P (Sw.execs φ r e)) (Sw.execs φ p e1)) (h2 : b = false → Wp P (Sw.execs φ r e1)) : Wp P (Sw.execs φ (.cons (.iff t p .nil) r) e) :=
  wp_iff h h1 fun z => wp_nil (h2 z)
theorem wp_ex {P : Po} {φ : Orc} {a : E} {r : Ss} {e e1 : Env} {w : V} (h : evalE φ a e = .ok (w, e1)) (k : Wp P (Sw.execs φ r e1)) : Wp P (Sw.execs φ (.cons (.ex a) r) e) := by rw [ex_ex h]; exact k
theorem wp_asgT {P : Po} {φ : Orc} {t : T} {a : E} {r : Ss} {e e1 e2 : Env} {x : D} (h : daW (evalE φ a) e = .ok (x, e1)) (ht : asgT t x e1 = some e2) (k : Wp P (Sw.execs φ r e2)) : Wp P (Sw.execs φ (.cons (.asgT t a) r) e) := by
  simpa only [Sw.execs, Sw.exec, h, ht, SR.ofR_ok, SR.seq_nx] using k
/-- a loop by what stays true: J before each turn, of what is still to come -/
theorem wp_loop {P : Po} {f : D → Env → SR} {kill : List Nat} (J : List D → Env → Prop) (hn : ∀ e, J [] e → P.N e) (step : ∀ x r e, J (x :: r) e → Wp ⟨fun e1 => J r (killAll kill e1), fun e1 => P.N (killAll kill e1), fun e1 => J r (killAll kill e1), P.Q⟩ (f x e)) :
    ∀ (xs : List D) (e : Env), J xs e → Wp P (forL f kill xs e)
  | [], e, h => ⟨hn e h⟩
  | x :: r, e, h => by
    have s := step x r e h
    simp only [forL]
    cases g : f x e with
    | nx e1 => rw [g] at s; exact wp_loop J hn step r _ s.h
    | ct e1 => rw [g] at s; exact wp_loop J hn step r _ s.h
    | bk e1 => rw [g] at s; exact ⟨s.h⟩
    | rt v e1 => rw [g] at s; exact ⟨s.h⟩
    | exc c => rw [g] at s; exact s.h.elim
    | bad => rw [g] at s; exact s.h.elim
theorem wp_for {P : Po} {φ : Orc} {t : T} {s : Src} {b r : Ss} {kill : List Nat} {e e1 : Env} {xs : List D} (h : evalSrc φ s e = .ok (xs, e1)) (J : List D → Env → Prop) (h0 : J xs e1) (hn : ∀ e, J [] e → Wp P (Sw.execs φ r e))
    (step : ∀ x q e, J (x :: q) e → ∃ e2, asgT t x e = some e2 ∧ Wp ⟨fun e1 => J q (killAll kill e1), fun e1 => Wp P (Sw.execs φ r (killAll kill e1)), fun e1 => J q (killAll kill e1), P.Q⟩ (Sw.execs φ b e2)) :
    Wp P (Sw.execs φ (.cons (.forr t s b kill) r) e) := by
  rw [ex_for h]
  apply wp_seq
  refine wp_loop J hn (fun x q e hj => ?_) xs e1 h0
  obtain ⟨e2, h1, h2⟩ := step x q e hj
  simp only [forF, h1]
  exact h2
/-- a call by what holds behind its body -/
theorem call_wp {T : Tab} {n : Nat} {f : String} {fd : FDef} {as : List V} (Q : V → List V → Prop) (h : T f = some fd) (hl : as.length = fd.np) (k : Wp ⟨fun e => Q (.d .none) (killAll fd.wp (e.take fd.np)), fun _ => False, fun _ => False, fun v e => Q v (killAll fd.wp (e.take fd.np))⟩ (Sw.execs (callF T n) fd.body (as ++ List.replicate (fd.nv - fd.np) .u))) :
    ∃ v outs, callF T (n + 1) f as = .ok (v, outs) ∧ Q v outs := by
  rw [call_eq h hl]
  cases g : Sw.execs (callF T n) fd.body (as ++ List.replicate (fd.nv - fd.np) .u) with
  | nx e1 => rw [g] at k; exact ⟨_, _, rfl, k.h⟩
  | rt v e1 => rw [g] at k; exact ⟨_, _, rfl, k.h⟩
  | bk e1 => rw [g] at k; exact k.h.elim
  | ct e1 => rw [g] at k; exact k.h.elim
  | exc c => rw [g] at k; exact k.h.elim
  | bad => rw [g] at k; exact k.h.elim
end Sw
end T_SxA
section T_SxB
set_option autoImplicit false
set_option linter.all false
set_option maxRecDepth 100000
/-! SxB: orders as functions: the way back and one after another. -/
namespace Sw
open PySem
/-! ### tests, calls -/
/-- a test that is false, and leaves the frame -/
theorem wp_no {P : Po} {φ : Orc} {t : Te} {p r : Ss} {e : Env} (h : evalT φ t e = .ok (false, e)) (k : Wp P (Sw.execs φ r e)) : Wp P (Sw.execs φ (.cons (.iff t p .nil) r) e) := wp_if1 h (fun z => by cases z) fun _ => k
theorem t_e {φ : Orc} {a : E} {e e1 : Env} {b : Bool} (h : evalE φ a e = .ok (.d (.bool b), e1)) (ha : notVar a = true) : evalT φ (.e a) e = .ok (b, e1) := by
  rw [evalT]
  refine (bind2 (op_v ha h)).trans ?_
  rfl
theorem t_or {φ : Orc} {a b : Te} {e e1 e2 : Env} {x y : Bool} (h : evalT φ a e = .ok (x, e1)) (h2 : x = false → evalT φ b e1 = .ok (y, e2)) (he : x = true → e1 = e2) : evalT φ (.or a b) e = .ok (x || y, e2) := by
  rw [evalT]
  refine (bind2 h).trans ?_
  cases x
  · exact h2 rfl
  · rw [he rfl]; rfl
theorem t_and {φ : Orc} {a b : Te} {e e1 e2 : Env} {x y : Bool} (h : evalT φ a e = .ok (x, e1)) (h2 : x = true → evalT φ b e1 = .ok (y, e2)) (he : x = false → e1 = e2) : evalT φ (.and a b) e = .ok (x && y, e2) := by
  rw [evalT]
  refine (bind2 h).trans ?_
  cases x
  · rw [he rfl]; rfl
  · exact h2 rfl
theorem t_not {φ : Orc} {a : Te} {e e1 : Env} {x : Bool} (h : evalT φ a e = .ok (x, e1)) : evalT φ (.not a) e = .ok (!x, e1) := by
  rw [evalT]
  exact bind2 h
theorem idx_nat {q : List Nat} {i : Nat} (hq : i < q.length) : op2 .idx (tupN q) (natD i) = some (.d (natD (q.getD i 0))) := by
  show ((some (natsD q)).bind fun xs => (atI xs (i : Int)).map V.d) = _
  simp only [Option.bind_some, atI, natsD_len, ixN_nat hq, natsD_get, List.getElem?_eq_getElem hq, Option.map_some]
  rw [List.getD_eq_getElem?_getD, List.getElem?_eq_getElem hq]; rfl
theorem shaped_nat (q : Nat) : shapedB (natD q) = true := by rfl
/-- a call with a list of one's own in slot i and a datum -/
theorem s1_ev {φ : Orc} {f : String} {i : Nat} {b : E} {e : Env} {o : Opd} {xs xs2 : List D} {y : D} {z w : V} (h : Sw.get e i = .c xs) (hb : opW (evalE φ b) b e = .ok (o, e)) (ho : Sw.val o e = .d y) (hc : φ f [.c xs, .d y] = .ok (w, [.c xs2, z])) : evalE φ (.call f (.of [.var i, b])) e = .ok (w, e.set i (.c xs2)) := by
  have h1 : evalOs φ (.of [.var i, b]) e = .ok ([.x i, o], e) := os_cons (op_var (by rw [h]; rfl)) (os_cons hb os_nil)
  refine call_ev (args := [.c xs, .d y]) h1 ?_ (by simp [Sw.val, h, ho] <;> exact ho) hc (okL_of rfl (by rw [okO_g rfl, okO_d ho]; rfl)) ?_
  · cases o with
    | x j =>
      have hj : Sw.get e j = .d y := ho
      have : i ≠ j := fun z => by subst z; rw [h] at hj; cases hj
      simp [apart, h, hj, isOwn, isU, Sw.val, this]
    | v q =>
      have hq : q = .d y := ho
      simp [apart, h, hq, isOwn, isU, Sw.val]
  · cases o with
    | x j =>
      have hj : Sw.get e j = .d y := ho
      simp [putBack, h, hj, isOwn]
    | v q => simp [putBack, h, isOwn]
theorem draw_int {T : Tab} (hD : T "_law_draw" = some b_law_draw) (n : Nat) (a b : Int) (m : Nat) (h0 : 0 < m) (hm : m ≤ 1000000) :
    ∃ (k : Nat) (a' b' : Int), callF T (n + 1) "_law_draw" [.c [.int a, .int b], .d (natD m)] = .ok (.d (natD k), [.c [.int a', .int b'], .d (natD m)]) ∧ k < m := by
  obtain ⟨k, a', b', h, k0, k1⟩ := draw_ok hD n a b m (by omega) (by omega)
  refine ⟨k.toNat, a', b', ?_, by omega⟩
  rw [show natD k.toNat = .int k by show PyData.int ((k.toNat : Nat) : Int) = .int k; rw [Int.toNat_of_nonneg k0]]
  exact h
theorem idx_natL {q : List Nat} {i : Nat} (hq : i < q.length) : op2 .idx (.list (natsD q)) (natD i) = some (.d (natD (q.getD i 0))) := by
  show ((some (natsD q)).bind fun xs => (atI xs (i : Int)).map V.d) = _
  simp only [Option.bind_some, atI, natsD_len, ixN_nat hq, natsD_get, List.getElem?_eq_getElem hq, Option.map_some]
  rw [List.getD_eq_getElem?_getD, List.getElem?_eq_getElem hq]; rfl
end Sw
end T_SxB
section T_SxC
set_option autoImplicit false
set_option linter.all false
set_option maxRecDepth 100000
/-! SxC: numbers; literal lists; the deck of three numbers. -/
namespace Sw
open PySem
/-! ### operators on naturals -/
theorem o_mod {a b : Nat} (h : 0 < b) : op2 .mod (natD a) (natD b) = some (.d (natD (a % b))) := by
  show (if decide ((0 : Int) < (b : Int)) = true then some (V.d (.int ((a : Int) % (b : Int)))) else none) = _
  rw [if_pos (decide_eq_true (by omega))]; rfl
theorem o_div {a b : Nat} (h : 0 < b) (hb : b < 18446744073709551616) : op2 .fdiv (natD a) (natD b) = some (.d (natD (a / b))) := by
  show (if decide ((0 : Int) < (b : Int) ∧ ((b : Int) < 18446744073709551616 ∨ (b : Int).natAbs.log2 < 9000)) = true then some (V.d (.int ((a : Int) / (b : Int)))) else none) = _
  rw [if_pos (decide_eq_true ⟨by omega, .inl (by omega)⟩)]; rfl
theorem o_add {a b : Nat} : op2 .add (natD a) (natD b) = some (.d (natD (a + b))) := by
  show some (V.d (.int ((a : Int) + (b : Int)))) = _
  rw [← Int.natCast_add]; rfl
theorem o_mul {a b : Nat} (h : a < 18446744073709551616) : op2 .mul (natD a) (natD b) = some (.d (natD (a * b))) := by
  show (if (a : Int).natAbs < 2 ^ 64 ∨ (b : Int).natAbs < 2 ^ 64 ∨ _ then some (V.d (.int ((a : Int) * (b : Int)))) else none) = _
  rw [if_pos (.inl (by omega)), ← Int.natCast_mul]; rfl
theorem o_shr {a b : Nat} : op2 .shr (natD a) (natD b) = some (.d (natD (a / 2 ^ b))) := by
  show (if decide (0 ≤ (b : Int)) = true then some (V.d (.int ((a : Int) / 2 ^ (b : Int).toNat))) else none) = _
  rw [if_pos (decide_eq_true (by omega)), Int.toNat_natCast]
  have : (a : Int) / 2 ^ b = ((a / 2 ^ b : Nat) : Int) := by rw [Int.natCast_ediv, Int.natCast_pow]; rfl
  rw [this]; rfl
theorem o_sub {a b : Nat} (h : b ≤ a) : op2 .sub (natD a) (natD b) = some (.d (natD (a - b))) := by
  show some (V.d (.int ((a : Int) - (b : Int)))) = _
  have : (a : Int) - (b : Int) = ((a - b : Nat) : Int) := by omega
  rw [this]; rfl
theorem o_min {a b : Nat} : op2 .min2 (natD a) (natD b) = some (.d (natD (min a b))) := by
  show some (V.d (.int (if (b : Int) < (a : Int) then (b : Int) else (a : Int)))) = _
  have : (if (b : Int) < (a : Int) then (b : Int) else (a : Int)) = ((min a b : Nat) : Int) := by split <;> omega
  rw [this]; rfl
theorem o_max {a b : Nat} : op2 .max2 (natD a) (natD b) = some (.d (natD (max a b))) := by
  show some (V.d (.int (if (b : Int) > (a : Int) then (b : Int) else (a : Int)))) = _
  have : (if (b : Int) > (a : Int) then (b : Int) else (a : Int)) = ((max a b : Nat) : Int) := by split <;> omega
  rw [this]; rfl
theorem bq {a b : Nat} : ((a : Int) == (b : Int)) = decide (a = b) := by
  by_cases h : a = b
  · subst h; simp
  · rw [decide_eq_false h]; exact beq_eq_false_iff_ne.mpr (by omega)
theorem d_eq {a b : Nat} : eqD (natD a) (natD b) = some (decide (a = b)) := by
  show some ((a : Int) == (b : Int)) = _
  rw [bq]
theorem o_eq {a b : Nat} : op2 .eq (natD a) (natD b) = some (.d (.bool (decide (a = b)))) := by simp only [op2, d_eq, Option.map_some]
theorem o_ne {a b : Nat} : op2 .ne (natD a) (natD b) = some (.d (.bool (!decide (a = b)))) := by simp only [op2, d_eq, Option.map_some]
theorem o_lt {a b : Nat} : op2 .lt (natD a) (natD b) = some (.d (.bool (decide (a < b)))) := by
  show some (V.d (.bool (decide ((a : Int) < (b : Int))))) = _
  congr 3; exact decide_eq_decide.mpr (by omega)
theorem o_le {a b : Nat} : op2 .le (natD a) (natD b) = some (.d (.bool (decide (a ≤ b)))) := by
  show some (V.d (.bool (decide ((a : Int) ≤ (b : Int))))) = _
  congr 3; exact decide_eq_decide.mpr (by omega)
theorem o_gt {a b : Nat} : op2 .gt (natD a) (natD b) = some (.d (.bool (decide (b < a)))) := by
  show some (V.d (.bool (decide ((b : Int) < (a : Int))))) = _
  congr 3; exact decide_eq_decide.mpr (by omega)
theorem o_ge {a b : Nat} : op2 .ge (natD a) (natD b) = some (.d (.bool (decide (b ≤ a)))) := by
  show some (V.d (.bool (decide ((b : Int) ≤ (a : Int))))) = _
  congr 3; exact decide_eq_decide.mpr (by omega)
/-! ### literal lists and tuples, parts of a list -/
theorem ds_nil {φ : Orc} {e : Env} : evalDs φ .nil e = .ok ([], e) := by rw [evalDs]
theorem ds_cons {φ : Orc} {a : E} {r : Es} {e e1 e2 : Env} {d : D} {ds : List D} (h : daW (evalE φ a) e = .ok (d, e1)) (h2 : evalDs φ r e1 = .ok (ds, e2)) : evalDs φ (.cons a r) e = .ok (d :: ds, e2) := by
  rw [evalDs]
  exact (bind2 h).trans (bind2 h2)
theorem lst_ev {φ : Orc} {es : Es} {e e1 : Env} {ds : List D} (h : evalDs φ es e = .ok (ds, e1)) (hl : ds.length ≤ 1000) : evalE φ (.lst es) e = .ok (.c ds, e1) := by
  rw [evalE]
  refine (bind2 h).trans ?_
  rw [if_pos (show ds.length ≤ lim by unfold lim; omega)]
theorem tup_ev {φ : Orc} {es : Es} {e e1 : Env} {ds : List D} (h : evalDs φ es e = .ok (ds, e1)) (hl : ds.length ≤ 1000) : evalE φ (.tup es) e = .ok (.d (.tuple ds), e1) := by
  rw [evalE]
  refine (bind2 h).trans ?_
  rw [if_pos (show ds.length ≤ lim by unfold lim; omega)]
theorem da_int {φ : Orc} {i : Int} {e : Env} : daW (evalE φ (.int i)) e = .ok (.int i, e) := da_of int_eval rfl
theorem part_no {φ : Orc} {e : Env} : evalPart φ .no e = .ok (none, e) := by rw [evalPart]
theorem part_yes {φ : Orc} {a : E} {e e1 : Env} {i : Int} (h : daW (evalE φ a) e = .ok (.int i, e1)) : evalPart φ (.yes a) e = .ok (some i, e1) := by
  rw [evalPart]
  exact bind2 h
theorem slice_ev {φ : Orc} {a : E} {lo hi : Eo} {e e1 e2 e3 : Env} {o : Opd} {l h : Option Int} {x : D} {w : V} (ha : opW (evalE φ a) a e = .ok (o, e1)) (hl : evalPart φ lo e1 = .ok (l, e2)) (hh : evalPart φ hi e2 = .ok (h, e3)) (hv : Sw.view o e3 = some x) (hw : sliceD x l h = some w) : evalE φ (.slice a lo hi) e = .ok (w, e3) := by
  rw [evalE]
  refine (bind2 ha).trans ((bind2 hl).trans ((bind2 hh).trans ((bind2 (a := x) (by rw [hv]; rfl)).trans ?_)))
  show ret1 (sliceD x l h) e3 = _
  rw [hw]; rfl
/-! ### the deck of three numbers -/
end Sw
end T_SxC
section T_SxD
set_option autoImplicit false
set_option linter.all false
set_option maxRecDepth 100000
/-! SxD: loops over ranges and lists by what stays true; numbers by their bits. -/
namespace Sw
open PySem
theorem natsD_append (a b : List Nat) : natsD (a ++ b) = natsD a ++ natsD b := List.map_append ..
theorem wp_mono {P R : Po} {r : SR} (k : Wp P r) (h1 : ∀ e, P.N e → R.N e) (h2 : ∀ e, P.B e → R.B e) (h3 : ∀ e, P.C e → R.C e) (h4 : ∀ v e, P.Q v e → R.Q v e) : Wp R r := by
  cases r with
  | nx e => exact ⟨h1 e k.h⟩
  | bk e => exact ⟨h2 e k.h⟩
  | ct e => exact ⟨h3 e k.h⟩
  | rt v e => exact ⟨h4 v e k.h⟩
  | exc c => exact k.h.elim
  | bad => exact k.h.elim
theorem wp_forL {P : Po} {φ : Orc} {i : Nat} {s : Src} {b r : Ss} {kill : List Nat} {e e1 : Env} {α : Type} (g : α → D) {l : List α} (h : evalSrc φ s e = .ok (l.map g, e1)) (J : List α → Env → Prop) (h0 : J [] e1) (hn : ∀ e, J l e → Wp P (Sw.execs φ r e))
    (step : ∀ S x R e, l = S ++ x :: R → J S e → Wp ⟨fun e1 => J (S ++ [x]) (killAll kill e1), fun e1 => Wp P (Sw.execs φ r (killAll kill e1)), fun e1 => J (S ++ [x]) (killAll kill e1), P.Q⟩ (Sw.execs φ b (e.set i (.d (g x))))) : Wp P (Sw.execs φ (.cons (.forr (.n i) s b kill) r) e) := by
  refine wp_for h (fun rest e => ∃ S R, l = S ++ R ∧ rest = R.map g ∧ J S e) ⟨[], l, rfl, rfl, h0⟩ (fun e he => ?_) fun x q e he => ?_
  · obtain ⟨S, R, h1, h2, h3⟩ := he
    cases R with
    | nil => rw [List.append_nil] at h1; subst h1; exact hn e h3
    | cons x R => cases h2
  · obtain ⟨S, R, h1, h2, h3⟩ := he
    cases R with
    | nil => cases h2
    | cons y R =>
      injection h2 with h4 h5
      subst h4
      refine ⟨_, rfl, ?_⟩
      have k := step S y R e h1 h3
      refine wp_mono k ?_ ?_ ?_ ?_
      · exact fun e1 z => ⟨S ++ [y], R, by rw [h1]; simp, h5, z⟩
      · exact fun e1 z => z
      · exact fun e1 z => ⟨S ++ [y], R, by rw [h1]; simp, h5, z⟩
      · exact fun v e1 z => z
theorem wp_forN {P : Po} {φ : Orc} {i m : Nat} {s : Src} {b r : Ss} {kill : List Nat} {e e1 : Env} (h : evalSrc φ s e = .ok (natsD (List.range m), e1)) (J : Nat → Env → Prop) (h0 : J 0 e1) (hn : ∀ e, J m e → Wp P (Sw.execs φ r e))
    (step : ∀ j e, j < m → J j e → Wp ⟨fun e1 => J (j + 1) (killAll kill e1), fun e1 => Wp P (Sw.execs φ r (killAll kill e1)), fun e1 => J (j + 1) (killAll kill e1), P.Q⟩ (Sw.execs φ b (e.set i (.d (natD j))))) : Wp P (Sw.execs φ (.cons (.forr (.n i) s b kill) r) e) := by
  refine wp_forL natD h (fun S e => J S.length e) h0 (fun e he => hn e (by simpa using he)) fun S x R e hl hj => ?_
  have len : S.length + (R.length + 1) = m := by
    have := congrArg List.length hl
    simpa using this.symm
  have hx : x = S.length := by
    have : (List.range m)[S.length]? = some x := by rw [hl, List.getElem?_append_right (Nat.le_refl _), Nat.sub_self]; rfl
    rw [List.getElem?_range (by omega)] at this
    exact (Option.some.inj this).symm
  subst hx
  have k := step S.length e (by omega) hj
  rw [show (S ++ [S.length]).length = S.length + 1 by simp]
  exact k
/-- a comprehension over a list: J of the part done, its values, the frame -/
theorem comp_forL {φ : Orc} {own : List Nat} {i : Nat} {s : Src} {a : E} {e e1 : Env} {α : Type} (g : α → D) {l : List α} (hs : evalSrc φ s e = .ok (l.map g, e1)) (hl : l.length ≤ 1000000) (J : List α → List D → Env → Prop) (h0 : J [] [] (killAll own e1))
    (step : ∀ S x R ys e, l = S ++ x :: R → J S ys e → ∃ d e2, daW (evalE φ a) (e.set i (.d (g x))) = .ok (d, e2) ∧ J (S ++ [x]) (ys ++ [d]) (killAll own e2)) :
    ∃ ys e2, evalE φ (.comp own (.n i) s .no a) e = .ok (.c ys, restore e1 own e2) ∧ J l ys e2 := by
  obtain ⟨ys, e2, h1, S, R, h2, h3, h4⟩ := compL_inv (f := stepC φ (.n i) .no a) (own := own) (fun rest acc e => ∃ S R, l = S ++ R ∧ rest = R.map g ∧ J S acc e) (fun x r acc e he => by
    obtain ⟨S, R, h1, h2, h3⟩ := he
    cases R with
    | nil => cases h2
    | cons y R =>
      injection h2 with h4 h5
      subst h4
      obtain ⟨d, e2, k1, k2⟩ := step S y R acc e h1 h3
      refine ⟨some d, e2, ?_, S ++ [y], R, by rw [h1]; simp, h5, k2⟩
      show (Sw.R.ofO (some (e.set i (.d (g y))))).bind _ = _
      simp only [Sw.R.ofO_some, Sw.R.bind_ok, evalC, if_true, k1]) (l.map g) [] (killAll own e1) ⟨[], l, rfl, rfl, h0⟩
  have hR : R = [] := by
    cases R with
    | nil => rfl
    | cons x R => cases h3
  subst hR
  rw [List.append_nil] at h2
  subst h2
  exact ⟨ys, e2, comp_eval hs (by rw [List.length_map]; unfold lim; omega) rfl h1 rfl, h4⟩
theorem comp_forN {φ : Orc} {own : List Nat} {i m : Nat} {s : Src} {a : E} {e e1 : Env} (hs : evalSrc φ s e = .ok (natsD (List.range m), e1)) (hm : m ≤ 1000000) (J : Nat → List D → Env → Prop) (h0 : J 0 [] (killAll own e1))
    (step : ∀ j ys e, j < m → J j ys e → ∃ d e2, daW (evalE φ a) (e.set i (.d (natD j))) = .ok (d, e2) ∧ J (j + 1) (ys ++ [d]) (killAll own e2)) :
    ∃ ys e2, evalE φ (.comp own (.n i) s .no a) e = .ok (.c ys, restore e1 own e2) ∧ J m ys e2 := by
  obtain ⟨ys, e2, h1, h2⟩ := comp_forL natD hs (by simpa using hm) (fun S ys e => J S.length ys e) h0 fun S x R ys e hl hj => by
    have len : S.length + (R.length + 1) = m := by
      have := congrArg List.length hl
      simpa using this.symm
    have hx : x = S.length := by
      have : (List.range m)[S.length]? = some x := by rw [hl, List.getElem?_append_right (Nat.le_refl _), Nat.sub_self]; rfl
      rw [List.getElem?_range (by omega)] at this
      exact (Option.some.inj this).symm
    subst hx
    obtain ⟨d, e2, k1, k2⟩ := step S.length ys e (by omega) hj
    exact ⟨d, e2, k1, by simpa using k2⟩
  exact ⟨ys, e2, h1, by simpa using h2⟩
theorem src_n {φ : Orc} {a : E} {e e1 : Env} {m : Nat} (h : daW (evalE φ a) e = .ok (natD m, e1)) (hm : m ≤ 100000) : evalSrc φ (.rng1 a) e = .ok (natsD (List.range m), e1) := by
  rw [← rangeD_nat]
  exact src_r1 h (range2_nat hm)
theorem pop_ev {φ : Orc} {i : Nat} {a : E} {e e1 : Env} {o : Opd} {r : Int} {xs xs2 : List D} {x : D} (hc : isC (Sw.get e i) = true) (h : opW (evalE φ a) a e = .ok (o, e1)) (hv : Sw.view o e1 = some (.int r)) (hx : Sw.get e1 i = .c xs) (hp : popAt xs r = some (x, xs2)) : evalE φ (.pop i a) e = .ok (.d x, e1.set i (.c xs2)) := by
  rw [evalE, if_pos hc]
  refine (bind2 h).trans ((bind2 (a := PyData.int r) (by rw [hv]; rfl)).trans ?_)
  simp only [hx, hp]
theorem app_ev {φ : Orc} {i : Nat} {a : E} {e e1 : Env} {xs : List D} {x : D} (hc : isC (Sw.get e i) = true) (h : daW (evalE φ a) e = .ok (x, e1)) (hx : Sw.get e1 i = .c xs) (hl : xs.length < 1000000) : evalE φ (.app i a) e = .ok (.d .none, e1.set i (.c (xs ++ [x]))) := by
  rw [evalE, if_pos hc]
  refine (bind2 h).trans ?_
  simp only [hx]
  rw [if_pos (by unfold lim; omega)]
/-! ### a number by its bits -/
def bt (w b : Nat) : Nat := w / 2 ^ b % 2
def r1 (r : R (Sw.V × List Sw.V)) : Option D := match r with | .ok (.d a, [_]) => some a | _ => none
end Sw
end T_SxD
section T_SxE
set_option autoImplicit false
set_option linter.all false
set_option maxRecDepth 100000
/-! SxE: what a check of a run (by the kernel) says; while; comprehensions that keep nothing. -/
namespace Sw
open PySem
mutual
/-- the same datum -/
def same : D → D → Bool
  | .none, .none => true
  | .bool a, .bool b => a == b
  | .int a, .int b => decide (a = b)
  | .str a, .str b => decide (a = b)
  | .list a, .list b => sames a b
  | .tuple a, .tuple b => sames a b
  | _, _ => false
def sames : List D → List D → Bool
  | [], [] => true
  | x :: xs, y :: ys => same x y && sames xs ys
  | _, _ => false
end
theorem wp_nf {P : Po} {φ : Orc} {t : Te} {p r : Ss} {e e1 : Env} (h : evalT φ t e = .ok (false, e1)) (k : Wp P (Sw.execs φ r e1)) : Wp P (Sw.execs φ (.cons (.iff t p .nil) r) e) := wp_if1 h (fun z => by cases z) fun _ => k
end Sw
end T_SxE
section T_SxF
set_option autoImplicit false
set_option linter.all false
set_option maxRecDepth 100000
/-! SxF: small data (repr, equality); comprehensions that leave the frame; all. -/
namespace Sw
open PySem
/-- a datum of depth d and weight w at most, without dicts, that repr shows -/
structure Sm (d w : Nat) (x : D) : Prop where
  sh : x.showable = true
  dp : x.depth ≤ d
  cl : x.canLay0 = true
  wt : x.weight ≤ w
  is : x.intsShort 13 = true
  rf : x.eqv x = true
theorem Sm.mono {d w d' w' : Nat} {x : D} (h : Sm d w x) (hd : d ≤ d') (hw : w ≤ w') : Sm d' w' x := ⟨h.sh, Nat.le_trans h.dp hd, h.cl, Nat.le_trans h.wt hw, h.is, h.rf⟩
theorem sm_int {i : Int} (h : i.natAbs < 1000000) : Sm 1 20 (.int i) := by
  have l : i.natAbs ≠ 0 → i.natAbs.log2 < 20 := fun h0 => (Nat.log2_lt h0).mpr (by omega)
  refine ⟨?_, ?_, rfl, ?_, ?_, ?_⟩
  · show decide (i.natAbs.log2 < 1920) = true
    rw [decide_eq_true_eq]
    by_cases h0 : i.natAbs = 0
    · rw [h0]; decide
    · have := l h0; omega
  · simp [PyData.depth]
  · simp only [PyData.weight]
    split
    · omega
    · rename_i h0
      have := l (by simpa using h0)
      omega
  · show decide ((PyData.shown (.int i)).length ≤ 13) = true
    rw [decide_eq_true_eq]
    have := int_text_length_le10 (a := i) (k := 6) (by decide) (by omega)
    simp only [PyData.shown]
    rw [ofString_length]
    omega
  · show (i == i) = true
    simp
theorem sm_nat {n : Nat} (h : n < 1000000) : Sm 1 20 (natD n) := sm_int (by omega)
theorem sm_all {d w : Nat} : ∀ {xs : List D}, (∀ x ∈ xs, Sm d w x) → PyData.showableAll xs = true ∧ PyData.depthAll xs ≤ d ∧ PyData.canLayAll0 xs = true ∧ PyData.weightAll xs ≤ (w + 1) * xs.length ∧ PyData.intsShortAll 13 xs = true ∧ PyData.eqvAll xs xs = true
  | [], _ => ⟨rfl, by simp [PyData.depthAll], rfl, by simp [PyData.weightAll], rfl, rfl⟩
  | x :: r, h => by
    obtain ⟨h1, h2, h3, h4, h5, h6⟩ := sm_all (xs := r) fun y hy => h y (List.mem_cons_of_mem _ hy)
    have hx := h x List.mem_cons_self
    refine ⟨?_, ?_, ?_, ?_, ?_, ?_⟩
    · show (PyData.showable x && PyData.showableAll r) = true
      rw [hx.sh, h1]; rfl
    · have := hx.dp
      simp only [PyData.depthAll]; omega
    · show (PyData.canLay0 x && PyData.canLayAll0 r) = true
      rw [hx.cl, h3]; rfl
    · have := hx.wt
      simp only [PyData.weightAll, List.length_cons, Nat.mul_add, Nat.mul_one]; omega
    · show (PyData.intsShort 13 x && PyData.intsShortAll 13 r) = true
      rw [hx.is, h5]; rfl
    · show (PyData.eqv x x && PyData.eqvAll r r) = true
      rw [hx.rf, h6]; rfl
theorem sm_tup {d w : Nat} {xs : List D} (h : ∀ x ∈ xs, Sm d w x) : Sm (d + 1) ((w + 1) * xs.length) (.tuple xs) := by
  obtain ⟨h1, h2, h3, h4, h5, h6⟩ := sm_all h
  exact ⟨h1, by simp only [PyData.depth]; omega, h3, h4, h5, h6⟩
theorem Sm.repr {d w : Nat} {x : D} (h : Sm d w x) (hd : d ≤ 40) (hw : w ≤ 1048576) : okRepr x = true := by
  have := h.dp
  have := h.wt
  unfold okRepr
  rw [h.sh, h.cl, h.is]
  simp only [Bool.true_and, Bool.and_true, Bool.and_eq_true, Bool.or_eq_true]
  exact ⟨decide_eq_true (by omega), .inl (decide_eq_true (by omega))⟩
theorem Sm.shaped {d w : Nat} {x : D} (h : Sm d w x) (hd : d ≤ 64) : shapedB x = true := by
  have := h.dp
  unfold shapedB
  rw [h.cl, Bool.true_and]
  exact decide_eq_true (by omega)
theorem eqD_str (s : Str) : eqD (.str s) (.str s) = some true := by show some (_ == _) = _; simp
/-! ### comprehensions that leave the frame -/
/-- pairs of naturals -/
def pr (p : Nat × Nat) : D := .tuple [natD p.1, natD p.2]
theorem sm_pr {p : Nat × Nat} (h1 : p.1 < 1000000) (h2 : p.2 < 1000000) : Sm 2 42 (pr p) := by
  refine sm_tup (d := 1) (w := 20) (xs := [natD p.1, natD p.2]) fun x hx => ?_
  rcases List.mem_cons.mp hx with z | z
  · subst z; exact sm_nat h1
  · have := List.mem_singleton.mp z
    subst this; exact sm_nat h2
/-- a call with two data gives a datum -/
def r2 (r : R (V × List V)) : Option D := match r with | .ok (.d a, [_, _]) => some a | _ => none
end Sw
end T_SxF
section T_SxG
set_option autoImplicit false
set_option linter.all false
set_option maxRecDepth 100000
/-! SxG: what is a net; nets of plain bits. -/
namespace Sw
open PySem
theorem idx_tup {xs : List D} {i : Nat} {x : D} (h : xs[i]? = some x) : op2 .idx (.tuple xs) (.int (i : Int)) = some (.d x) := by
  have hi := (List.getElem?_eq_some_iff.mp h).1
  show ((some xs).bind fun xs => (atI xs (i : Int)).map V.d) = _
  simp only [Option.bind_some, atI, ixN_nat hi, h, Option.map_some]
end Sw
end T_SxG
section T_SxH
set_option autoImplicit false
set_option linter.all false
set_option maxRecDepth 100000
/-! SxH: sums; sorted pairs. -/
namespace Sw
open PySem
/-! ### sorted pairs of naturals -/
def ip (p : Nat × Nat) : Int × Int := ((p.1 : Int), (p.2 : Int))
def ltN (p q : Nat × Nat) : Bool := if p.1 = q.1 then decide (p.2 < q.2) else decide (p.1 < q.1)
theorem ltP_ip (p q : Nat × Nat) : ltP (ip p) (ip q) = ltN p q := by
  unfold ltP ltN ip
  simp only
  by_cases h : p.1 = q.1
  · rw [if_pos (by omega), if_pos h]; exact decide_eq_decide.mpr (by omega)
  · rw [if_neg (by omega), if_neg h]; exact decide_eq_decide.mpr (by omega)
def insN (x : Nat × Nat) : List (Nat × Nat) → List (Nat × Nat)
  | [] => [x]
  | y :: r => if ltN y x then y :: insN x r else x :: y :: r
def sortN : List (Nat × Nat) → List (Nat × Nat)
  | [] => []
  | x :: r => insN x (sortN r)
theorem insP_ip (x : Nat × Nat) : ∀ l : List (Nat × Nat), insP (ip x) (l.map ip) = (insN x l).map ip
  | [] => rfl
  | y :: r => by
    show (if ltP (ip y) (ip x) then ip y :: insP (ip x) (r.map ip) else ip x :: ip y :: r.map ip) = _
    rw [ltP_ip, insP_ip x r]
    show _ = (if ltN y x then y :: insN x r else x :: y :: r).map ip
    split <;> rfl
theorem sortP_ip : ∀ l : List (Nat × Nat), sortP (l.map ip) = (sortN l).map ip
  | [] => rfl
  | x :: r => by
    show insP (ip x) (sortP (r.map ip)) = _
    rw [sortP_ip r, insP_ip]; rfl
theorem pairsI_pr : ∀ l : List (Nat × Nat), pairsI (l.map pr) = some (l.map ip)
  | [] => rfl
  | x :: r => by
    show (some (ip x)).bind (fun a => (pairsI (r.map pr)).map (a :: ·)) = _
    rw [pairsI_pr r]; rfl
theorem sortD_pr (l : List (Nat × Nat)) : sortD (l.map pr) = some ((sortN l).map pr) := by
  cases l with
  | nil => rfl
  | cons x r =>
    have h : intsOf ((x :: r).map pr) = none := rfl
    unfold sortD
    rw [h, pairsI_pr]
    simp only [Option.map_some]
    rw [sortP_ip, List.map_map]; rfl
theorem o_sorted {l : List (Nat × Nat)} {x : D} (h : seqOf x = some (l.map pr)) : op1 .sorted x = some (.c ((sortN l).map pr)) := by
  show (seqOf x).bind (fun xs => (sortD xs).map V.c) = _
  rw [h]
  simp only [Option.bind_some, sortD_pr, Option.map_some]
theorem insN_perm (x : Nat × Nat) : ∀ l, (insN x l).Perm (x :: l)
  | [] => .refl _
  | y :: r => by
    unfold insN
    split
    · exact ((insN_perm x r).cons y).trans (List.Perm.swap ..)
    · exact .refl _
theorem sortN_perm : ∀ l, (sortN l).Perm l
  | [] => .refl _
  | x :: r => (insN_perm x _).trans ((sortN_perm r).cons x)
theorem sortN_len (l : List (Nat × Nat)) : (sortN l).length = l.length := (sortN_perm l).length_eq
end Sw
end T_SxH
section T_SxI
set_option autoImplicit false
set_option linter.all false
set_option maxRecDepth 100000
/-! SxI: drawn stages, nets, settings (the state of two numbers); ways across. -/
namespace Sw
open PySem
/-- the wires of a stage -/
def wires (st : List (Nat × Nat)) : List Nat := st.flatMap fun p => [p.1, p.2]
/-- a stage of m wires -/
structure GSt (m : Nat) (st : List (Nat × Nat)) : Prop where
  lt : ∀ p ∈ st, p.1 < p.2 ∧ p.2 < m
  nd : (wires st).Nodup
  len : 2 * st.length ≤ m
def stP (st : List (Nat × Nat)) : D := .tuple (st.map pr)
def netP (m : Nat) (ss : List (List (Nat × Nat))) : D := .tuple [natD m, .tuple (ss.map stP)]
def setP (ws : List (List Nat)) : D := .tuple (ws.map tupN)
theorem wires_app (a b : List (Nat × Nat)) : wires (a ++ b) = wires a ++ wires b := by simp [wires]
theorem wires_len : ∀ st : List (Nat × Nat), (wires st).length = 2 * st.length
  | [] => rfl
  | p :: r => by
    have := wires_len r
    unfold wires at this ⊢
    rw [List.flatMap_cons, List.length_append, this]
    simp; omega
def b_law_stage : FDef := ⟨2, 8, [], (.of [
  .asg 2 (.ofSrc false (.rng1 (.var 1))),
  .asg 3 (.lst (.of [])),
  .asg 4 (.o2 .idx (.lst (.of [(.int 0), (.int 1), (.int 2), (.o2 .fdiv (.var 1) (.int 2)), (.o2 .fdiv (.var 1) (.int 2))])) (.call "_law_draw" (.of [(.var 0), (.int 5)]))),
  .forr (.n 5) (.rng1 (.o2 .min2 (.var 4) (.o2 .fdiv (.var 1) (.int 2)))) (.of [
    .asg 6 (.pop 2 (.call "_law_draw" (.of [(.var 0), (.o1 .len (.var 2))]))),
    .asg 7 (.pop 2 (.call "_law_draw" (.of [(.var 0), (.o1 .len (.var 2))]))),
    .ex (.app 3 (.tup (.of [(.o2 .min2 (.var 6) (.var 7)), (.o2 .max2 (.var 6) (.var 7))])))]) [5, 6, 7],
  .ret (.o1 .tupleOf (.o1 .sorted (.var 3)))])⟩
theorem stage_ok {T : Tab} (hD : T "_law_draw" = some b_law_draw) (hS : T "_law_stage" = some b_law_stage) (n : Nat) (a b : Int) (m : Nat) (hm : m ≤ 32) :
    ∃ (st : List (Nat × Nat)) (a' b' : Int), callF T (n + 2) "_law_stage" [.c [.int a, .int b], .d (natD m)] = .ok (.d (stP st), [.c [.int a', .int b'], .d (natD m)]) ∧ GSt m st := by
  suffices h : ∃ v outs, callF T (n + 2) "_law_stage" [.c [.int a, .int b], .d (natD m)] = .ok (v, outs) ∧ ∃ (st : List (Nat × Nat)) (a' b' : Int), v = .d (stP st) ∧ outs = [.c [.int a', .int b'], .d (natD m)] ∧ GSt m st by
    obtain ⟨v, outs, h, st, a', b', rfl, rfl, h2⟩ := h
    exact ⟨st, a', b', h, h2⟩
  refine call_wp (fun v outs => ∃ (st : List (Nat × Nat)) (a' b' : Int), v = .d (stP st) ∧ outs = [.c [.int a', .int b'], .d (natD m)] ∧ GSt m st) hS rfl ?_
  refine (show Wp _ (Sw.execs (callF T (n + 1)) b_law_stage.body [.c [.int a, .int b], .d (natD m), .u, .u, .u, .u, .u, .u]) from ?_)
  simp only [b_law_stage, Ss.of]
  refine wp_asg (ofL_eval (src_n (da_var rfl) (by omega))) ?_
  refine wp_asg (w := .c []) (lst_ev ds_nil (by decide)) ?_
  obtain ⟨k, a1, b1, d1, hk⟩ := draw_int hD n a b 5 (by decide) (by decide)
  have h2 := o2_eval (φ := callF T (n + 1)) (o := .fdiv) (a := .var 1) (b := .int 2) (e := [.c [.int a, .int b], .d (natD m), .c (natsD (List.range m)), .c [], .u, .u, .u, .u]) (op_var rfl) (op_v rfl int_eval) rfl rfl (o_div (b := 2) (by decide) (by decide))
  have l5 := lst_ev (ds := natsD [0, 1, 2, m / 2, m / 2]) (ds_cons da_int (ds_cons da_int (ds_cons da_int (ds_cons (da_of h2 rfl) (ds_cons (da_of h2 rfl) ds_nil))))) (show (5 : Nat) ≤ 1000 by decide)
  refine wp_asg (o2_eval (op_v rfl l5) (op_v rfl (s1_ev (i := 0) (b := .int 5) rfl (op_v rfl int_eval) rfl d1)) rfl rfl (idx_natL (q := [0, 1, 2, m / 2, m / 2]) hk)) ?_
  generalize [0, 1, 2, m / 2, m / 2].getD k 0 = mo
  have g2 := o2_eval (φ := callF T (n + 1)) (o := .fdiv) (a := .var 1) (b := .int 2) (e := [.c [.int a1, .int b1], .d (natD m), .c (natsD (List.range m)), .c [], .d (natD mo), .u, .u, .u]) (op_var rfl) (op_v rfl int_eval) rfl rfl (o_div (b := 2) (by decide) (by decide))
  have g3 := o2_eval (o := .min2) (a := .var 4) (op_var rfl) (op_v rfl g2) rfl rfl o_min
  refine wp_forN (src_n (da_of g3 rfl) (by omega)) (fun k e => ∃ (a b : Int) (left : List Nat) (ps : List (Nat × Nat)), e = [.c [.int a, .int b], .d (natD m), .c (natsD left), .c (ps.map pr), .d (natD mo), .u, .u, .u] ∧ (wires ps ++ left).Perm (List.range m) ∧ ps.length = k ∧ ∀ p ∈ ps, p.1 < p.2 ∧ p.2 < m)
    ⟨a1, b1, List.range m, [], rfl, .refl _, rfl, by simp⟩ (fun e he => ?_) fun k e hk2 he => ?_
  · obtain ⟨a, b, left, ps, rfl, q1, q2, q3⟩ := he
    have so := o1_eval (φ := callF T (n + 1)) (o := .sorted) (a := .var 3) (e := [.c [.int a, .int b], .d (natD m), .c (natsD left), .c (ps.map pr), .d (natD mo), .u, .u, .u]) (x := .list (ps.map pr)) (op_var rfl) rfl (o_sorted rfl)
    refine wp_ret (tuple_c so rfl) ⟨sortN ps, a, b, rfl, rfl, ?_, ?_, ?_⟩
    · exact fun p hp => q3 p ((sortN_perm ps).mem_iff.mp hp)
    · have nd := q1.symm.nodup List.nodup_range
      have pw : (wires (sortN ps)).Perm (wires ps) := (sortN_perm ps).flatMap_right _
      exact pw.symm.nodup (List.nodup_append.mp nd).1
    · rw [sortN_len]
      have := q1.length_eq
      rw [List.length_append, wires_len, List.length_range] at this
      omega
  obtain ⟨a5, b5, left, ps, rfl, q1, q2, q3⟩ := he
  have ll := q1.length_eq
  rw [List.length_append, wires_len, List.length_range, q2] at ll
  have hk3 : k < m / 2 := by omega
  obtain ⟨x, a6, b6, d6, hx⟩ := draw_int hD n a5 b5 left.length (by omega) (by omega)
  obtain ⟨u, hu, hp⟩ := popAt_nats (l := left) (r := (x : Int)) (by omega) (by omega) (by omega)
  have l1 := o1_eval (φ := callF T (n + 1)) (o := .len) (a := .var 2) (e := [.c [.int a5, .int b5], .d (natD m), .c (natsD left), .c (ps.map pr), .d (natD mo), .d (natD k), .u, .u]) (w := .d (natD left.length)) (op_var rfl) rfl (by show some (V.d (.int ((natsD left).length : Int))) = _; rw [natsD_len]; rfl)
  refine wp_asg (pop_ev rfl (op_v rfl (s1_ev (i := 0) rfl (op_v rfl l1) rfl d6)) rfl rfl hp) ?_
  rw [Int.toNat_natCast] at hu hp ⊢
  have len2 : (left.eraseIdx x).length = left.length - 1 := by rw [List.length_eraseIdx, if_pos (by omega)]
  obtain ⟨x2, a7, b7, d7, hx2⟩ := draw_int hD n a6 b6 (left.eraseIdx x).length (by omega) (by omega)
  obtain ⟨w, hw, hp2⟩ := popAt_nats (l := left.eraseIdx x) (r := (x2 : Int)) (by omega) (by omega) (by omega)
  have l2 := o1_eval (φ := callF T (n + 1)) (o := .len) (a := .var 2) (e := [.c [.int a6, .int b6], .d (natD m), .c (natsD (left.eraseIdx x)), .c (ps.map pr), .d (natD mo), .d (natD k), .d (natD u), .u]) (w := .d (natD (left.eraseIdx x).length)) (op_var rfl) rfl (by show some (V.d (.int ((natsD (left.eraseIdx x)).length : Int))) = _; rw [natsD_len]; rfl)
  refine wp_asg (pop_ev rfl (op_v rfl (s1_ev (i := 0) rfl (op_v rfl l2) rfl d7)) rfl rfl hp2) ?_
  rw [Int.toNat_natCast] at hw hp2 ⊢
  have mn := o2_eval (φ := callF T (n + 1)) (o := .min2) (a := .var 6) (b := .var 7) (e := [.c [.int a7, .int b7], .d (natD m), .c (natsD ((left.eraseIdx x).eraseIdx x2)), .c (ps.map pr), .d (natD mo), .d (natD k), .d (natD u), .d (natD w)]) (op_var rfl) (op_var rfl) rfl rfl o_min
  have mx := o2_eval (φ := callF T (n + 1)) (o := .max2) (a := .var 6) (b := .var 7) (e := [.c [.int a7, .int b7], .d (natD m), .c (natsD ((left.eraseIdx x).eraseIdx x2)), .c (ps.map pr), .d (natD mo), .d (natD k), .d (natD u), .d (natD w)]) (op_var rfl) (op_var rfl) rfl rfl o_max
  have tp := tup_ev (ds_cons (da_of mn rfl) (ds_cons (da_of mx rfl) ds_nil)) (show (2 : Nat) ≤ 1000 by decide)
  have e1 := erase_perm hu
  have e2 := erase_perm hw
  have e3 : (u :: w :: (left.eraseIdx x).eraseIdx x2).Perm left := (e2.cons u).trans e1
  have nd := q1.symm.nodup List.nodup_range
  have ndl := e3.symm.nodup (List.nodup_append.mp nd).2.1
  have hne : u ≠ w := fun z => by
    subst z
    exact (List.nodup_cons.mp ndl).1 List.mem_cons_self
  have hum : u < m := by
    have : u ∈ List.range m := q1.mem_iff.mp (List.mem_append_right _ (e3.mem_iff.mp List.mem_cons_self))
    simpa using this
  have hwm : w < m := by
    have : w ∈ List.range m := q1.mem_iff.mp (List.mem_append_right _ (e3.mem_iff.mp (List.mem_cons_of_mem _ List.mem_cons_self)))
    simpa using this
  refine wp_ex (app_ev rfl (da_of tp rfl) rfl (by rw [List.length_map]; omega)) (wp_nil ⟨a7, b7, (left.eraseIdx x).eraseIdx x2, ps ++ [(min u w, max u w)], ?_, ?_, ?_, ?_⟩)
  · rw [List.map_append]; rfl
  · rw [wires_app]
    have e4 : (wires [(min u w, max u w)]).Perm [u, w] := by
      show [min u w, max u w].Perm [u, w]
      rcases Nat.lt_or_ge u w with z | z
      · rw [Nat.min_eq_left (by omega), Nat.max_eq_right (by omega)]
      · rw [Nat.min_eq_right z, Nat.max_eq_left z]
        exact List.Perm.swap ..
    rw [List.append_assoc]
    exact (List.Perm.append_left _ ((e4.append_right _).trans e3)).trans q1
  · rw [List.length_append, q2]; rfl
  · intro p hp
    rcases List.mem_append.mp hp with z | z
    · exact q3 p z
    · have := List.mem_singleton.mp z
      subst this
      exact ⟨by show min u w < max u w; omega, by show max u w < m; omega⟩
end Sw
end T_SxI
section T_SxJ
set_option autoImplicit false
set_option linter.all false
set_option maxRecDepth 100000
/-! SxJ: a drawn net; a drawn setting of it; ways across. -/
namespace Sw
open PySem
def b_law_net : FDef := ⟨3, 6, [], (.of [
  .asg 3 (.o2 .idx (.lst (.of [(.int 2), (.int 3), (.int 4), (.int 5), (.int 8), (.int 1)])) (.call "_law_draw" (.of [(.var 0), (.int 6)]))),
  .asg 4 (.call "_law_draw" (.of [(.var 0), (.int 6)])),
  .iff (.e (.o2 .eq (.call "_law_draw" (.of [(.var 0), (.int 8)])) (.int 5))) (.of [
    .asg 3 (.var 1)]) (.of []),
  .iff (.e (.o2 .eq (.call "_law_draw" (.of [(.var 0), (.int 8)])) (.int 5))) (.of [
    .asg 4 (.var 2)]) (.of []),
  .ret (.tup (.of [(.var 3), (.o1 .tupleOf (.comp [5] (.n 5) (.rng1 (.var 4)) .no (.call "_law_stage" (.of [(.var 0), (.var 3)]))))]))])⟩
theorem net_drawn {T : Tab} (hD : T "_law_draw" = some b_law_draw) (hS : T "_law_stage" = some b_law_stage) (hN : T "_law_net" = some b_law_net) (n : Nat) (a b : Int) (g l : Nat) (hg0 : 0 < g) (hg : g ≤ 32) (hl : l ≤ 20) :
    ∃ (m : Nat) (ss : List (List (Nat × Nat))) (a' b' : Int) (y z : V), callF T (n + 3) "_law_net" [.c [.int a, .int b], .d (natD g), .d (natD l)] = .ok (.d (netP m ss), [.c [.int a', .int b'], y, z]) ∧ 0 < m ∧ (m ≤ 8 ∨ m = g) ∧ m ≤ 32 ∧ (ss.length ≤ 5 ∨ ss.length = l) ∧ ∀ st ∈ ss, GSt m st := by
  suffices h : ∃ v outs, callF T (n + 3) "_law_net" [.c [.int a, .int b], .d (natD g), .d (natD l)] = .ok (v, outs) ∧ ∃ (m : Nat) (ss : List (List (Nat × Nat))) (a' b' : Int) (y z : V), v = .d (netP m ss) ∧ outs = [.c [.int a', .int b'], y, z] ∧ 0 < m ∧ (m ≤ 8 ∨ m = g) ∧ m ≤ 32 ∧ (ss.length ≤ 5 ∨ ss.length = l) ∧ ∀ st ∈ ss, GSt m st by
    obtain ⟨v, outs, h, m, ss, a', b', y, z, rfl, rfl, h2⟩ := h
    exact ⟨m, ss, a', b', y, z, h, h2⟩
  refine call_wp (fun v outs => ∃ (m : Nat) (ss : List (List (Nat × Nat))) (a' b' : Int) (y z : V), v = .d (netP m ss) ∧ outs = [.c [.int a', .int b'], y, z] ∧ 0 < m ∧ (m ≤ 8 ∨ m = g) ∧ m ≤ 32 ∧ (ss.length ≤ 5 ∨ ss.length = l) ∧ ∀ st ∈ ss, GSt m st) hN rfl ?_
  refine (show Wp _ (Sw.execs (callF T (n + 2)) b_law_net.body [.c [.int a, .int b], .d (natD g), .d (natD l), .u, .u, .u]) from ?_)
  simp only [b_law_net, Ss.of]
  obtain ⟨k, a1, b1, d1, hk⟩ := draw_int hD (n + 1) a b 6 (by decide) (by decide)
  have l6 := lst_ev (φ := callF T (n + 2)) (e := [.c [.int a, .int b], .d (natD g), .d (natD l), .u, .u, .u]) (ds := natsD [2, 3, 4, 5, 8, 1]) (ds_cons da_int (ds_cons da_int (ds_cons da_int (ds_cons da_int (ds_cons da_int (ds_cons da_int ds_nil)))))) (by decide)
  refine wp_asg (o2_eval (op_v rfl l6) (op_v rfl (s1_ev (i := 0) (b := .int 6) rfl (op_v rfl int_eval) rfl d1)) rfl rfl (idx_natL (q := [2, 3, 4, 5, 8, 1]) hk)) ?_
  have hm0 : 0 < [2, 3, 4, 5, 8, 1].getD k 0 ∧ [2, 3, 4, 5, 8, 1].getD k 0 ≤ 8 := by
    have : ∀ k < 6, 0 < [2, 3, 4, 5, 8, 1].getD k 0 ∧ [2, 3, 4, 5, 8, 1].getD k 0 ≤ 8 := by decide
    exact this k hk
  generalize [2, 3, 4, 5, 8, 1].getD k 0 = m0 at hm0
  obtain ⟨t0, a2, b2, d2, ht0⟩ := draw_int hD (n + 1) a1 b1 6 (by decide) (by decide)
  refine wp_asg (s1_ev (i := 0) rfl (op_v rfl int_eval) rfl d2) ?_
  have tail : ∀ (m t : Nat) (a b : Int), 0 < m → (m ≤ 8 ∨ m = g) → m ≤ 32 → (t ≤ 5 ∨ t = l) → Wp ⟨fun e => ∃ (m : Nat) (ss : List (List (Nat × Nat))) (a' b' : Int) (y z : V), V.d PyData.none = .d (netP m ss) ∧ killAll b_law_net.wp (e.take b_law_net.np) = [.c [.int a', .int b'], y, z] ∧ 0 < m ∧ (m ≤ 8 ∨ m = g) ∧ m ≤ 32 ∧ (ss.length ≤ 5 ∨ ss.length = l) ∧ ∀ st ∈ ss, GSt m st, fun _ => False, fun _ => False,
      fun v e => ∃ (m : Nat) (ss : List (List (Nat × Nat))) (a' b' : Int) (y z : V), v = .d (netP m ss) ∧ killAll b_law_net.wp (e.take b_law_net.np) = [.c [.int a', .int b'], y, z] ∧ 0 < m ∧ (m ≤ 8 ∨ m = g) ∧ m ≤ 32 ∧ (ss.length ≤ 5 ∨ ss.length = l) ∧ ∀ st ∈ ss, GSt m st⟩
      (Sw.execs (callF T (n + 2)) (.cons (.ret (.tup (.of [(.var 3), (.o1 .tupleOf (.comp [5] (.n 5) (.rng1 (.var 4)) .no (.call "_law_stage" (.of [(.var 0), (.var 3)]))))]))) .nil) [.c [.int a, .int b], .d (natD g), .d (natD l), .d (natD m), .d (natD t), .u]) := by
    intro m t a b h0 h1 h2 h3
    obtain ⟨ys, e2, k1, k2⟩ := comp_forN (φ := callF T (n + 2)) (own := [5]) (i := 5) (a := .call "_law_stage" (.of [(.var 0), (.var 3)])) (e := [.c [.int a, .int b], .d (natD g), .d (natD l), .d (natD m), .d (natD t), .u]) (src_n (da_var (i := 4) rfl) (by omega)) (by omega)
      (fun j ys e => ∃ (a b : Int) (ss : List (List (Nat × Nat))), e = [.c [.int a, .int b], .d (natD g), .d (natD l), .d (natD m), .d (natD t), .u] ∧ ys = ss.map stP ∧ ss.length = j ∧ ∀ st ∈ ss, GSt m st) ⟨a, b, [], rfl, rfl, rfl, by simp⟩ (fun j ys e hj he => by
        obtain ⟨a, b, ss, rfl, rfl, q1, q2⟩ := he
        obtain ⟨st, a', b', hs, hg⟩ := stage_ok hD hS n a b m h2
        refine ⟨stP st, _, da_of (s1_ev (φ := callF T (n + 2)) (i := 0) (b := .var 3) rfl (op_var rfl) rfl hs) rfl, a', b', ss ++ [st], rfl, by rw [List.map_append]; rfl, by simp [q1], fun x hx => ?_⟩
        rcases List.mem_append.mp hx with z | z
        · exact q2 x z
        · have := List.mem_singleton.mp z
          subst this
          exact hg)
    obtain ⟨a', b', ss, rfl, rfl, q1, q2⟩ := k2
    exact wp_ret (tup_ev (ds_cons (da_var (d := natD m) rfl) (ds_cons (da_of (tuple_c k1 rfl) rfl) ds_nil)) (show (2 : Nat) ≤ 1000 by decide)) ⟨m, ss, a', b', _, _, rfl, rfl, h0, h1, h2, by rw [q1]; exact h3, q2⟩
  obtain ⟨x3, a3, b3, d3, hx3⟩ := draw_int hD (n + 1) a2 b2 8 (by decide) (by decide)
  have second : ∀ m : Nat, 0 < m → (m ≤ 8 ∨ m = g) → m ≤ 32 → Wp ⟨fun e => ∃ (m : Nat) (ss : List (List (Nat × Nat))) (a' b' : Int) (y z : V), V.d PyData.none = .d (netP m ss) ∧ killAll b_law_net.wp (e.take b_law_net.np) = [.c [.int a', .int b'], y, z] ∧ 0 < m ∧ (m ≤ 8 ∨ m = g) ∧ m ≤ 32 ∧ (ss.length ≤ 5 ∨ ss.length = l) ∧ ∀ st ∈ ss, GSt m st, fun _ => False, fun _ => False,
      fun v e => ∃ (m : Nat) (ss : List (List (Nat × Nat))) (a' b' : Int) (y z : V), v = .d (netP m ss) ∧ killAll b_law_net.wp (e.take b_law_net.np) = [.c [.int a', .int b'], y, z] ∧ 0 < m ∧ (m ≤ 8 ∨ m = g) ∧ m ≤ 32 ∧ (ss.length ≤ 5 ∨ ss.length = l) ∧ ∀ st ∈ ss, GSt m st⟩
      (Sw.execs (callF T (n + 2)) (.cons (.iff (.e (.o2 .eq (.call "_law_draw" (.of [(.var 0), (.int 8)])) (.int 5))) (.cons (.asg 4 (.var 2)) .nil) .nil) (.cons (.ret (.tup (.of [(.var 3), (.o1 .tupleOf (.comp [5] (.n 5) (.rng1 (.var 4)) .no (.call "_law_stage" (.of [(.var 0), (.var 3)]))))]))) .nil)) [.c [.int a3, .int b3], .d (natD g), .d (natD l), .d (natD m), .d (natD t0), .u]) := by
    intro m h0 h1 h2
    obtain ⟨x4, a4, b4, d4, hx4⟩ := draw_int hD (n + 1) a3 b3 8 (by decide) (by decide)
    have t1 := o2_eval (o := .eq) (b := .int 5) (e := [.c [.int a3, .int b3], .d (natD g), .d (natD l), .d (natD m), .d (natD t0), .u]) (op_v rfl (s1_ev (φ := callF T (n + 2)) (i := 0) (b := .int 8) rfl (op_v rfl int_eval) rfl d4)) (op_v rfl int_eval) rfl rfl (o_eq (b := 5))
    refine wp_if1 (t_e t1 rfl) (fun _ => ?_) fun _ => ?_
    · refine wp_asg (w := .d (natD l)) (by rw [evalE]; rfl) (wp_nil ?_)
      exact tail m l a4 b4 h0 h1 h2 (.inr rfl)
    · exact tail m t0 a4 b4 h0 h1 h2 (.inl (by omega))
  have t1 := o2_eval (o := .eq) (b := .int 5) (e := [.c [.int a2, .int b2], .d (natD g), .d (natD l), .d (natD m0), .d (natD t0), .u]) (op_v rfl (s1_ev (φ := callF T (n + 2)) (i := 0) (b := .int 8) rfl (op_v rfl int_eval) rfl d3)) (op_v rfl int_eval) rfl rfl (o_eq (b := 5))
  refine wp_if1 (t_e t1 rfl) (fun _ => ?_) fun _ => ?_
  · refine wp_asg (w := .d (natD g)) (by rw [evalE]; rfl) (wp_nil ?_)
    exact second g hg0 (.inr rfl) hg
  · exact second m0 hm0.1 (.inl hm0.2) (by omega)
/-! ### a setting -/
/-- a setting of the stages -/
inductive Fit : List (List (Nat × Nat)) → List (List Nat) → Prop
  | nil : Fit [] []
  | cons {st : List (Nat × Nat)} {ws : List Nat} {ss : List (List (Nat × Nat))} {wss : List (List Nat)} : ws.length = st.length → (∀ w ∈ ws, w < 2) → Fit ss wss → Fit (st :: ss) (ws :: wss)
theorem Fit.len {ss : List (List (Nat × Nat))} {wss : List (List Nat)} (h : Fit ss wss) : wss.length = ss.length := by
  induction h with
  | nil => rfl
  | cons _ _ _ ih => rw [List.length_cons, List.length_cons, ih]
theorem Fit.snoc {ss : List (List (Nat × Nat))} {wss : List (List Nat)} {st : List (Nat × Nat)} {ws : List Nat} (h : Fit ss wss) (h1 : ws.length = st.length) (h2 : ∀ w ∈ ws, w < 2) : Fit (ss ++ [st]) (wss ++ [ws]) := by
  induction h with
  | nil => exact .cons h1 h2 .nil
  | cons k1 k2 _ ih => exact .cons k1 k2 ih
def b_law_setting : FDef := ⟨2, 5, [], (.of [
  .asg 2 (.lst (.of [])),
  .forr (.n 3) (.seq (.o2 .idx (.var 1) (.int 1))) (.of [
    .ex (.app 2 (.o1 .tupleOf (.comp [4] (.n 4) (.seq (.var 3)) .no (.call "_law_draw" (.of [(.var 0), (.int 2)])))))]) [3],
  .ret (.o1 .tupleOf (.var 2))])⟩
theorem setting_ok {T : Tab} (hD : T "_law_draw" = some b_law_draw) (hS : T "_law_setting" = some b_law_setting) (n : Nat) (a b : Int) (m : Nat) (ss : List (List (Nat × Nat))) (hl : ss.length ≤ 1000) (hs : ∀ st ∈ ss, st.length ≤ 1000) :
    ∃ (wss : List (List Nat)) (a' b' : Int), callF T (n + 2) "_law_setting" [.c [.int a, .int b], .d (netP m ss)] = .ok (.d (setP wss), [.c [.int a', .int b'], .d (netP m ss)]) ∧ Fit ss wss := by
  suffices h : ∃ v outs, callF T (n + 2) "_law_setting" [.c [.int a, .int b], .d (netP m ss)] = .ok (v, outs) ∧ ∃ (wss : List (List Nat)) (a' b' : Int), v = .d (setP wss) ∧ outs = [.c [.int a', .int b'], .d (netP m ss)] ∧ Fit ss wss by
    obtain ⟨v, outs, h, wss, a', b', rfl, rfl, h2⟩ := h
    exact ⟨wss, a', b', h, h2⟩
  refine call_wp (fun v outs => ∃ (wss : List (List Nat)) (a' b' : Int), v = .d (setP wss) ∧ outs = [.c [.int a', .int b'], .d (netP m ss)] ∧ Fit ss wss) hS rfl ?_
  refine (show Wp _ (Sw.execs (callF T (n + 1)) b_law_setting.body [.c [.int a, .int b], .d (netP m ss), .u, .u, .u]) from ?_)
  simp only [b_law_setting, Ss.of]
  refine wp_asg (w := .c []) (lst_ev ds_nil (by decide)) ?_
  refine wp_forL stP (l := ss) (src_sq (da_of (o2_eval (o := .idx) (a := .var 1) (b := .int 1) (x := netP m ss) (op_var rfl) (op_v rfl int_eval) rfl rfl (idx_tup (i := 1) rfl)) rfl) rfl)
    (fun S e => ∃ (a b : Int) (wss : List (List Nat)), e = [.c [.int a, .int b], .d (netP m ss), .c (wss.map tupN), .u, .u] ∧ Fit S wss) ⟨a, b, [], rfl, .nil⟩ (fun e he => ?_) fun S st R e hl2 he => ?_
  · obtain ⟨a, b, wss, rfl, hf⟩ := he
    exact wp_ret (o1_eval (w := .d (setP wss)) (op_var rfl) rfl rfl) ⟨wss, a, b, rfl, rfl, hf⟩
  obtain ⟨a1, b1, wss, rfl, hf⟩ := he
  have hst : st ∈ ss := by rw [hl2]; simp
  have slen : wss.length < 1000000 := by
    have := hf.len
    have := congrArg List.length hl2
    simp at this
    omega
  obtain ⟨ys, e2, k1, k2⟩ := comp_forL (φ := callF T (n + 1)) (own := [4]) (i := 4) (a := .call "_law_draw" (.of [(.var 0), (.int 2)])) (e := [.c [.int a1, .int b1], .d (netP m ss), .c (wss.map tupN), .d (stP st), .u]) pr (l := st) (src_sq (da_var (i := 3) (d := stP st) rfl) rfl) (by have := hs st hst; omega)
    (fun S2 ys e => ∃ (a b : Int) (ws : List Nat), e = [.c [.int a, .int b], .d (netP m ss), .c (wss.map tupN), .d (stP st), .u] ∧ ys = natsD ws ∧ ws.length = S2.length ∧ ∀ w ∈ ws, w < 2) ⟨a1, b1, [], rfl, rfl, rfl, by simp⟩ (fun S2 x R2 ys e hl3 he => by
      obtain ⟨a, b, ws, rfl, rfl, q1, q2⟩ := he
      obtain ⟨k, a', b', hd, hk⟩ := draw_int hD n a b 2 (by decide) (by decide)
      refine ⟨natD k, _, da_of (s1_ev (φ := callF T (n + 1)) (i := 0) (b := .int 2) rfl (op_v rfl int_eval) rfl hd) rfl, a', b', ws ++ [k], rfl, (natsD_append _ _).symm ▸ rfl, by simp [q1], fun w hw => ?_⟩
      rcases List.mem_append.mp hw with z | z
      · exact q2 w z
      · have := List.mem_singleton.mp z
        omega)
  obtain ⟨a2, b2, ws, rfl, rfl, q1, q2⟩ := k2
  refine wp_ex (app_ev rfl (da_of (tuple_c k1 rfl) rfl) rfl (by rw [List.length_map]; omega)) (wp_nil ⟨a2, b2, wss ++ [ws], ?_, hf.snoc q1 q2⟩)
  rw [List.map_append]; rfl
end Sw
end T_SxJ
section T_SxK
set_option autoImplicit false
set_option linter.all false
set_option maxRecDepth 100000
/-! SxK: each wire's way across. -/
namespace Sw
open PySem
def cross : List (Nat × Nat) → List Nat → Nat → Nat
  | p :: st, x :: ws, w => if x = 1 ∧ (w = p.1 ∨ w = p.2) then p.1 + p.2 - w else cross st ws w
  | _, _, w => w
def pathT : List (List (Nat × Nat)) → List (List Nat) → Nat → List Nat
  | st :: ss, ws :: wss, w => cross st ws w :: pathT ss wss (cross st ws w)
  | _, _, _ => []
def endp : List (List (Nat × Nat)) → List (List Nat) → Nat → Nat
  | st :: ss, ws :: wss, w => endp ss wss (cross st ws w)
  | _, _, w => w
theorem in_nats {ns : List Nat} {x : Nat} : op2 .inn (natD x) (tupN ns) = some (.d (.bool (decide (x ∈ ns)))) := by
  show (if shapedB (natD x) && shapedB (tupN ns) then some ((natsD ns).any fun z => z.eqv (natD x)) else none).map _ = _
  rw [shaped_nat, shaped_tupN]
  simp only [Bool.and_self, if_true, Option.map_some]
  congr 3
  induction ns with
  | nil => rfl
  | cons y r ih =>
    show (PyData.eqv (natD y) (natD x) || (natsD r).any fun z => z.eqv (natD x)) = _
    rw [ih]
    have e : PyData.eqv (natD y) (natD x) = decide (y = x) := bq
    rw [e]
    by_cases z : y = x
    · subst z; simp
    · simp [z, show ¬ x = y from fun q => z q.symm]
def two (q : (Nat × Nat) × Nat) : D := .tuple [pr q.1, natD q.2]
def twoS (q : List (Nat × Nat) × List Nat) : D := .tuple [stP q.1, tupN q.2]
theorem zip_map {α β : Type} (f : α → D) (g : β → D) : ∀ (l : List α) (r : List β), List.zipWith (fun x y => PyData.tuple [x, y]) (l.map f) (r.map g) = (l.zip r).map fun q => .tuple [f q.1, g q.2]
  | [], _ => by simp
  | _ :: _, [] => by simp
  | x :: l, y :: r => by
    have := zip_map f g l r
    simp [this]
theorem zip_src {φ : Orc} {a b : E} {e e1 e2 : Env} {α β : Type} {f : α → D} {g : β → D} {l : List α} {r : List β} {x y : D} (h : daW (evalE φ a) e = .ok (x, e1)) (h2 : daW (evalE φ b) e1 = .ok (y, e2)) (hx : seqOf x = some (l.map f)) (hy : seqOf y = some (r.map g)) :
    evalSrc φ (.zip2 a b) e = .ok ((l.zip r).map (fun q => .tuple [f q.1, g q.2]), e2) := by
  rw [evalSrc]
  refine (bind2 h).trans ((bind2 h2).trans ?_)
  have : zipD x y = some ((l.zip r).map fun q => .tuple [f q.1, g q.2]) := by
    unfold zipD
    rw [hx, hy]
    simp only [Option.bind_some, Option.map_some, zip_map]
  rw [this]; rfl
def b_law_across : FDef := ⟨3, 5, [], (.of [
  .forr (.p [(.n 3), (.n 4)]) (.zip2 (.var 0) (.var 1)) (.of [
    .iff (.and (.e (.o2 .eq (.var 4) (.int 1))) (.e (.o2 .inn (.var 2) (.var 3)))) (.of [
      .ret (.o2 .sub (.o1 .sum (.var 3)) (.var 2))]) (.of [])]) [3, 4],
  .ret (.mv 2)])⟩
theorem sum_pr (p : Nat × Nat) : op1 .sum (pr p) = some (.d (natD (p.1 + p.2))) := by
  show some (V.d (.int ((p.1 : Int) + ((p.2 : Int) + 0)))) = _
  have : (p.1 : Int) + ((p.2 : Int) + 0) = ((p.1 + p.2 : Nat) : Int) := by omega
  rw [this]; rfl
theorem across_ok {T : Tab} (hA : T "_law_across" = some b_law_across) (n : Nat) {st : List (Nat × Nat)} {ws : List Nat} {w : Nat} (hl : ws.length = st.length) :
    ∃ x y z, callF T (n + 1) "_law_across" [.d (stP st), .d (tupN ws), .d (natD w)] = .ok (.d (natD (cross st ws w)), [x, y, z]) := by
  suffices h : ∃ v outs, callF T (n + 1) "_law_across" [.d (stP st), .d (tupN ws), .d (natD w)] = .ok (v, outs) ∧ v = .d (natD (cross st ws w)) ∧ ∃ x y z, outs = [x, y, z] by
    obtain ⟨v, outs, h, rfl, x, y, z, rfl⟩ := h
    exact ⟨x, y, z, h⟩
  refine call_wp (fun v outs => v = .d (natD (cross st ws w)) ∧ ∃ x y z, outs = [x, y, z]) hA rfl ?_
  refine (show Wp _ (Sw.execs (callF T n) b_law_across.body [.d (stP st), .d (tupN ws), .d (natD w), .u, .u]) from ?_)
  simp only [b_law_across, Ss.of]
  refine wp_for (zip_src (f := pr) (g := natD) (l := st) (r := ws) (da_var (d := stP st) rfl) (da_var (d := tupN ws) rfl) rfl rfl) (fun rest e => e = [.d (stP st), .d (tupN ws), .d (natD w), .u, .u] ∧ ∃ st' ws', rest = (st'.zip ws').map two ∧ ws'.length = st'.length ∧ cross st' ws' w = cross st ws w) ⟨rfl, st, ws, rfl, hl, rfl⟩ (fun e he => ?_) fun x rest e he => ?_
  · obtain ⟨rfl, st', ws', h1, h2, h3⟩ := he
    cases st' with
    | nil =>
      have h4 : w = cross st ws w := h3
      refine wp_ret (w := .d (natD (cross st ws w))) (e1 := [.d (stP st), .d (tupN ws), .d (natD w), .u, .u]) ?_ ⟨rfl, _, _, _, rfl⟩
      rw [← h4, evalE]; rfl
    | cons p st' =>
      cases ws' with
      | nil => cases h2
      | cons x ws' => cases h1
  obtain ⟨rfl, st', ws', h1, h2, h3⟩ := he
  cases st' with
  | nil => simp at h1
  | cons p st' =>
    cases ws' with
    | nil => cases h2
    | cons c ws' =>
      injection h1 with h4 h5
      subst h4
      refine ⟨[.d (stP st), .d (tupN ws), .d (natD w), .d (pr p), .d (natD c)], rfl, ?_⟩
      have t1 := o2_eval (φ := callF T n) (o := .eq) (a := .var 4) (b := .int 1) (e := [.d (stP st), .d (tupN ws), .d (natD w), .d (pr p), .d (natD c)]) (op_var rfl) (op_v rfl int_eval) rfl rfl (o_eq (b := 1))
      have t2 := o2_eval (φ := callF T n) (o := .inn) (a := .var 2) (b := .var 3) (e := [.d (stP st), .d (tupN ws), .d (natD w), .d (pr p), .d (natD c)]) (op_var rfl) (op_var rfl) rfl rfl (in_nats (ns := [p.1, p.2]))
      refine wp_if1 (t_and (t_e t1 rfl) (fun _ => t_e t2 rfl) (fun _ => rfl)) (fun hb => ?_) fun hb => ?_
      · have hb : c = 1 ∧ (w = p.1 ∨ w = p.2) := by simpa using hb
        have s1 := o1_eval (φ := callF T n) (o := .sum) (a := .var 3) (e := [.d (stP st), .d (tupN ws), .d (natD w), .d (pr p), .d (natD c)]) (op_var rfl) rfl (sum_pr p)
        refine wp_ret (o2_eval (o := .sub) (b := .var 2) (op_v rfl s1) (op_var rfl) rfl rfl (o_sub (by rcases hb.2 with z | z <;> omega))) ⟨?_, _, _, _, rfl⟩
        rw [← h3]
        show _ = V.d (natD (if c = 1 ∧ (w = p.1 ∨ w = p.2) then p.1 + p.2 - w else cross st' ws' w))
        rw [if_pos hb]
      · have hb : ¬ (c = 1 ∧ (w = p.1 ∨ w = p.2)) := by
          intro q
          have : (decide (c = 1) && decide (w ∈ [p.1, p.2])) = true := by simpa using q
          rw [hb] at this
          cases this
        refine wp_nil ⟨rfl, st', ws', h5, by simpa using h2, ?_⟩
        rw [← h3]
        show _ = (if c = 1 ∧ (w = p.1 ∨ w = p.2) then p.1 + p.2 - w else cross st' ws' w)
        rw [if_neg hb]
theorem idx_last {l : List Nat} {x : Nat} {y : D} (h : seqOf y = some (natsD (l ++ [x]))) : op2 .idx y (.int (-1)) = some (.d (natD x)) := by
  show (seqOf y).bind (fun xs => (atI xs (-1)).map V.d) = _
  rw [h]
  have : atI (natsD (l ++ [x])) (-1) = some (natD x) := by
    unfold atI Sw.ixN
    rw [if_neg (by omega), natsD_len, List.length_append, if_pos (by simp; omega)]
    have e : (-1 + ((l.length + [x].length : Nat) : Int)).toNat = l.length := by simp; omega
    rw [e]
    simp only [Option.bind_some]
    rw [natsD_append, List.getElem?_append_right (by rw [natsD_len]; exact Nat.le_refl _), natsD_len, Nat.sub_self]; rfl
  simp only [Option.bind_some, this, Option.map_some]
def b_law_way : FDef := ⟨3, 6, [], (.of [
  .asg 3 (.lst (.of [(.var 2)])),
  .forr (.p [(.n 4), (.n 5)]) (.zip2 (.o2 .idx (.var 0) (.int 1)) (.var 1)) (.of [
    .ex (.app 3 (.call "_law_across" (.of [(.var 4), (.var 5), (.o2 .idx (.var 3) (.o1 .neg (.int 1)))])))]) [4, 5],
  .ret (.o1 .tupleOf (.var 3))])⟩
theorem neg1 {φ : Orc} {e : Env} : evalE φ (.o1 .neg (.int 1)) e = .ok (.d (.int (-1)), e) := o1_eval (op_v rfl int_eval) rfl rfl
theorem way_ok {T : Tab} (hA : T "_law_across" = some b_law_across) (hW : T "_law_way" = some b_law_way) (n : Nat) {m : Nat} {ss : List (List (Nat × Nat))} {wss : List (List Nat)} {w : Nat} (hf : Fit ss wss) (hl : ss.length ≤ 1000) :
    ∃ x y z, callF T (n + 2) "_law_way" [.d (netP m ss), .d (setP wss), .d (natD w)] = .ok (.d (tupN (w :: pathT ss wss w)), [x, y, z]) := by
  suffices h : ∃ v outs, callF T (n + 2) "_law_way" [.d (netP m ss), .d (setP wss), .d (natD w)] = .ok (v, outs) ∧ v = .d (tupN (w :: pathT ss wss w)) ∧ ∃ x y z, outs = [x, y, z] by
    obtain ⟨v, outs, h, rfl, x, y, z, rfl⟩ := h
    exact ⟨x, y, z, h⟩
  refine call_wp (fun v outs => v = .d (tupN (w :: pathT ss wss w)) ∧ ∃ x y z, outs = [x, y, z]) hW rfl ?_
  refine (show Wp _ (Sw.execs (callF T (n + 1)) b_law_way.body [.d (netP m ss), .d (setP wss), .d (natD w), .u, .u, .u]) from ?_)
  simp only [b_law_way, Ss.of]
  refine wp_asg (w := .c (natsD [w])) (lst_ev (ds_cons (da_var rfl) ds_nil) (show (1 : Nat) ≤ 1000 by decide)) ?_
  have i1 := o2_eval (φ := callF T (n + 1)) (o := .idx) (a := .var 0) (b := .int 1) (x := netP m ss) (e := [.d (netP m ss), .d (setP wss), .d (natD w), .c (natsD [w]), .u, .u]) (op_var rfl) (op_v rfl int_eval) rfl rfl (idx_tup (i := 1) rfl)
  refine wp_for (zip_src (f := stP) (g := tupN) (l := ss) (r := wss) (da_of i1 rfl) (da_var (d := setP wss) rfl) rfl rfl) (fun rest e => ∃ (pre : List Nat) (cur : Nat) (ss' : List (List (Nat × Nat))) (wss' : List (List Nat)), e = [.d (netP m ss), .d (setP wss), .d (natD w), .c (natsD (pre ++ [cur])), .u, .u] ∧ rest = (ss'.zip wss').map twoS ∧ Fit ss' wss' ∧ (pre ++ [cur]) ++ pathT ss' wss' cur = w :: pathT ss wss w ∧ pre.length + ss'.length ≤ 1000)
    ⟨[], w, ss, wss, rfl, rfl, hf, rfl, by simpa using hl⟩ (fun e he => ?_) fun x rest e he => ?_
  · obtain ⟨pre, cur, ss', wss', rfl, h1, h2, h3, _⟩ := he
    cases h2 with
    | nil =>
      have h3 : pre ++ [cur] = w :: pathT ss wss w := by simpa [pathT] using h3
      rw [h3]
      exact wp_ret (o1_eval (w := .d (tupN (w :: pathT ss wss w))) (op_var rfl) rfl rfl) ⟨rfl, _, _, _, rfl⟩
    | cons k1 k2 k3 => cases h1
  · obtain ⟨pre, cur, ss', wss', rfl, h1, h2, h3, h4⟩ := he
    cases h2 with
    | nil => cases h1
    | @cons st ws ss' wss' k1 k2 k3 =>
      injection h1 with h5 h6
      subst h5
      refine ⟨[.d (netP m ss), .d (setP wss), .d (natD w), .c (natsD (pre ++ [cur])), .d (stP st), .d (tupN ws)], rfl, ?_⟩
      obtain ⟨x, y, z, ha⟩ := across_ok hA n (w := cur) k1
      have l1 := o2_eval (φ := callF T (n + 1)) (o := .idx) (a := .var 3) (b := .o1 .neg (.int 1)) (e := [.d (netP m ss), .d (setP wss), .d (natD w), .c (natsD (pre ++ [cur])), .d (stP st), .d (tupN ws)]) (op_var rfl) (op_v rfl neg1) rfl rfl (idx_last rfl)
      have c1 := call_ev (φ := callF T (n + 1)) (f := "_law_across") (e := [.d (netP m ss), .d (setP wss), .d (natD w), .c (natsD (pre ++ [cur])), .d (stP st), .d (tupN ws)]) (os_cons (a := .var 4) (op_var rfl) (os_cons (a := .var 5) (op_var rfl) (os_cons (op_v rfl l1) os_nil))) rfl rfl ha rfl rfl
      refine wp_ex (app_ev rfl (da_of c1 rfl) rfl (by rw [natsD_len, List.length_append]; simp only [List.length_cons] at h4; simp; omega)) (wp_nil ⟨pre ++ [cur], cross st ws cur, ss', wss', ?_, h6, k3, ?_, ?_⟩)
      · rw [natsD_append (pre ++ [cur])]; rfl
      · rw [← h3]
        simp [pathT]
      · simp only [List.length_append, List.length_cons, List.length_nil] at h4 ⊢
        omega
theorem path_last : ∀ (ss : List (List (Nat × Nat))) (wss : List (List Nat)) (w : Nat), ∃ pre, w :: pathT ss wss w = pre ++ [endp ss wss w]
  | [], _, w => ⟨[], rfl⟩
  | _ :: _, [], w => ⟨[], rfl⟩
  | st :: ss, ws :: wss, w => by
    obtain ⟨pre, h⟩ := path_last ss wss (cross st ws w)
    exact ⟨w :: pre, by show w :: (cross st ws w :: pathT ss wss (cross st ws w)) = _; rw [h]; rfl⟩
/-! ### the way across is its own way back -/
theorem mem_wires {st : List (Nat × Nat)} {p : Nat × Nat} (h : p ∈ st) : p.1 ∈ wires st ∧ p.2 ∈ wires st := by
  unfold wires
  exact ⟨List.mem_flatMap.mpr ⟨p, h, by simp⟩, List.mem_flatMap.mpr ⟨p, h, by simp⟩⟩
theorem GSt.tail {m : Nat} {p : Nat × Nat} {st : List (Nat × Nat)} (h : GSt m (p :: st)) : GSt m st := by
  refine ⟨fun q hq => h.lt q (List.mem_cons_of_mem _ hq), ?_, by have := h.len; rw [List.length_cons] at this; omega⟩
  have := h.nd
  unfold wires at this ⊢
  rw [List.flatMap_cons] at this
  exact (List.nodup_append.mp this).2.1
theorem GSt.off {m : Nat} {p : Nat × Nat} {st : List (Nat × Nat)} (h : GSt m (p :: st)) : p.1 ∉ wires st ∧ p.2 ∉ wires st := by
  have := h.nd
  unfold wires at this ⊢
  rw [List.flatMap_cons] at this
  have d := (List.nodup_append.mp this).2.2
  exact ⟨fun q => d p.1 (by simp) p.1 q rfl, fun q => d p.2 (by simp) p.2 q rfl⟩
theorem cross_off : ∀ (st : List (Nat × Nat)) (ws : List Nat) (w : Nat), w ∉ wires st → cross st ws w = w
  | [], _, _, _ => rfl
  | _ :: _, [], _, _ => rfl
  | p :: st, x :: ws, w, h => by
    have h1 : w ≠ p.1 ∧ w ≠ p.2 := ⟨fun z => h (z ▸ (mem_wires List.mem_cons_self).1), fun z => h (z ▸ (mem_wires List.mem_cons_self).2)⟩
    have h2 : w ∉ wires st := fun z => h (by unfold wires at z ⊢; rw [List.flatMap_cons]; exact List.mem_append_right _ z)
    show (if x = 1 ∧ (w = p.1 ∨ w = p.2) then _ else cross st ws w) = w
    rw [if_neg (by omega), cross_off st ws w h2]
theorem cross_in : ∀ (st : List (Nat × Nat)) (ws : List Nat) (w : Nat), (∀ p ∈ st, p.1 < p.2) → w ∈ wires st → cross st ws w ∈ wires st
  | [], _, _, _, h => h
  | _ :: _, [], _, _, h => h
  | p :: st, x :: ws, w, hp, h => by
    show (if x = 1 ∧ (w = p.1 ∨ w = p.2) then p.1 + p.2 - w else cross st ws w) ∈ _
    split
    · rename_i z
      rcases z.2 with q | q
      · rw [q, show p.1 + p.2 - p.1 = p.2 by omega]; exact (mem_wires List.mem_cons_self).2
      · rw [q, show p.1 + p.2 - p.2 = p.1 by omega]; exact (mem_wires List.mem_cons_self).1
    · by_cases h2 : w ∈ wires st
      · have := cross_in st ws w (fun q hq => hp q (List.mem_cons_of_mem _ hq)) h2
        unfold wires at this ⊢
        rw [List.flatMap_cons]
        exact List.mem_append_right _ this
      · rw [cross_off st ws w h2]; exact h
theorem cross_cross {m : Nat} : ∀ {st : List (Nat × Nat)} (ws : List Nat) (w : Nat), GSt m st → cross st ws (cross st ws w) = w
  | [], _, _, _ => rfl
  | _ :: _, [], _, _ => rfl
  | p :: st, x :: ws, w, h => by
    have hp := h.lt p List.mem_cons_self
    have off := h.off
    by_cases z : x = 1 ∧ (w = p.1 ∨ w = p.2)
    · have e1 : cross (p :: st) (x :: ws) w = p.1 + p.2 - w := if_pos z
      rw [e1]
      have z2 : x = 1 ∧ (p.1 + p.2 - w = p.1 ∨ p.1 + p.2 - w = p.2) := ⟨z.1, by rcases z.2 with q | q <;> omega⟩
      have e2 : cross (p :: st) (x :: ws) (p.1 + p.2 - w) = p.1 + p.2 - (p.1 + p.2 - w) := if_pos z2
      rw [e2]
      rcases z.2 with q | q <;> omega
    · have e1 : cross (p :: st) (x :: ws) w = cross st ws w := if_neg z
      rw [e1]
      have z2 : ¬ (x = 1 ∧ (cross st ws w = p.1 ∨ cross st ws w = p.2)) := by
        rintro ⟨h1, h2⟩
        by_cases hw : w ∈ wires st
        · have := cross_in st ws w (fun q hq => ((h.tail).lt q hq).1) hw
          rcases h2 with q | q
          · rw [q] at this; exact off.1 this
          · rw [q] at this; exact off.2 this
        · rw [cross_off st ws w hw] at h2
          exact z ⟨h1, h2⟩
      have e2 : cross (p :: st) (x :: ws) (cross st ws w) = cross st ws (cross st ws w) := if_neg z2
      rw [e2]
      exact cross_cross ws w h.tail
end Sw
end T_SxK
section T_SxL
set_option autoImplicit false
set_option linter.all false
set_option maxRecDepth 100000
/-! SxL: rows moved, the order led. -/
namespace Sw
open PySem
/-! ### the walk -/
end Sw
end T_SxL
section T_SxM
set_option autoImplicit false
set_option linter.all false
set_option maxRecDepth 100000
/-! SxM: the deck that counts its turns last; its stages and nets; data with long ints. -/
namespace Sw
open PySem
/-- the deck -/
def dk (a s : Int) (c : Nat) : List D := [.int a, .int s, natD c]
end Sw
end T_SxM
section T_SxN
set_option autoImplicit false
set_option linter.all false
set_option maxRecDepth 100000
/-! SxN: lemmas for proofs that walk by the goal (ev.py writes the walk's tactic text). -/
namespace Sw
open PySem
/-- an equation that is to be computed -/
structure Rf {α : Type} (a b : α) : Prop where
  h : a = b
/-- an equation whose left side is to be brought into its short form -/
structure Rd {α : Type} (a b : α) : Prop where
  h : a = b
theorem get_z {x : V} {e : Env} : Sw.get (x :: e) 0 = x := rfl
theorem get_s {x : V} {e : Env} {n : Nat} : Sw.get (x :: e) (n + 1) = Sw.get e n := rfl
theorem q_eq' {x y : D} {b : Bool} (h : eqD x y = some b) : op2 .eq x y = some (.d (.bool b)) := by simp only [op2, h, Option.map_some]
theorem q_ne' {x y : D} {b : Bool} (h : eqD x y = some b) : op2 .ne x y = some (.d (.bool (!b))) := by simp only [op2, h, Option.map_some]
/-- what operands mean -/
def vals : List Opd → Env → List V
  | [], _ => []
  | .x i :: r, e => Sw.get e i :: vals r e
  | .v w :: r, e => w :: vals r e
theorem vals_n {e : Env} : vals [] e = [] := rfl
theorem vals_x {e : Env} {i : Nat} {r : List Opd} : vals (.x i :: r) e = Sw.get e i :: vals r e := rfl
theorem vals_v {e : Env} {w : V} {r : List Opd} : vals (.v w :: r) e = w :: vals r e := rfl
theorem vals_eq : ∀ (os : List Opd) (e : Env), os.map (Sw.val · e) = vals os e
  | [], _ => rfl
  | .x i :: r, e => congrArg (Sw.get e i :: ·) (vals_eq r e)
  | .v w :: r, e => congrArg (w :: ·) (vals_eq r e)
def bk (v : V) (i : Nat) (o : V) (e : Env) : Env := if isOwn v then e.set i o else e
theorem bk_c {xs : List D} {i : Nat} {o : V} {e : Env} : bk (.c xs) i o e = e.set i o := rfl
theorem bk_d {x : D} {i : Nat} {o : V} {e : Env} : bk (.d x) i o e = e := rfl
theorem pb_x {e0 e : Env} {i : Nat} {r : List Opd} {o : V} {os : List V} : putBack e0 (.x i :: r) (o :: os) e = putBack e0 r os (bk (Sw.get e0 i) i o e) := rfl
theorem pb_v {e0 e : Env} {w : V} {r : List Opd} {o : V} {os : List V} : putBack e0 (.v w :: r) (o :: os) e = putBack e0 r os e := rfl
theorem pb_n {e0 e : Env} : putBack e0 [] [] e = e := rfl
theorem view_x {i : Nat} {e : Env} : Sw.view (.x i) e = viewV (Sw.get e i) := rfl
theorem view_v {w : V} {e : Env} : Sw.view (.v w) e = viewV w := rfl
theorem viewV_d {x : D} : viewV (.d x) = some x := rfl
theorem viewV_c {x : List D} : viewV (.c x) = some (.list x) := rfl
theorem settle_d {x : D} : Sw.settle (.d x) = some x := rfl
theorem settle_c {x : List D} : Sw.settle (.c x) = some (.list x) := rfl
theorem set_z {x y : V} {e : Env} : (x :: e).set 0 y = y :: e := rfl
theorem set_s {x y : V} {e : Env} {n : Nat} : (x :: e).set (n + 1) y = x :: e.set n y := rfl
theorem ka_n {e : Env} : killAll [] e = e := rfl
theorem ka_s {e : Env} {i : Nat} {r : List Nat} : killAll (i :: r) e = (killAll r e).set i .u := rfl
theorem re_n {o e : Env} : restore o [] e = e := rfl
theorem re_s {o e : Env} {i : Nat} {r : List Nat} : restore o (i :: r) e = (restore o r e).set i (Sw.get o i) := rfl
theorem v_nat {φ : Orc} {e : Env} {n : Nat} : evalE φ (.int (@OfNat.ofNat Int n _)) e = .ok (.d (natD (@OfNat.ofNat Nat n _)), e) := by rw [evalE]; rfl
theorem v_neg {φ : Orc} {e : Env} {n : Nat} : evalE φ (.o1 .neg (.int (@OfNat.ofNat Int n _))) e = .ok (.d (.int (-(@OfNat.ofNat Int n _))), e) := o1_eval (op_v rfl int_eval) rfl rfl
theorem v_bl {φ : Orc} {e : Env} {b : Bool} : evalE φ (.bl b) e = .ok (.d (.bool b), e) := by rw [evalE]
theorem v_non {φ : Orc} {e : Env} : evalE φ .non e = .ok (.d .none, e) := by rw [evalE]
theorem v_str {φ : Orc} {e : Env} {s : String} : evalE φ (.str s) e = .ok (.d (.str (Str.ofString s)), e) := by rw [evalE]
theorem v_var {φ : Orc} {i : Nat} {e : Env} {x : D} (h : Rd (Sw.get e i) (.d x)) : evalE φ (.var i) e = .ok (.d x, e) := by rw [evalE, h.h]
theorem v_mv {φ : Orc} {i : Nat} {e : Env} {x : D} (h : Rd (Sw.get e i) (.d x)) : evalE φ (.mv i) e = .ok (.d x, e) := by rw [evalE, h.h]
theorem v_mvc {φ : Orc} {i : Nat} {e e1 : Env} {xs : List D} (h : Rd (Sw.get e i) (.c xs)) (h2 : Rd (e.set i .u) e1) : evalE φ (.mv i) e = .ok (.c xs, e1) := by rw [evalE, h.h, ← h2.h]
theorem v_fr {φ : Orc} {i : Nat} {e e1 : Env} {xs : List D} (h : Rd (Sw.get e i) (.c xs)) (h2 : Rd (e.set i (.d (.list xs))) e1) : evalE φ (.var i) e = .ok (.d (.list xs), e1) := by rw [evalE, h.h, ← h2.h]
theorem v_opx {r : Env → R (V × Env)} {i : Nat} {e : Env} (h : Rf (isU (Sw.get e i)) false) : opW r (.var i) e = .ok (.x i, e) := op_var h.h
theorem v_opv {a : E} {φ : Orc} {e e1 : Env} {w : V} (ha : Rf (notVar a) true) (h : evalE φ a e = .ok (w, e1)) : opW (evalE φ a) a e = .ok (.v w, e1) := op_v ha.h h
theorem v_da {φ : Orc} {a : E} {e e1 : Env} {w : V} {d : D} (h : evalE φ a e = .ok (w, e1)) (hs : Rd (Sw.settle w) (some d)) : daW (evalE φ a) e = .ok (d, e1) := da_of h hs.h
theorem v_o1 {φ : Orc} {o : O1} {a : E} {e e1 : Env} {p : Opd} {x : D} {w : V} (h : opW (evalE φ a) a e = .ok (p, e1)) (hv : Rd (Sw.view p e1) (some x)) (ho : op1 o x = some w) : evalE φ (.o1 o a) e = .ok (w, e1) := o1_eval h hv.h ho
theorem v_o2 {φ : Orc} {o : O2} {a b : E} {e e1 e2 : Env} {p q : Opd} {x y : D} {w : V} (h : opW (evalE φ a) a e = .ok (p, e1)) (h2 : opW (evalE φ b) b e1 = .ok (q, e2)) (hv : Rd (Sw.view p e2) (some x)) (hv2 : Rd (Sw.view q e2) (some y)) (ho : op2 o x y = some w) : evalE φ (.o2 o a b) e = .ok (w, e2) := o2_eval h h2 hv.h hv2.h ho
theorem v_lst {φ : Orc} {es : Es} {e e1 : Env} {ds : List D} (h : evalDs φ es e = .ok (ds, e1)) (hl : Rf (Nat.ble ds.length 1000) true) : evalE φ (.lst es) e = .ok (.c ds, e1) := lst_ev h (Nat.le_of_ble_eq_true hl.h)
theorem v_tup {φ : Orc} {es : Es} {e e1 : Env} {ds : List D} (h : evalDs φ es e = .ok (ds, e1)) (hl : Rf (Nat.ble ds.length 1000) true) : evalE φ (.tup es) e = .ok (.d (.tuple ds), e1) := tup_ev h (Nat.le_of_ble_eq_true hl.h)
theorem v_call {φ : Orc} {f : String} {as : Es} {e e1 e2 : Env} {os : List Opd} {args outs : List V} {w : V} (h : evalOs φ as e = .ok (os, e1)) (hok : Rf (apart e1 os && !(os.any fun o => isU (Sw.val o e1))) true) (hm : Rd (vals os e1) args) (hc : φ f args = .ok (w, outs)) (hl : Rf (okL e1 os outs) true) (hp : Rd (putBack e1 os outs e1) e2) : evalE φ (.call f as) e = .ok (w, e2) :=
  call_ev h hok.h ((vals_eq os e1).trans hm.h) hc hl.h hp.h
theorem v_app {φ : Orc} {i : Nat} {a : E} {e e1 e2 : Env} {xs : List D} {x : D} (hc : Rf (isC (Sw.get e i)) true) (h : daW (evalE φ a) e = .ok (x, e1)) (hx : Rd (Sw.get e1 i) (.c xs)) (hl : xs.length < 1000000) (h2 : Rd (e1.set i (.c (xs ++ [x]))) e2) : evalE φ (.app i a) e = .ok (.d .none, e2) := by
  rw [← h2.h]; exact app_ev hc.h h hx.h hl
theorem v_not {φ : Orc} {a : Te} {e e1 : Env} {b : Bool} (h : evalT φ a e = .ok (b, e1)) : evalE φ (.not a) e = .ok (.d (.bool (!b)), e1) := by
  rw [evalE]; exact bind2 h
theorem v_te {φ : Orc} {a : E} {e e1 : Env} {b : Bool} (ha : Rf (notVar a) true) (h : evalE φ a e = .ok (.d (.bool b), e1)) : evalT φ (.e a) e = .ok (b, e1) := t_e h ha.h
/-- both sides of `or`/`and` leave the frame -/
theorem v_tor {φ : Orc} {a b : Te} {e : Env} {x y : Bool} (h : evalT φ a e = .ok (x, e)) (h2 : evalT φ b e = .ok (y, e)) : evalT φ (.or a b) e = .ok (x || y, e) := t_or h (fun _ => h2) (fun _ => rfl)
theorem v_tand {φ : Orc} {a b : Te} {e : Env} {x y : Bool} (h : evalT φ a e = .ok (x, e)) (h2 : evalT φ b e = .ok (y, e)) : evalT φ (.and a b) e = .ok (x && y, e) := t_and h (fun _ => h2) (fun _ => rfl)
theorem v_tnot {φ : Orc} {a : Te} {e e1 : Env} {x : Bool} (h : evalT φ a e = .ok (x, e1)) : evalT φ (.not a) e = .ok (!x, e1) := t_not h
theorem v_slice {φ : Orc} {a : E} {lo hi : Eo} {e e1 e2 e3 : Env} {o : Opd} {l h : Option Int} {x : D} {w : V} (ha : opW (evalE φ a) a e = .ok (o, e1)) (hl : evalPart φ lo e1 = .ok (l, e2)) (hh : evalPart φ hi e2 = .ok (h, e3)) (hv : Rd (Sw.view o e3) (some x)) (hw : sliceD x l h = some w) : evalE φ (.slice a lo hi) e = .ok (w, e3) := slice_ev ha hl hh hv.h hw
theorem v_yesn {φ : Orc} {a : E} {e e1 : Env} {i : Nat} (h : daW (evalE φ a) e = .ok (natD i, e1)) : evalPart φ (.yes a) e = .ok (some (i : Int), e1) := part_yes h
theorem v_r1 {φ : Orc} {a : E} {e e1 : Env} {m : Nat} (h : daW (evalE φ a) e = .ok (natD m, e1)) (hm : m ≤ 100000) : evalSrc φ (.rng1 a) e = .ok (natsD (List.range m), e1) := src_n h hm
theorem v_ofl {φ : Orc} {s : Src} {e e1 : Env} {xs : List D} (h : evalSrc φ s e = .ok (xs, e1)) : evalE φ (.ofSrc false s) e = .ok (.c xs, e1) := ofL_eval h
theorem v_r1m {φ : Orc} {a : E} {e e1 : Env} {m : Nat} (h : daW (evalE φ a) e = .ok (natD m, e1)) (hm : m ≤ 100000) : evalSrc φ (.rng1 a) e = .ok ((List.range m).map natD, e1) := src_n h hm
theorem v_enT {φ : Orc} {a : E} {e e1 : Env} {xs : List D} (h : daW (evalE φ a) e = .ok (.tuple xs, e1)) : evalSrc φ (.enum a) e = .ok (enumFrom 0 xs, e1) := src_en h rfl
theorem v_enL {φ : Orc} {a : E} {e e1 : Env} {xs : List D} (h : daW (evalE φ a) e = .ok (.list xs, e1)) : evalSrc φ (.enum a) e = .ok (enumFrom 0 xs, e1) := src_en h rfl
theorem v_yesneg {φ : Orc} {e : Env} {n : Nat} : evalPart φ (.yes (.o1 .neg (.int (@OfNat.ofNat Int n _)))) e = .ok (some (-(@OfNat.ofNat Int n _)), e) := part_yes (da_of v_neg rfl)
theorem q_nes {s : Str} : op2 .ne (.str s) (.str s) = some (.d (.bool false)) := q_ne' (eqD_str s)
theorem q_eqs {s : Str} : op2 .eq (.str s) (.str s) = some (.d (.bool true)) := q_eq' (eqD_str s)
theorem v_seq {φ : Orc} {a : E} {e e1 : Env} {d : D} {xs : List D} (h : daW (evalE φ a) e = .ok (d, e1)) (hs : Rd (seqOf d) (some xs)) : evalSrc φ (.seq a) e = .ok (xs, e1) := src_sq h hs.h
theorem seqOf_t {xs : List D} : seqOf (.tuple xs) = some xs := rfl
theorem seqOf_l {xs : List D} : seqOf (.list xs) = some xs := rfl
theorem v_chain {φ : Orc} {o o2 : O2} {a b c : E} {e : Env} {p q r : Opd} {x y z : D} {b1 b2 : Bool} (ha : opW (evalE φ a) a e = .ok (p, e)) (hb : opW (evalE φ b) b e = .ok (q, e)) (hv : Rd (Sw.view p e) (some x)) (hv2 : Rd (Sw.view q e) (some y)) (h1 : op2 o x y = some (.d (.bool b1)))
    (hc : opW (evalE φ c) c e = .ok (r, e)) (hvr : Rd (Sw.view r e) (some z)) (h2 : op2 o2 y z = some (.d (.bool b2))) : evalE φ (.chain o o2 a b c) e = .ok (.d (.bool (b1 && b2)), e) := by
  rw [evalE]
  refine (bind2 ha).trans ((bind2 hb).trans ((bind2 (a := x) (by rw [hv.h]; rfl)).trans ((bind2 (a := y) (by rw [hv2.h]; rfl)).trans ?_)))
  simp only [h1]
  cases b1 with
  | false => rfl
  | true =>
    show (opW (evalE φ c) c e).bind _ = _
    refine (bind2 hc).trans ((bind2 (a := y) (by rw [hv2.h]; rfl)).trans ((bind2 (a := z) (by rw [hvr.h]; rfl)).trans ?_))
    show ret1 (op2 o2 y z) e = _
    rw [h2]; rfl
theorem v_oft {φ : Orc} {s : Src} {e e1 : Env} {xs : List D} (h : evalSrc φ s e = .ok (xs, e1)) : evalE φ (.ofSrc true s) e = .ok (.d (.tuple xs), e1) := ofT_eval h
theorem q_tupN {l : List Nat} : op1 .tupleOf (.list (natsD l)) = some (.d (tupN l)) := rfl
theorem v_oftr {φ : Orc} {a : E} {e e1 : Env} {m : Nat} (h : daW (evalE φ a) e = .ok (natD m, e1)) (hm : m ≤ 100000) : evalE φ (.ofSrc true (.rng1 a)) e = .ok (.d (tupN (List.range m)), e1) := ofT_eval (src_n h hm)
theorem q_tupU {l : List Nat} : op1 .tupleOf (tupN l) = some (.d (tupN l)) := rfl
theorem q_lstN {l : List Nat} : op1 .listOf (.list (natsD l)) = some (.c (natsD l)) := rfl
theorem q_lstU {l : List Nat} : op1 .listOf (tupN l) = some (.c (natsD l)) := rfl
/-! statements whose next frame is brought into its short form -/
theorem u_asg {P : Po} {φ : Orc} {i : Nat} {a : E} {r : Ss} {e e1 e2 : Env} {w : V} (h : evalE φ a e = .ok (w, e1)) (h2 : Rd (e1.set i w) e2) (k : Wp P (Sw.execs φ r e2)) : Wp P (Sw.execs φ (.cons (.asg i a) r) e) := wp_asg h (by rw [h2.h]; exact k)
theorem u_asgT {P : Po} {φ : Orc} {t : Sw.T} {a : E} {r : Ss} {e e1 e2 : Env} {x : D} (h : daW (evalE φ a) e = .ok (x, e1)) (ht : Rd (asgT t x e1) (some e2)) (k : Wp P (Sw.execs φ r e2)) : Wp P (Sw.execs φ (.cons (.asgT t a) r) e) := wp_asgT h ht.h k
/-! operators -/
theorem q_lenL {xs : List D} : op1 .len (.list xs) = some (.d (natD xs.length)) := rfl
theorem q_lenT {xs : List D} : op1 .len (.tuple xs) = some (.d (natD xs.length)) := rfl
theorem q_lenN {l : List Nat} : op1 .len (.list (natsD l)) = some (.d (natD l.length)) := by show some (V.d (natD (natsD l).length)) = _; rw [natsD_len]
theorem q_lenU {l : List Nat} : op1 .len (tupN l) = some (.d (natD l.length)) := by show some (V.d (natD (natsD l).length)) = _; rw [natsD_len]
theorem q_lenM {α : Type} {f : α → D} {l : List α} : op1 .len (.list (l.map f)) = some (.d (natD l.length)) := by show some (V.d (natD (l.map f).length)) = _; rw [List.length_map]
theorem q_lenMT {α : Type} {f : α → D} {l : List α} : op1 .len (.tuple (l.map f)) = some (.d (natD l.length)) := by show some (V.d (natD (l.map f).length)) = _; rw [List.length_map]
theorem q_lenS {st : List (Nat × Nat)} : op1 .len (stP st) = some (.d (natD st.length)) := q_lenMT
theorem q_tupL {xs : List D} : op1 .tupleOf (.list xs) = some (.d (.tuple xs)) := rfl
theorem q_tupT {xs : List D} : op1 .tupleOf (.tuple xs) = some (.d (.tuple xs)) := rfl
theorem q_lstL {xs : List D} : op1 .listOf (.list xs) = some (.c xs) := rfl
theorem q_lstT {xs : List D} : op1 .listOf (.tuple xs) = some (.c xs) := rfl
theorem q_repr {x : D} (h : okRepr x = true) : op1 .repr x = some (.d (.str x.shown)) := by
  show (if okRepr x then some (V.d (.str x.shown)) else none) = _
  rw [h]; rfl
theorem q_int {b : Bool} : op1 .intOf (.bool b) = some (.d (natD (if b then 1 else 0))) := by cases b <;> rfl
theorem q_idx2 {a b i : Nat} (h : i < 2) : op2 .idx (.list [natD a, natD b]) (natD i) = some (.d (natD ([a, b].getD i 0))) := idx_natL (q := [a, b]) h
theorem q_idx3 {a b c i : Nat} (h : i < 3) : op2 .idx (.list [natD a, natD b, natD c]) (natD i) = some (.d (natD ([a, b, c].getD i 0))) := idx_natL (q := [a, b, c]) h
theorem q_idx4 {a b c d i : Nat} (h : i < 4) : op2 .idx (.list [natD a, natD b, natD c, natD d]) (natD i) = some (.d (natD ([a, b, c, d].getD i 0))) := idx_natL (q := [a, b, c, d]) h
theorem q_idx5 {a b c d f i : Nat} (h : i < 5) : op2 .idx (.list [natD a, natD b, natD c, natD d, natD f]) (natD i) = some (.d (natD ([a, b, c, d, f].getD i 0))) := idx_natL (q := [a, b, c, d, f]) h
theorem q_idx6 {a b c d f g i : Nat} (h : i < 6) : op2 .idx (.list [natD a, natD b, natD c, natD d, natD f, natD g]) (natD i) = some (.d (natD ([a, b, c, d, f, g].getD i 0))) := idx_natL (q := [a, b, c, d, f, g]) h
theorem q_idx7 {a b c d f g k i : Nat} (h : i < 7) : op2 .idx (.list [natD a, natD b, natD c, natD d, natD f, natD g, natD k]) (natD i) = some (.d (natD ([a, b, c, d, f, g, k].getD i 0))) := idx_natL (q := [a, b, c, d, f, g, k]) h
theorem q_net0 {m : Nat} {ss : List (List (Nat × Nat))} : op2 .idx (netP m ss) (natD 0) = some (.d (natD m)) := idx_tup (i := 0) rfl
theorem q_net1 {m : Nat} {ss : List (List (Nat × Nat))} : op2 .idx (netP m ss) (natD 1) = some (.d (.tuple (ss.map stP))) := idx_tup (i := 1) rfl
theorem q_isT {xs : List D} : op1 (.isi "tuple") (.tuple xs) = some (.d (.bool true)) := rfl
/-- a part of a list of lists -/
def row (wss : List (List Nat)) (i : Nat) : List Nat := wss.getD i []
/-- a net of few wires, as data -/
theorem sm_net {m : Nat} {ss : List (List (Nat × Nat))} (hm : m < 1000000) (hl : ss.length ≤ 100) (hs : ∀ st ∈ ss, st.length ≤ 100 ∧ ∀ p ∈ st, p.1 < 1000000 ∧ p.2 < 1000000) : Sm 5 1000000 (netP m ss) := by
  have k1 : Sm 4 450000 (.tuple (ss.map stP)) := (sm_tup (d := 3) (w := 4400) fun x hx => by
    obtain ⟨st, hst, rfl⟩ := List.mem_map.mp hx
    obtain ⟨h1, h2⟩ := hs st hst
    refine (sm_tup (d := 2) (w := 42) fun y hy => ?_).mono (by decide) (by rw [List.length_map]; omega)
    obtain ⟨p, hp, rfl⟩ := List.mem_map.mp hy
    exact sm_pr (h2 p hp).1 (h2 p hp).2).mono (by decide) (by rw [List.length_map]; omega)
  refine (sm_tup (d := 4) (w := 450000) (xs := [natD m, .tuple (ss.map stP)]) fun x hx => ?_).mono (by decide) (by simp)
  simp only [List.mem_cons, List.not_mem_nil, or_false] at hx
  rcases hx with rfl | rfl
  · exact (sm_nat hm).mono (by decide) (by decide)
  · exact k1
end Sw
end T_SxN
section T_SxO
set_option autoImplicit false
set_option linter.all false
set_option maxRecDepth 100000
set_option maxHeartbeats 2000000
/-! SxO: the program's own ways; nets behind, beside and about one another. -/
namespace Sw
open PySem
theorem fit_app {ss ts : List (List (Nat × Nat))} {wss vss : List (List Nat)} (h : Fit ss wss) (k : Fit ts vss) : Fit (ss ++ ts) (wss ++ vss) := by
  induction h with
  | nil => exact k
  | cons h1 h2 _ ih => exact .cons h1 h2 ih
theorem sm_nats {l : List Nat} (h : ∀ x ∈ l, x < 1000000) : Sm 2 (21 * l.length) (tupN l) := (sm_tup (d := 1) (w := 20) fun x hx => by
  obtain ⟨k, hk, rfl⟩ := List.mem_map.mp hx
  exact sm_nat (h k hk)).mono (by decide) (by rw [natsD_len]; exact Nat.le_refl _)
theorem sm_set {wss : List (List Nat)} (hl : wss.length ≤ 100) (h : ∀ ws ∈ wss, ws.length ≤ 100 ∧ ∀ w ∈ ws, w < 1000000) : Sm 3 220000 (setP wss) := (sm_tup (d := 2) (w := 2100) fun x hx => by
  obtain ⟨ws, hws, rfl⟩ := List.mem_map.mp hx
  exact (sm_nats (h ws hws).2).mono (by decide) (by have := (h ws hws).1; omega)).mono (by decide) (by rw [List.length_map]; omega)
end Sw
end T_SxO
section T_SxP
set_option autoImplicit false
set_option linter.all false
set_option maxRecDepth 100000
set_option maxHeartbeats 2000000
/-! SxP: nets beside one another. -/
namespace Sw
open PySem
abbrev St := List (Nat × Nat)
/-! ### beside -/
def sh (d : Nat) (st : St) : St := st.map fun p => (p.1 + d, p.2 + d)
theorem rng2 {a b : Nat} (h : a ≤ b) (hb : b ≤ 100000) : range2 (natD a) (natD b) = some (natsD ((List.range (b - a)).map (a + ·))) := by
  have e : ((b : Int) - (a : Int)).toNat = b - a := by omega
  have r : rgOk (a : Int) (b : Int) = true := by unfold rgOk; exact decide_eq_true (by omega)
  have l : decide (b - a ≤ lim) = true := decide_eq_true (by unfold lim; omega)
  have q : rangeD (a : Int) (b - a) 1 = natsD ((List.range (b - a)).map (a + ·)) := by
    unfold rangeD natsD
    rw [List.map_map]
    refine List.map_congr_left fun i _ => ?_
    show PyData.int ((a : Int) + (i : Int) * 1) = PyData.int (((a + i : Nat)) : Int)
    rw [Int.mul_one, Int.natCast_add]
  simp only [range2, natD, e, r, l, Bool.and_self, if_true, q]
theorem lastW (ss : List St) (wss : List (List Nat)) (w : Nat) : op2 .idx (tupN (w :: pathT ss wss w)) (.int (-1)) = some (.d (natD (endp ss wss w))) := by
  obtain ⟨pre, h⟩ := path_last ss wss w
  exact idx_last (by rw [← h]; rfl)
theorem fit_rows {ss : List St} {wss : List (List Nat)} {m : Nat} (hf : Fit ss wss) (hs : ∀ st ∈ ss, GSt m st) (hm : m ≤ 100) : ∀ ws ∈ wss, ws.length ≤ 50 ∧ ∀ w ∈ ws, w < 1000000 := by
  induction hf with
  | nil => intro _ h; cases h
  | cons h1 h2 _ ih =>
    intro ws h
    rcases List.mem_cons.mp h with z | z
    · rw [z]
      have := (hs _ List.mem_cons_self).len
      exact ⟨by omega, fun w hw => by have := h2 w hw; omega⟩
    · exact ih (fun t ht => hs t (List.mem_cons_of_mem _ ht)) ws z
end Sw
end T_SxP
section T_SxQ
set_option autoImplicit false
set_option linter.all false
set_option maxRecDepth 100000
set_option maxHeartbeats 2000000
/-! SxQ: rows of whole numbers set by comparing. -/
namespace Sw
open PySem
/-! ### data with long ints -/
structure Sg (d w : Nat) (x : D) : Prop where
  sh : x.showable = true
  dp : x.depth ≤ d
  cl : x.canLay0 = true
  wt : x.weight ≤ w
  is : x.intsShort 60 = true
theorem Sg.mono {d w d' w' : Nat} {x : D} (h : Sg d w x) (hd : d ≤ d') (hw : w ≤ w') : Sg d' w' x := ⟨h.sh, Nat.le_trans h.dp hd, h.cl, Nat.le_trans h.wt hw, h.is⟩
theorem Sg.repr {d w : Nat} {x : D} (h : Sg d w x) (hd : d ≤ 40) (hw : w ≤ 20000) : okRepr x = true := by
  have := h.dp
  have := h.wt
  unfold okRepr
  rw [h.sh, h.cl, h.is]
  simp only [Bool.true_and, Bool.and_true, Bool.and_eq_true, Bool.or_eq_true]
  exact ⟨decide_eq_true (by omega), .inr (decide_eq_true (by omega))⟩
/-! ### compared -/
def cl (L : List Int) (p : Nat × Nat) : List Int := if L.getD p.2 0 < L.getD p.1 0 then (L.set p.1 (L.getD p.2 0)).set p.2 (L.getD p.1 0) else L
end Sw
end T_SxQ
section T_SxR
set_option autoImplicit false
set_option linter.all false
set_option maxRecDepth 100000
set_option maxHeartbeats 2000000
/-! SxR: rows of 0 and 1 tell of all rows; sorting by comparing. -/
namespace Sw
open PySem
/-! ### as many of each -/
/-! ### sorted -/
/-! ### rows of 0 and 1 -/
/-! ### as data -/
/-! ### two halves side by side -/
end Sw
end T_SxR
section T_SxS
set_option autoImplicit false
set_option linter.all false
set_option maxRecDepth 100000
set_option maxHeartbeats 2000000
/-! SxS: orders led, as laws tell them; rows of numbers by their text; sorters. -/
namespace Sw
open PySem
/-! ### rows of small numbers by their text -/
/-! ### what comparing sets leads the row so -/
end Sw
end T_SxS
section T_SxT
set_option autoImplicit false
set_option linter.all false
set_option maxRecDepth 100000
set_option maxHeartbeats 2000000
/-! SxT: nets that sort. -/
namespace Sw
open PySem
/-! ### sorted by neighbours -/
end Sw
end T_SxT
section T_SxU
set_option autoImplicit false
set_option linter.all false
set_option maxRecDepth 100000
set_option maxHeartbeats 2000000
/-! SxU: the group of laws about rings (k20 to k33, k90, k91): its deck, its orders. -/
namespace Sw
open PySem
/-! ### orders of every kind -/
end Sw
end T_SxU
section T_SxV
set_option autoImplicit false
set_option linter.all false
set_option maxRecDepth 100000
set_option maxHeartbeats 2000000
/-! SxV: dicts in plain frames; the rings of an order (k20 to k33, k90, k91). -/
namespace Sw
open PySem
/-! ### dicts -/
theorem dGet_cons {p : Int × D} {r : List (Int × D)} {j : Int} : dGet (p :: r) j = if p.1 = j then some p.2 else dGet r j := rfl
theorem dGet_map (k : Int) (x : D) (j : Int) : ∀ l : List (Int × D), dGet (l.map fun p => if p.1 = k then (p.1, x) else p) j = if j = k then (dGet l j).map fun _ => x else dGet l j
  | [] => by simp [dGet]
  | p :: r => by
    rw [List.map_cons, dGet_cons, dGet_cons, dGet_map k x j r]
    by_cases h : p.1 = k
    · rw [if_pos h]
      by_cases h2 : p.1 = j
      · rw [if_pos h2, if_pos h2, if_pos (by rw [← h2, h])]; rfl
      · rw [if_neg h2, if_neg h2]
    · rw [if_neg h]
      by_cases h2 : p.1 = j
      · rw [if_pos h2, if_pos h2, if_neg (fun z => h (by rw [h2, z]))]
      · rw [if_neg h2, if_neg h2]
theorem dGet_snoc (k : Int) (x : D) (j : Int) : ∀ l : List (Int × D), dGet l k = none → dGet (l ++ [(k, x)]) j = if j = k then some x else dGet l j
  | [], _ => by
    show (if k = j then some x else none) = _
    by_cases h : k = j
    · rw [if_pos h, if_pos h.symm]
    · rw [if_neg h, if_neg (fun z => h z.symm)]; rfl
  | p :: r, h => by
    rw [dGet_cons] at h
    split at h
    · cases h
    · rename_i hp
      rw [List.cons_append, dGet_cons, dGet_cons, dGet_snoc k x j r h]
      by_cases h2 : p.1 = j
      · rw [if_pos h2, if_pos h2, if_neg (fun z => hp (by rw [h2, z]))]
      · rw [if_neg h2, if_neg h2]
theorem dGet_put (l : List (Int × D)) (k j : Int) (x : D) : dGet (dPut l k x) j = if j = k then some x else dGet l j := by
  unfold dPut
  split
  · rename_i h
    rw [dGet_map]
    by_cases e : j = k
    · subst e
      rw [if_pos rfl, if_pos rfl]
      obtain ⟨y, hy⟩ := Option.isSome_iff_exists.mp h
      rw [hy]; rfl
    · rw [if_neg e, if_neg e]
  · rename_i h
    exact dGet_snoc k x j l (by simpa using h)
theorem dPut_len (l : List (Int × D)) (k : Int) (x : D) : (dPut l k x).length ≤ l.length + 1 := by
  unfold dPut
  split <;> simp
theorem dMerge_len : ∀ (more l : List (Int × D)), (dMerge l more).length ≤ l.length + more.length
  | [], l => by show l.length ≤ _; omega
  | p :: r, l => by
    have h1 := dMerge_len r (dPut l p.1 p.2)
    have h2 := dPut_len l p.1 p.2
    show (dMerge (dPut l p.1 p.2) r).length ≤ _
    rw [List.length_cons]; omega
theorem dMerge_some (j : Int) : ∀ (more l : List (Int × D)), (dGet (dMerge l more) j).isSome = ((dGet l j).isSome || (dGet more j).isSome)
  | [], l => by show (dGet l j).isSome = ((dGet l j).isSome || false); rw [Bool.or_false]
  | p :: r, l => by
    show (dGet (dMerge (dPut l p.1 p.2) r) j).isSome = _
    rw [dMerge_some j r, dGet_put, dGet_cons]
    by_cases h : j = p.1
    · rw [if_pos h, if_pos h.symm]; simp
    · rw [if_neg h, if_neg (fun z => h z.symm)]
/-- the keys are these -/
structure Ks (kv : List (Int × D)) (S : List Nat) : Prop where
  mem : ∀ k : Nat, (dGet kv (k : Int)).isSome = decide (k ∈ S)
  len : kv.length ≤ S.length
theorem Ks.nil : Ks [] [] := ⟨fun k => by simp [dGet], Nat.le_refl _⟩
theorem Ks.put {kv : List (Int × D)} {S : List Nat} (h : Ks kv S) (k : Nat) (x : D) : Ks (dPut kv (k : Int) x) (S ++ [k]) := by
  refine ⟨fun j => ?_, ?_⟩
  · rw [dGet_put]
    by_cases e : j = k
    · subst e; simp
    · rw [if_neg (by omega), h.mem]
      simp [e]
  · have := dPut_len kv (k : Int) x
    have := h.len
    simp only [List.length_append, List.length_cons, List.length_nil]
    omega
theorem Ks.merge {kv more : List (Int × D)} {S L : List Nat} (h : Ks kv S) (g : Ks more L) : Ks (dMerge kv more) (S ++ L) := by
  refine ⟨fun j => ?_, ?_⟩
  · rw [dMerge_some, h.mem, g.mem]
    simp
  · have := dMerge_len more kv
    have := h.len
    have := g.len
    simp only [List.length_append]
    omega
/-! ### two involutions without fixed points -/
structure Dih (m : Nat) (A M : Nat → Nat) : Prop where
  al : ∀ x < m, A x < m
  aa : ∀ x < m, A (A x) = x
  an : ∀ x < m, A x ≠ x
  ml : ∀ x < m, M x < m
  mm : ∀ x < m, M (M x) = x
  mn : ∀ x < m, M x ≠ x
def itr (A M : Nat → Nat) : Nat → Nat → Nat
  | 0, w => w
  | n + 1, w => M (A (itr A M n w))
def rg (A M : Nat → Nat) : Nat → Nat → List Nat
  | 0, _ => []
  | n + 1, f => rg A M n f ++ [itr A M n f, A (itr A M n f)]
section
variable {m : Nat} {A M : Nat → Nat}
theorem itr_add (a b w : Nat) : itr A M (a + b) w = itr A M a (itr A M b w) := by
  induction a with
  | zero => rw [Nat.zero_add]; rfl
  | succ a ih => rw [show a + 1 + b = (a + b) + 1 by omega]; show M (A (itr A M (a + b) w)) = _; rw [ih]; rfl
theorem Dih.lt (d : Dih m A M) {w : Nat} (h : w < m) : ∀ n, itr A M n w < m
  | 0 => h
  | n + 1 => d.ml _ (d.al _ (d.lt h n))
theorem Dih.step_inj (d : Dih m A M) {x y : Nat} (hx : x < m) (hy : y < m) (h : M (A x) = M (A y)) : x = y := by
  have h1 : A x = A y := by rw [← d.mm _ (d.al x hx), h, d.mm _ (d.al y hy)]
  rw [← d.aa x hx, h1, d.aa y hy]
theorem Dih.inj (d : Dih m A M) : ∀ (n : Nat) {x y : Nat}, x < m → y < m → itr A M n x = itr A M n y → x = y
  | 0, _, _, _, _, h => h
  | n + 1, _, _, hx, hy, h => d.inj n hx hy (d.step_inj (d.lt hx n) (d.lt hy n) h)
theorem Dih.noM (d : Dih m A M) : ∀ (n : Nat) {w : Nat}, w < m → M w ≠ itr A M n w
  | 0, w, hw, h => d.mn w hw h
  | 1, w, hw, h => by
    have h : M w = M (A w) := h
    have : w = A w := (d.mm w hw).symm.trans ((congrArg M h).trans (d.mm _ (d.al w hw)))
    exact d.an w hw this.symm
  | n + 2, w, hw, h => by
    have hu : M (A w) < m := d.ml _ (d.al w hw)
    have e : itr A M (n + 2) w = M (A (itr A M n (M (A w)))) := by
      show M (A (itr A M (n + 1) w)) = _
      rw [itr_add n 1 w]; rfl
    rw [e] at h
    have l := d.lt hu n
    have h1 : w = A (itr A M n (M (A w))) := (d.mm w hw).symm.trans ((congrArg M h).trans (d.mm _ (d.al _ l)))
    have h2 : A w = itr A M n (M (A w)) := (congrArg A h1).trans (d.aa _ l)
    exact d.noM n hu ((d.mm _ (d.al w hw)).trans h2)
theorem Dih.noA (d : Dih m A M) : ∀ (n : Nat) {w : Nat}, w < m → A w ≠ itr A M n w
  | 0, w, hw, h => d.an w hw h
  | n + 1, w, hw, h => by
    have hu : M (A w) < m := d.ml _ (d.al w hw)
    exact d.noM n hu ((d.mm _ (d.al w hw)).trans (h.trans (itr_add n 1 w)))
/-- the number of steps till a wire comes again -/
structure Per (A M : Nat → Nat) (f k : Nat) : Prop where
  pos : 1 ≤ k
  back : itr A M k f = f
  first : ∀ j, 1 ≤ j → j < k → itr A M j f ≠ f
theorem Dih.ret (d : Dih m A M) {f : Nat} (hf : f < m) : ∃ k, 1 ≤ k ∧ k ≤ m ∧ itr A M k f = f := by
  refine Classical.byContradiction fun hn => ?_
  have nd : ((List.range (m + 1)).map fun i => itr A M i f).Nodup := by
    refine nodup_map List.nodup_range fun x hx y hy e => ?_
    have hx : x < m + 1 := by simpa using hx
    have hy : y < m + 1 := by simpa using hy
    refine Classical.byContradiction fun hxy => ?_
    rcases Nat.lt_or_gt_of_ne hxy with z | z
    · refine hn ⟨y - x, by omega, by omega, ?_⟩
      refine (d.inj x (d.lt hf (y - x)) hf ?_)
      rw [← itr_add, show x + (y - x) = y by omega]; exact e.symm
    · refine hn ⟨x - y, by omega, by omega, ?_⟩
      refine (d.inj y (d.lt hf (x - y)) hf ?_)
      rw [← itr_add, show y + (x - y) = x by omega]; exact e
  have := nodup_le (r := List.range m) nd fun x hx => by
    obtain ⟨i, _, rfl⟩ := List.mem_map.mp hx
    simpa using d.lt hf i
  simp only [List.length_map, List.length_range] at this
  omega
theorem mem_rg {x f : Nat} : ∀ {k : Nat}, x ∈ rg A M k f ↔ ∃ j < k, x = itr A M j f ∨ x = A (itr A M j f)
  | 0 => by simp [rg]
  | k + 1 => by
    unfold rg
    rw [List.mem_append, mem_rg (k := k)]
    constructor
    · rintro (⟨j, h1, h2⟩ | h)
      · exact ⟨j, by omega, h2⟩
      · simp at h
        exact ⟨k, by omega, h⟩
    · rintro ⟨j, h1, h2⟩
      by_cases e : j = k
      · subst e; exact .inr (by simpa using h2)
      · exact .inl ⟨j, by omega, h2⟩
/-- a wire on the ring's way is met there for the first time -/
theorem Dih.new (d : Dih m A M) {f k j : Nat} (hf : f < m) (p : Per A M f k) (hj : j < k) : itr A M j f ∉ rg A M j f := fun h => by
  obtain ⟨i, hi, h | h⟩ := mem_rg.mp h
  · refine p.first (j - i) (by omega) (by omega) (d.inj i (d.lt hf _) hf ?_)
    rw [← itr_add, show i + (j - i) = j by omega]; exact h
  · refine d.noA (j - i) (d.lt hf i) ?_
    rw [← itr_add, show j - i + i = j by omega]; exact h.symm
end
/-! ### of an order -/
def mt (w : Nat) : Nat := w + 1 - 2 * (w % 2)
def ap (p : List Nat) (w : Nat) : Nat := p.idxOf (mt (p.getD w 0))
/-! ### the program's rings -/
end Sw
end T_SxV
section T_SxW
set_option autoImplicit false
set_option linter.all false
set_option maxRecDepth 100000
set_option maxHeartbeats 2000000
/-! SxW: sides and halves (k21 to k33, k90, k91). -/
namespace Sw
open PySem
/-! ### sides -/
section
variable {m : Nat} {A M : Nat → Nat}
/-- closed under both -/
structure Cb (m : Nat) (A M : Nat → Nat) (S : List Nat) : Prop where
  a : ∀ x ∈ S, A x ∈ S
  b : ∀ x ∈ S, M x ∈ S
end
/-- sides: one for each wire, mates and things that go to mates unlike -/
structure Sides (m : Nat) (p s : List Nat) : Prop where
  len : s.length = m
  two : ∀ x < m, s.getD x 0 < 2
  um : ∀ x < m, s.getD (mt x) 0 ≠ s.getD x 0
  ua : ∀ x < m, s.getD (ap p x) 0 ≠ s.getD x 0
/-! ### sides told -/
/-! ### halves -/
/-- the wire of the pair i that a half takes -/
def chW (s : List Nat) (c i : Nat) : Nat := 2 * i + (if s.getD (2 * i) 0 ≠ c then 1 else 0)
def halfF (m : Nat) (p s : List Nat) (c : Nat) : List Nat := (List.range (m / 2)).map fun i => p.getD (chW s c i) 0 / 2
end Sw
end T_SxW
section T_SxX
set_option autoImplicit false
set_option linter.all false
set_option maxRecDepth 100000
set_option maxHeartbeats 2000000
/-! SxX: part orders, idle wires filled (k29 to k33, k91). -/
namespace Sw
open PySem
/-! ### part orders -/
abbrev Pt := List (Option Nat)
/-- no wire twice, each less than so many -/
structure Part (l : Pt) : Prop where
  nd : (l.filterMap id).Nodup
  lt : ∀ x ∈ l.filterMap id, x < l.length
  le : l.length ≤ 32
/-- idle wires filled -/
def fl : Pt → List Nat → List Nat
  | [], _ => []
  | some x :: r, L => x :: fl r L
  | none :: r, L => L.headD 0 :: fl r L.tail
/-! ### the law's own filling -/
theorem kept {os : Pt} {p : List Nat} {m : Nat} (ip : IsP m p) (hm : m ≤ 32) (hl : os.length = p.length) (hs : (os.filterMap id).Sublist p) : Part os :=
  ⟨hs.nodup ip.nd, fun x hx => by rw [hl, ip.len]; exact ip.lt (hs.subset hx), by rw [hl, ip.len]; exact hm⟩
end Sw
end T_SxX
section T_SxY
set_option autoImplicit false
set_option linter.all false
set_option maxRecDepth 100000
set_option maxHeartbeats 2000000
/-! SxY: looks at things of any kind; idle wires (k31 to k33). -/
namespace Sw
open PySem
/-! ### an order filled -/
/-- the wire whose thing comes to a place -/
def cmo (l : Pt) (q : Nat) : Option Nat := if some q ∈ l then some (l.idxOf (some q)) else none
/-- a wire, if it isn't idle -/
def goo (l : Pt) (w : Nat) : Option Nat := if (l.getD w none).isNone then none else some w
/-- two wires, if both are told, have unlike sides -/
def ulk (s : List Nat) : Option Nat → Option Nat → Bool
  | some a, some b => !decide (s.getD a 0 = s.getD b 0)
  | _, _ => true
end Sw
end T_SxY
section T_TxA
set_option autoImplicit false
set_option linter.all false
set_option maxRecDepth 100000
set_option maxHeartbeats 1000000
namespace Sw
open PySem
/-! ### halves of halves: papers, tables, settings, and that they lead -/
inductive Pap where
  | one
  | hv (s : List Nat) (a b : Pap)
inductive Fits : Nat → List Nat → Pap → Prop
  | one {p : List Nat} : IsP 2 p → Fits 1 p .one
  | hv {d : Nat} {p s : List Nat} {a b : Pap} : IsP (2 ^ (d + 2)) p → Sides (2 ^ (d + 2)) p s → Fits (d + 1) (halfF (2 ^ (d + 2)) p s 0) a → Fits (d + 1) (halfF (2 ^ (d + 2)) p s 1) b → Fits (d + 2) p (.hv s a b)
theorem Fits.pos {d : Nat} {p : List Nat} {a : Pap} (h : Fits d p a) : 1 ≤ d := by cases h <;> omega
/-! ### walked -/
end Sw
end T_TxA
section T_TxB
set_option autoImplicit false
set_option linter.all false
set_option maxRecDepth 100000
set_option maxHeartbeats 1000000
namespace Sw
open PySem
/-! ### dicts whose keys are pairs of naturals, in walks -/
theorem tGet_cons {p : List Int × D} {r : List (List Int × D)} {j : List Int} : tGet (p :: r) j = if p.1 = j then some p.2 else tGet r j := rfl
theorem tGet_map (k : List Int) (x : D) (j : List Int) : ∀ l : List (List Int × D), tGet (l.map fun p => if p.1 = k then (p.1, x) else p) j = if j = k then (tGet l j).map fun _ => x else tGet l j
  | [] => by by_cases h : j = k <;> simp [h, tGet]
  | p :: r => by
    rw [List.map_cons, tGet_cons, tGet_cons, tGet_map k x j r]
    by_cases h : j = k
    · subst h
      by_cases q : p.1 = j
      · rw [if_pos q]; simp [q]
      · rw [if_neg q, if_neg q]; simp [q]
    · by_cases q : p.1 = k
      · rw [if_pos q]
        have : ¬ k = j := fun z => h z.symm
        simp [h, q, this]
      · rw [if_neg q]; simp [h]
theorem tGet_snoc (k : List Int) (x : D) (j : List Int) : ∀ l : List (List Int × D), tGet l k = none → tGet (l ++ [(k, x)]) j = if j = k then some x else tGet l j
  | [], _ => by
    show (if k = j then some x else none) = _
    by_cases h : j = k
    · subst h; simp
    · rw [if_neg h, if_neg (fun z => h z.symm)]; rfl
  | p :: r, h => by
    rw [tGet_cons] at h
    by_cases q : p.1 = k
    · rw [if_pos q] at h; cases h
    · rw [if_neg q] at h
      rw [List.cons_append, tGet_cons, tGet_snoc k x j r h, tGet_cons]
      by_cases z : p.1 = j
      · rw [if_pos z, if_pos z, if_neg (fun y => q (by rw [z, y]))]
      · rw [if_neg z, if_neg z]
theorem tGet_put (l : List (List Int × D)) (k j : List Int) (x : D) : tGet (tPut l k x) j = if j = k then some x else tGet l j := by
  unfold tPut
  by_cases h : (tGet l k).isSome = true
  · rw [if_pos h, tGet_map]
    by_cases z : j = k
    · subst z
      obtain ⟨y, hy⟩ := Option.isSome_iff_exists.mp h
      rw [if_pos rfl, if_pos rfl, hy]; rfl
    · rw [if_neg z, if_neg z]
  · rw [if_neg h]
    exact tGet_snoc k x j l (by simpa using h)
theorem tPut_len (l : List (List Int × D)) (k : List Int) (x : D) : (tPut l k x).length ≤ l.length + 1 := by
  unfold tPut
  split <;> simp
theorem key_eq {t w t' w' : Nat} : ([(t : Int), (w : Int)] = [(t' : Int), (w' : Int)]) ↔ (t = t' ∧ w = w') := by
  constructor
  · intro h
    injection h with h1 h2
    injection h2 with h2 _
    exact ⟨by omega, by omega⟩
  · rintro ⟨rfl, rfl⟩; rfl
theorem tGet_nat (l : List (List Int × D)) (t w t' w' : Nat) (x : D) : tGet (tPut l [(t : Int), (w : Int)] x) [(t' : Int), (w' : Int)] = if t' = t ∧ w' = w then some x else tGet l [(t' : Int), (w' : Int)] := by
  rw [tGet_put]
  by_cases h : t' = t ∧ w' = w
  · rw [if_pos h, if_pos (key_eq.mpr h)]
  · rw [if_neg h, if_neg (fun z => h (key_eq.mp z))]
/-! ### stages by sides -/
end Sw
end T_TxB
section T_TxC
set_option autoImplicit false
set_option linter.all false
set_option maxRecDepth 100000
set_option maxHeartbeats 1000000
namespace Sw
open PySem
/-! ### settings by fixed sides -/
end Sw
end T_TxC
section T_TxD
set_option autoImplicit false
set_option linter.all false
set_option maxRecDepth 100000
set_option maxHeartbeats 1000000
namespace Sw
open PySem
/-! ### the law's lower wires, and its walk -/
/-! ### swaps -/
end Sw
end T_TxD
section T_TxE
set_option autoImplicit false
set_option linter.all false
set_option maxRecDepth 100000
set_option maxHeartbeats 1000000
namespace Sw
open PySem
/-! ### the law's table -/
theorem ws_mod {δ r i : Nat} (hr : r < 2 ^ δ) : (r + 2 ^ δ * i) % 2 ^ δ = r := by
  rw [Nat.add_mul_mod_self_left, Nat.mod_eq_of_lt hr]
theorem ws_inj {δ r i j : Nat} (h : r + 2 ^ δ * i = r + 2 ^ δ * j) : i = j := Nat.eq_of_mul_eq_mul_left (Nat.two_pow_pos δ) (by omega)
/-- the outer stages of a table -/
structure Wo (d δ r : Nat) (S : List Nat) (p s : List Nat) (k0 k1 : List (List Int × D)) : Prop where
  fst : ∀ i ∈ S, tGet k1 [(δ : Int), ((r + 2 ^ δ * (i * 2) : Nat) : Int)] = some (natD (s.getD (i * 2) 0))
  lst : ∀ i ∈ S, tGet k1 [((δ + (2 * d - 2) : Nat) : Int), ((r + 2 ^ δ * (i * 2) : Nat) : Int)] = some (natD (s.getD (p.idxOf (i * 2)) 0))
  kept : ∀ t w, ¬ ((t = δ ∨ t = δ + (2 * d - 2)) ∧ w % 2 ^ δ = r) → tGet k1 [(t : Int), (w : Int)] = tGet k0 [(t : Int), (w : Int)]
  len : k1.length ≤ k0.length + 2 * S.length
theorem Wo.put {d δ r : Nat} {S p s : List Nat} {k0 k1 : List (List Int × D)} (h : Wo d δ r S p s k0 k1) (hr : r < 2 ^ δ) (hd : 2 ≤ d) (i : Nat) : Wo d δ r (S ++ [i]) p s k0 (tPut (tPut k1 [(δ : Int), ((r + 2 ^ δ * (i * 2) : Nat) : Int)] (natD (s.getD (i * 2) 0))) [((δ + (2 * d - 2) : Nat) : Int), ((r + 2 ^ δ * (i * 2) : Nat) : Int)] (natD (s.getD (p.idxOf (i * 2)) 0))) := by
  refine ⟨fun j hj => ?_, fun j hj => ?_, fun t w hn => ?_, ?_⟩
  · rw [tGet_nat, if_neg (by omega), tGet_nat]
    by_cases q : r + 2 ^ δ * (j * 2) = r + 2 ^ δ * (i * 2)
    · have : j = i := by have := ws_inj q; omega
      subst this
      rw [if_pos ⟨rfl, rfl⟩]
    · rw [if_neg (fun z => q z.2)]
      rcases List.mem_append.mp hj with z | z
      · exact h.fst j z
      · rw [List.mem_singleton.mp z] at q; exact absurd rfl q
  · rw [tGet_nat]
    by_cases q : r + 2 ^ δ * (j * 2) = r + 2 ^ δ * (i * 2)
    · have : j = i := by have := ws_inj q; omega
      subst this
      rw [if_pos ⟨rfl, rfl⟩]
    · rw [if_neg (fun z => q z.2), tGet_nat, if_neg (by omega)]
      rcases List.mem_append.mp hj with z | z
      · exact h.lst j z
      · rw [List.mem_singleton.mp z] at q; exact absurd rfl q
  · rw [tGet_nat, if_neg, tGet_nat, if_neg]
    · exact h.kept t w hn
    · rintro ⟨rfl, rfl⟩
      exact hn ⟨.inl rfl, ws_mod hr⟩
    · rintro ⟨rfl, rfl⟩
      exact hn ⟨.inr rfl, ws_mod hr⟩
  · have l1 := tPut_len k1 [(δ : Int), ((r + 2 ^ δ * (i * 2) : Nat) : Int)] (natD (s.getD (i * 2) 0))
    have l2 := tPut_len (tPut k1 [(δ : Int), ((r + 2 ^ δ * (i * 2) : Nat) : Int)] (natD (s.getD (i * 2) 0))) [((δ + (2 * d - 2) : Nat) : Int), ((r + 2 ^ δ * (i * 2) : Nat) : Int)] (natD (s.getD (p.idxOf (i * 2)) 0))
    have := h.len
    rw [List.length_append]
    simp only [List.length_cons, List.length_nil]
    omega
end Sw
end T_TxE
section T_TxF
set_option autoImplicit false
set_option linter.all false
set_option maxRecDepth 100000
set_option maxHeartbeats 1000000
namespace Sw
open PySem
/-! ### the law's setting -/
end Sw
end T_TxF
section T_TxG
set_option autoImplicit false
set_option linter.all false
set_option maxRecDepth 100000
set_option maxHeartbeats 1000000
namespace Sw
open PySem
/-! ### the law's papers: by fixed sides (0), by those of the spared net (1), by drawn ones (2) -/
end Sw
namespace Sw
open PySem
end Sw
end T_TxG
section T_TxH
set_option autoImplicit false
set_option linter.all false
set_option maxRecDepth 100000
set_option maxHeartbeats 1000000
namespace Sw
open PySem
/-! ### sides, ring by ring -/
section
variable {m : Nat} {A M : Nat → Nat}
theorem Cb.a_iff {S : List Nat} (c : Cb m A M S) (d : Dih m A M) {x : Nat} (hx : x < m) : A x ∈ S ↔ x ∈ S := ⟨fun h => by have := c.a _ h; rw [d.aa x hx] at this; exact this, c.a x⟩
theorem Cb.b_iff {S : List Nat} (c : Cb m A M S) (d : Dih m A M) {x : Nat} (hx : x < m) : M x ∈ S ↔ x ∈ S := ⟨fun h => by have := c.b _ h; rw [d.mm x hx] at this; exact this, c.b x⟩
theorem Cb.itr {S : List Nat} (c : Cb m A M S) (d : Dih m A M) {g : Nat} (hg : g < m) : ∀ j, Sw.itr A M j g ∈ S ↔ g ∈ S
  | 0 => Iff.rfl
  | j + 1 => by
    have lt := d.lt hg j
    show M (A (Sw.itr A M j g)) ∈ S ↔ _
    rw [c.b_iff d (d.al _ lt), c.a_iff d lt, c.itr d hg j]
theorem Cb.rg {S : List Nat} (c : Cb m A M S) (d : Dih m A M) {g k y : Nat} (hg : g < m) (hy : y ∈ Sw.rg A M k g) : y ∈ S ↔ g ∈ S := by
  obtain ⟨j, _, rfl | rfl⟩ := mem_rg.mp hy
  · exact c.itr d hg j
  · rw [c.a_iff d (d.lt hg j), c.itr d hg j]
end
/-! ### settings of the spared net -/
end Sw
end T_TxH
section T_TxI
set_option autoImplicit false
set_option linter.all false
set_option maxRecDepth 100000
set_option maxHeartbeats 1000000
namespace Sw
open PySem
/-! ### settings of spared nets -/
end Sw
end T_TxI
section T_TxJ
set_option autoImplicit false
set_option linter.all false
set_option maxRecDepth 100000
set_option maxHeartbeats 1000000
namespace Sw
open PySem
/-! ### settings of part orders -/
end Sw
end T_TxJ
section T_TxK
set_option autoImplicit false
set_option linter.all false
set_option maxRecDepth 100000
set_option maxHeartbeats 1000000
namespace Sw
open PySem
/-! ### sides that fit, of anything -/
/-! ### the law's own look -/
end Sw
end T_TxK
section T_TxL
set_option autoImplicit false
set_option linter.all false
set_option maxRecDepth 100000
set_option maxHeartbeats 1000000
namespace Sw
open PySem
/-! ### papers of halves, of anything -/
end Sw
end T_TxL
section T_TxM
set_option autoImplicit false
set_option linter.all false
set_option maxRecDepth 100000
set_option maxHeartbeats 1000000
namespace Sw
open PySem
/-! ### settings by papers; sides turned about -/
end Sw
end T_TxM
section T_TxN
set_option autoImplicit false
set_option linter.all false
set_option maxRecDepth 100000
set_option maxHeartbeats 1000000
namespace Sw
open PySem
/-! ### rings turned about -/
end Sw
end T_TxN
section T_TxO
set_option autoImplicit false
set_option linter.all false
set_option maxRecDepth 100000
set_option maxHeartbeats 1000000
namespace Sw
open PySem
/-! ### papers told; the law's look at papers -/
end Sw
end T_TxO
section T_TxP
set_option autoImplicit false
set_option linter.all false
set_option maxRecDepth 100000
set_option maxHeartbeats 1000000
namespace Sw
open PySem
/-! ### sides and halves of part orders -/
/-! ### sides that fit a part order -/
def okPair (l : Pt) (s : List Nat) (i : Nat) : Bool := ulk s (goo l (i * 2)) (goo l (i * 2 + 1)) && ulk s (cmo l (i * 2)) (cmo l (i * 2 + 1))
def fitQ (l : Pt) (s : List Nat) : Bool := (List.range (l.length / 2)).all (okPair l s)
/-! ### the law's own look -/
/-! ### halves of part orders -/
def hvO (l : Pt) (s : List Nat) (c w : Nat) : Option Nat := match l.getD w none with
  | some q => if s.getD w 0 = c then some (q / 2) else none
  | none => none
def ovO (a b : Option Nat) : Option Nat := match b with
  | some x => some x
  | none => a
def halfO (l : Pt) (s : List Nat) (c : Nat) : Pt := (List.range (l.length / 2)).map fun i => ovO (hvO l s c (i * 2)) (hvO l s c (i * 2 + 1))
/-! ### what is handed in -/
end Sw
end T_TxP
section T_TxQ
set_option autoImplicit false
set_option linter.all false
set_option maxRecDepth 100000
set_option maxHeartbeats 1000000
namespace Sw
open PySem
/-! ### papers of part orders: tables, settings, and that they lead -/
structure Sdo (l : Pt) (s : List Nat) : Prop where
  len : s.length = l.length
  two : ∀ w < l.length, s.getD w 0 < 2
  fit : fitQ l s = true
inductive PFit : Nat → Pt → Pap → Prop
  | one {l : Pt} : Part l → l.length = 2 → PFit 1 l .one
  | hv {d : Nat} {l : Pt} {s : List Nat} {a b : Pap} : Part l → l.length = 2 ^ (d + 2) → Sdo l s → PFit (d + 1) (halfO l s 0) a → PFit (d + 1) (halfO l s 1) b → PFit (d + 2) l (.hv s a b)
theorem PFit.pos {d : Nat} {l : Pt} {a : Pap} (h : PFit d l a) : 1 ≤ d := by cases h <;> omega
theorem Part.inj {l : Pt} (h : Part l) {i j v : Nat} (hi : l[i]? = some (some v)) (hj : l[j]? = some (some v)) : i = j := by
  have nd := h.nd
  rw [List.nodup_iff_pairwise_ne, List.pairwise_filterMap] at nd
  have key : ∀ {i j : Nat}, i < j → l[i]? = some (some v) → l[j]? = some (some v) → False := fun {i j} lt hi hj => by
    obtain ⟨hi1, hi2⟩ := List.getElem?_eq_some_iff.mp hi
    obtain ⟨hj1, hj2⟩ := List.getElem?_eq_some_iff.mp hj
    have := (List.pairwise_iff_getElem.mp nd) i j hi1 hj1 lt v (by rw [hi2]; rfl) v (by rw [hj2]; rfl)
    exact this rfl
  rcases Nat.lt_trichotomy i j with z | z | z
  · exact (key z hi hj).elim
  · exact z
  · exact (key z hj hi).elim
def askF (a b : Option Nat) : Nat := match a with
  | some x => x
  | none => match b with
    | some y => if y = 0 then 1 else 0
    | none => 0
def sdO (s : List Nat) (o : Option Nat) : Option Nat := o.map fun w => s.getD w 0
def fstO (l : Pt) (s : List Nat) (i : Nat) : Nat := askF (sdO s (goo l (i * 2))) (sdO s (goo l (i * 2 + 1)))
def lstO (l : Pt) (s : List Nat) (i : Nat) : Nat := askF (sdO s (cmo l (i * 2))) (sdO s (cmo l (i * 2 + 1)))
end Sw
end T_TxQ
section T_TxR
set_option autoImplicit false
set_option linter.all false
set_option maxRecDepth 100000
set_option maxHeartbeats 1000000
namespace Sw
open PySem
/-! ### what switches are asked -/
/-! ### settings by papers of part orders -/
end Sw
end T_TxR
section T_TxS
set_option autoImplicit false
set_option linter.all false
set_option maxRecDepth 100000
set_option maxHeartbeats 1000000
namespace Sw
open PySem
/-! ### the law's table of a part order -/
/-- the outer stages of a table -/
structure WoO (d δ r : Nat) (S : List Nat) (l : Pt) (s : List Nat) (k0 k1 : List (List Int × D)) : Prop where
  fst : ∀ i ∈ S, tGet k1 [(δ : Int), ((r + 2 ^ δ * (i * 2) : Nat) : Int)] = some (natD (fstO l s i))
  lst : ∀ i ∈ S, tGet k1 [((δ + (2 * d - 2) : Nat) : Int), ((r + 2 ^ δ * (i * 2) : Nat) : Int)] = some (natD (lstO l s i))
  kept : ∀ t w, ¬ ((t = δ ∨ t = δ + (2 * d - 2)) ∧ w % 2 ^ δ = r) → tGet k1 [(t : Int), (w : Int)] = tGet k0 [(t : Int), (w : Int)]
  len : k1.length ≤ k0.length + 2 * S.length
theorem WoO.put {d δ r : Nat} {S : List Nat} {l : Pt} {s : List Nat} {k0 k1 : List (List Int × D)} (h : WoO d δ r S l s k0 k1) (hr : r < 2 ^ δ) (hd : 2 ≤ d) (i : Nat) : WoO d δ r (S ++ [i]) l s k0 (tPut (tPut k1 [(δ : Int), ((r + 2 ^ δ * (i * 2) : Nat) : Int)] (natD (fstO l s i))) [((δ + (2 * d - 2) : Nat) : Int), ((r + 2 ^ δ * (i * 2) : Nat) : Int)] (natD (lstO l s i))) := by
  refine ⟨fun j hj => ?_, fun j hj => ?_, fun t w hn => ?_, ?_⟩
  · rw [tGet_nat, if_neg (by omega), tGet_nat]
    by_cases q : r + 2 ^ δ * (j * 2) = r + 2 ^ δ * (i * 2)
    · have : j = i := by have := ws_inj q; omega
      subst this
      rw [if_pos ⟨rfl, rfl⟩]
    · rw [if_neg (fun z => q z.2)]
      rcases List.mem_append.mp hj with z | z
      · exact h.fst j z
      · rw [List.mem_singleton.mp z] at q; exact absurd rfl q
  · rw [tGet_nat]
    by_cases q : r + 2 ^ δ * (j * 2) = r + 2 ^ δ * (i * 2)
    · have : j = i := by have := ws_inj q; omega
      subst this
      rw [if_pos ⟨rfl, rfl⟩]
    · rw [if_neg (fun z => q z.2), tGet_nat, if_neg (by omega)]
      rcases List.mem_append.mp hj with z | z
      · exact h.lst j z
      · rw [List.mem_singleton.mp z] at q; exact absurd rfl q
  · rw [tGet_nat, if_neg, tGet_nat, if_neg]
    · exact h.kept t w hn
    · rintro ⟨rfl, rfl⟩
      exact hn ⟨.inl rfl, ws_mod hr⟩
    · rintro ⟨rfl, rfl⟩
      exact hn ⟨.inr rfl, ws_mod hr⟩
  · have l1 := tPut_len k1 [(δ : Int), ((r + 2 ^ δ * (i * 2) : Nat) : Int)] (natD (fstO l s i))
    have l2 := tPut_len (tPut k1 [(δ : Int), ((r + 2 ^ δ * (i * 2) : Nat) : Int)] (natD (fstO l s i))) [((δ + (2 * d - 2) : Nat) : Int), ((r + 2 ^ δ * (i * 2) : Nat) : Int)] (natD (lstO l s i))
    have := h.len
    rw [List.length_append]
    simp only [List.length_cons, List.length_nil]
    omega
end Sw
end T_TxS
section T_TxT
set_option autoImplicit false
set_option linter.all false
set_option maxRecDepth 100000
set_option maxHeartbeats 1000000
namespace Sw
open PySem
/-! ### papers of part orders -/
/-! ### what is handed in -/
/-! ### the law's papers of part orders -/
end Sw
end T_TxT
section T_P12h
set_option autoImplicit false
set_option linter.all false
set_option maxRecDepth 100000
set_option maxHeartbeats 2000000
namespace K12
open PySem Sw
/-- about: net many stages -/
def b_about : FDef := ⟨1, 3, [], (.of [
  .asgT (.p [(.n 1), (.n 2)]) (.var 0),
  .ret (.tup (.of [(.var 1), (.o1 .rev (.var 2))]))])⟩
/-- about_setting: setting -/
def b_about_setting : FDef := ⟨1, 1, [], (.of [
  .ret (.o1 .rev (.var 0))])⟩
/-- _law_cell_at: _law_script _law_k -/
def b_law_cell_at : FDef := ⟨2, 2, [], (.of [
  .iff (.e (.o2 .lt (.var 1) (.o1 .len (.var 0)))) (.of [
    .ret (.o2 .idx (.var 0) (.var 1))]) (.of []),
  .ret (.int 0)])⟩
/-- _law_begin: _law_cell _law_seed -/
def b_law_begin : FDef := ⟨1, 2, [], (.of [
  .asg 1 (.o2 .add (.o2 .add (.o2 .mod (.var 0) (.int 2147483647)) (.o2 .mod (.o2 .fdiv (.var 0) (.int 2147483647)) (.int 1000003))) (.int 3)),
  .iff (.e (.o2 .lt (.var 0) (.o2 .pow (.int 10) (.int 18)))) (.of [
    .ret (.lst (.of [(.int 0), (.var 1)]))]) (.of []),
  .ret (.lst (.of [(.var 0), (.var 1)]))])⟩
/-- _law_draw: _law_state _law_many _law_got _law_number -/
def b_law_draw : FDef := ⟨2, 4, [], (.of [
  .iff (.e (.o2 .gt (.o2 .idx (.var 0) (.int 0)) (.int 0))) (.of [
    .asg 2 (.o2 .mod (.o2 .idx (.var 0) (.int 0)) (.var 1)),
    .st 0 (.int 0) (.o2 .fdiv (.o2 .idx (.var 0) (.int 0)) (.var 1)),
    .ret (.mv 2)]) (.of []),
  .asg 3 (.o2 .mod (.o2 .add (.o2 .mul (.o2 .idx (.var 0) (.int 1)) (.int 48271)) (.int 11)) (.int 2147483629)),
  .st 0 (.int 1) (.o2 .mod (.o2 .add (.o2 .mul (.var 3) (.int 69621)) (.int 7)) (.int 2147483587)),
  .ret (.o2 .mod (.o2 .fdiv (.o2 .mod (.o2 .add (.o2 .mul (.o2 .idx (.var 0) (.int 1)) (.int 16807)) (.int 3)) (.int 2147483579)) (.int 8)) (.var 1))])⟩
/-- _law_stage: _law_state _law_many _law_wires _law_found _law_most _law_k _law_a _law_b -/
def b_law_stage : FDef := ⟨2, 8, [], (.of [
  .asg 2 (.ofSrc false (.rng1 (.var 1))),
  .asg 3 (.lst (.of [])),
  .asg 4 (.o2 .idx (.lst (.of [(.int 0), (.int 1), (.int 2), (.o2 .fdiv (.var 1) (.int 2)), (.o2 .fdiv (.var 1) (.int 2))])) (.call "_law_draw" (.of [(.var 0), (.int 5)]))),
  .forr (.n 5) (.rng1 (.o2 .min2 (.var 4) (.o2 .fdiv (.var 1) (.int 2)))) (.of [
    .asg 6 (.pop 2 (.call "_law_draw" (.of [(.var 0), (.o1 .len (.var 2))]))),
    .asg 7 (.pop 2 (.call "_law_draw" (.of [(.var 0), (.o1 .len (.var 2))]))),
    .ex (.app 3 (.tup (.of [(.o2 .min2 (.var 6) (.var 7)), (.o2 .max2 (.var 6) (.var 7))])))]) [5, 6, 7],
  .ret (.o1 .tupleOf (.o1 .sorted (.var 3)))])⟩
/-- _law_net: _law_state _law_great _law_long _law_many _law_stages _law_k -/
def b_law_net : FDef := ⟨3, 6, [], (.of [
  .asg 3 (.o2 .idx (.lst (.of [(.int 2), (.int 3), (.int 4), (.int 5), (.int 8), (.int 1)])) (.call "_law_draw" (.of [(.var 0), (.int 6)]))),
  .asg 4 (.call "_law_draw" (.of [(.var 0), (.int 6)])),
  .iff (.e (.o2 .eq (.call "_law_draw" (.of [(.var 0), (.int 8)])) (.int 5))) (.of [
    .asg 3 (.var 1)]) (.of []),
  .iff (.e (.o2 .eq (.call "_law_draw" (.of [(.var 0), (.int 8)])) (.int 5))) (.of [
    .asg 4 (.var 2)]) (.of []),
  .ret (.tup (.of [(.var 3), (.o1 .tupleOf (.comp [5] (.n 5) (.rng1 (.var 4)) .no (.call "_law_stage" (.of [(.var 0), (.var 3)]))))]))])⟩
/-- _law_setting: _law_state _law_net_here _law_found _law_stage_here _law_switch -/
def b_law_setting : FDef := ⟨2, 5, [], (.of [
  .asg 2 (.lst (.of [])),
  .forr (.n 3) (.seq (.o2 .idx (.var 1) (.int 1))) (.of [
    .ex (.app 2 (.o1 .tupleOf (.comp [4] (.n 4) (.seq (.var 3)) .no (.call "_law_draw" (.of [(.var 0), (.int 2)])))))]) [3],
  .ret (.o1 .tupleOf (.var 2))])⟩
/-- _law_across: _law_stage_here _law_ways _law_wire _law_switch _law_way_here -/
def b_law_across : FDef := ⟨3, 5, [], (.of [
  .forr (.p [(.n 3), (.n 4)]) (.zip2 (.var 0) (.var 1)) (.of [
    .iff (.and (.e (.o2 .eq (.var 4) (.int 1))) (.e (.o2 .inn (.var 2) (.var 3)))) (.of [
      .ret (.o2 .sub (.o1 .sum (.var 3)) (.var 2))]) (.of [])]) [3, 4],
  .ret (.mv 2)])⟩
/-- _law_way: _law_net_here _law_setting_here _law_wire _law_found _law_stage_here _law_ways -/
def b_law_way : FDef := ⟨3, 6, [], (.of [
  .asg 3 (.lst (.of [(.var 2)])),
  .forr (.p [(.n 4), (.n 5)]) (.zip2 (.o2 .idx (.var 0) (.int 1)) (.var 1)) (.of [
    .ex (.app 3 (.call "_law_across" (.of [(.var 4), (.var 5), (.o2 .idx (.var 3) (.o1 .neg (.int 1)))])))]) [4, 5],
  .ret (.o1 .tupleOf (.var 3))])⟩
/-- _law_right: _law_net_here _law_setting_here _law_found _law_ways _law_wire _law_here -/
def b_law_right : FDef := ⟨2, 6, [], (.of [
  .asg 2 (.call "about" (.of [(.var 0)])),
  .asg 3 (.call "about_setting" (.of [(.var 1)])),
  .iff (.or (.e (.o2 .ne (.o1 .repr (.var 2)) (.o1 .repr (.tup (.of [(.o2 .idx (.var 0) (.int 0)), (.o1 .revT (.o2 .idx (.var 0) (.int 1)))]))))) (.e (.o2 .ne (.o1 .repr (.var 3)) (.o1 .repr (.o1 .revT (.var 1)))))) (.of [
    .ret (.bl false)]) (.of []),
  .forr (.n 4) (.rng1 (.o2 .idx (.var 0) (.int 0))) (.of [
    .asg 5 (.call "_law_way" (.of [(.var 0), (.var 1), (.var 4)])),
    .iff (.e (.o2 .ne (.call "_law_way" (.of [(.var 2), (.var 3), (.o2 .idx (.var 5) (.o1 .neg (.int 1)))])) (.o1 .rev (.var 5)))) (.of [
      .ret (.bl false)]) (.of [])]) [4, 5],
  .ret (.and (.o2 .eq (.o1 .repr (.call "about" (.of [(.var 2)]))) (.o1 .repr (.var 0))) (.o2 .eq (.o1 .repr (.call "about_setting" (.of [(.var 3)]))) (.o1 .repr (.var 1))))])⟩
/-- law: _law_script _law_k _law_state _law_net_here -/
def b_law : FDef := ⟨1, 4, [], (.of [
  .forr (.n 1) (.rng1 (.o2 .max2 (.int 1) (.o2 .min2 (.int 4) (.o1 .len (.var 0))))) (.of [
    .asg 2 (.call "_law_begin" (.of [(.call "_law_cell_at" (.of [(.var 0), (.var 1)]))])),
    .asg 3 (.call "_law_net" (.of [(.var 2), (.int 32), (.int 20)])),
    .iff (.not (.e (.call "_law_right" (.of [(.var 3), (.call "_law_setting" (.of [(.var 2), (.var 3)]))])))) (.of [
      .ret (.bl false)]) (.of [])]) [1, 2, 3],
  .ret (.and (.call "_law_right" (.of [(.tup (.of [(.int 1), (.tup (.of []))])), (.tup (.of []))])) (.call "_law_right" (.of [(.tup (.of [(.int 2), (.tup (.of [(.tup (.of [])), (.tup (.of [(.tup (.of [(.int 0), (.int 1)]))]))]))])), (.tup (.of [(.tup (.of [])), (.tup (.of [(.int 1)]))]))])))])⟩
def T : Tab := fun f => match f with
  | "about" => some b_about
  | "about_setting" => some b_about_setting
  | "_law_cell_at" => some b_law_cell_at
  | "_law_begin" => some b_law_begin
  | "_law_draw" => some b_law_draw
  | "_law_stage" => some b_law_stage
  | "_law_net" => some b_law_net
  | "_law_setting" => some b_law_setting
  | "_law_across" => some b_law_across
  | "_law_way" => some b_law_way
  | "_law_right" => some b_law_right
  | "law" => some b_law
  | _ => none
end K12
end T_P12h
section T_P12
set_option autoImplicit false
set_option linter.all false
set_option maxRecDepth 100000
set_option maxHeartbeats 2000000
namespace K12
open PySem Sw
def lvl : Nat := 12
theorem hD : T "_law_draw" = some Sw.b_law_draw := rfl
theorem hB : T "_law_begin" = some Sw.b_law_begin := rfl
theorem hC : T "_law_cell_at" = some Sw.b_law_cell_at := rfl
theorem hS : T "_law_stage" = some Sw.b_law_stage := rfl
theorem hN : T "_law_net" = some Sw.b_law_net := rfl
theorem hT : T "_law_setting" = some Sw.b_law_setting := rfl
theorem hA : T "_law_across" = some Sw.b_law_across := rfl
theorem hW : T "_law_way" = some Sw.b_law_way := rfl
abbrev St := List (Nat × Nat)
theorem rev_net {ss : List St} : op1 .rev (.tuple (ss.map stP)) = some (.d (.tuple (ss.reverse.map stP))) := by
  show some (V.d (.tuple (ss.map stP).reverse)) = _
  rw [List.map_reverse]
theorem rev_netT {ss : List St} : op1 .revT (.tuple (ss.map stP)) = some (.d (.tuple (ss.reverse.map stP))) := by
  show some (V.d (.tuple (ss.map stP).reverse)) = _
  rw [List.map_reverse]
theorem rev_set {ss : List (List Nat)} : op1 .rev (setP ss) = some (.d (setP ss.reverse)) := by
  show some (V.d (.tuple (ss.map tupN).reverse)) = _
  unfold setP
  rw [List.map_reverse]
theorem rev_setT {ss : List (List Nat)} : op1 .revT (setP ss) = some (.d (setP ss.reverse)) := by
  show some (V.d (.tuple (ss.map tupN).reverse)) = _
  unfold setP
  rw [List.map_reverse]
theorem rev_tup {l : List Nat} : op1 .rev (tupN l) = some (.d (tupN l.reverse)) := by
  show some (V.d (.tuple (natsD l).reverse)) = _
  unfold tupN natsD
  rw [List.map_reverse]
theorem lastW (ss : List St) (wss : List (List Nat)) (w : Nat) : op2 .idx (tupN (w :: pathT ss wss w)) (.int (-1)) = some (.d (natD (endp ss wss w))) := by
  obtain ⟨pre, h⟩ := path_last ss wss w
  exact idx_last (by rw [← h]; rfl)
theorem abt_ok (n : Nat) {m : Nat} {ss : List St} : ∃ (x : V), callF T (n + 1) "about" [.d (netP m ss)] = .ok (.d (netP m ss.reverse), [x]) ∧ True := by
  suffices h : ∃ v outs, callF T (n + 1) "about" [.d (netP m ss)] = .ok (v, outs) ∧ ∃ (x : V), v = .d (netP m ss.reverse) ∧ outs = [x] ∧ True by
    obtain ⟨v, outs, h, x, rfl, rfl, hp⟩ := h
    exact ⟨x, h, hp⟩
  refine call_wp (fun v outs => ∃ (x : V), v = .d (netP m ss.reverse) ∧ outs = [x] ∧ True) (fd := b_about) rfl rfl ?_
  refine (show Wp _ (Sw.execs (callF T n) b_about.body [.d (netP m ss), .u, .u]) from ?_)
  simp only [b_about, Ss.of, Es.of]
  have r := rev_net (ss := ss)
  refine u_asgT (x := .tuple [natD m, .tuple (ss.map stP)]) (da_var rfl) (by (repeat' first | exact Rf.mk rfl | (apply Rd.mk; (try dsimp only [vals_n, vals_x, vals_v, bk_c, bk_d, pb_x, pb_v, pb_n, view_x, view_v, viewV_d, viewV_c, settle_d, settle_c, get_z, get_s, set_z, set_s, ka_n, ka_s, re_n, re_s, seqOf_t, seqOf_l, asgT, asgTs, Option.bind_some, ↓reduceIte, List.length_cons, List.length_nil]); (try exact rfl); done) | (with_reducible first | exact v_yesneg | exact q_nes | exact q_eqs | exact v_nat | exact v_neg | exact v_bl | exact v_non | exact v_str | exact ds_nil | exact os_nil | exact part_no | exact q_net0 | exact q_net1 | exact o_add | exact o_min | exact o_max | exact o_eq | exact o_ne | exact o_lt | exact o_le | exact o_gt | exact o_ge | exact q_lenN | exact q_lenU | exact q_lenS | exact q_lenM | exact q_lenMT | exact q_lenL | exact q_lenT | exact q_tupN | exact q_tupU | exact q_lstN | exact q_lstU | exact q_tupL | exact q_tupT | exact q_lstL | exact q_lstT | exact q_int | exact q_isT) | ((with_reducible apply v_var); apply Rd.mk; (try dsimp only [vals_n, vals_x, vals_v, bk_c, bk_d, pb_x, pb_v, pb_n, view_x, view_v, viewV_d, viewV_c, settle_d, settle_c, get_z, get_s, set_z, set_s, ka_n, ka_s, re_n, re_s, seqOf_t, seqOf_l, asgT, asgTs, Option.bind_some, ↓reduceIte, List.length_cons, List.length_nil]); (try with_reducible exact rfl); done) | ((with_reducible apply v_mv); apply Rd.mk; (try dsimp only [vals_n, vals_x, vals_v, bk_c, bk_d, pb_x, pb_v, pb_n, view_x, view_v, viewV_d, viewV_c, settle_d, settle_c, get_z, get_s, set_z, set_s, ka_n, ka_s, re_n, re_s, seqOf_t, seqOf_l, asgT, asgTs, Option.bind_some, ↓reduceIte, List.length_cons, List.length_nil]); (try with_reducible exact rfl); done) | ((with_reducible apply v_opx); exact Rf.mk rfl) | (with_reducible first | apply v_fr | apply v_mvc | apply v_o2 | apply v_o1 | apply v_call | apply v_da | apply v_opv | apply v_lst | apply v_tup | apply ds_cons | apply os_cons | apply v_app | apply v_not | apply v_tor | apply v_tand | apply v_tnot | apply v_te | apply v_slice | apply v_yesn | apply v_chain | apply v_seq | apply v_r1 | apply v_r1m | apply v_enT | apply v_enL | apply v_ofl | apply v_oftr | apply v_oft | apply o_mul | apply o_sub | apply o_mod | apply o_div | apply o_shr | apply idx_nat | apply q_idx2 | apply q_idx3 | apply q_idx4 | apply q_idx5 | apply q_idx6 | apply q_idx7 | apply q_repr | apply idx_natL | assumption) | omega)) ?_
  (refine wp_ret (by (repeat' first | exact Rf.mk rfl | (apply Rd.mk; (try dsimp only [vals_n, vals_x, vals_v, bk_c, bk_d, pb_x, pb_v, pb_n, view_x, view_v, viewV_d, viewV_c, settle_d, settle_c, get_z, get_s, set_z, set_s, ka_n, ka_s, re_n, re_s, seqOf_t, seqOf_l, asgT, asgTs, Option.bind_some, ↓reduceIte, List.length_cons, List.length_nil]); (try exact rfl); done) | (with_reducible first | exact r | exact v_yesneg | exact q_nes | exact q_eqs | exact v_nat | exact v_neg | exact v_bl | exact v_non | exact v_str | exact ds_nil | exact os_nil | exact part_no | exact q_net0 | exact q_net1 | exact o_add | exact o_min | exact o_max | exact o_eq | exact o_ne | exact o_lt | exact o_le | exact o_gt | exact o_ge | exact q_lenN | exact q_lenU | exact q_lenS | exact q_lenM | exact q_lenMT | exact q_lenL | exact q_lenT | exact q_tupN | exact q_tupU | exact q_lstN | exact q_lstU | exact q_tupL | exact q_tupT | exact q_lstL | exact q_lstT | exact q_int | exact q_isT) | ((with_reducible apply v_var); apply Rd.mk; (try dsimp only [vals_n, vals_x, vals_v, bk_c, bk_d, pb_x, pb_v, pb_n, view_x, view_v, viewV_d, viewV_c, settle_d, settle_c, get_z, get_s, set_z, set_s, ka_n, ka_s, re_n, re_s, seqOf_t, seqOf_l, asgT, asgTs, Option.bind_some, ↓reduceIte, List.length_cons, List.length_nil]); (try with_reducible exact rfl); done) | ((with_reducible apply v_mv); apply Rd.mk; (try dsimp only [vals_n, vals_x, vals_v, bk_c, bk_d, pb_x, pb_v, pb_n, view_x, view_v, viewV_d, viewV_c, settle_d, settle_c, get_z, get_s, set_z, set_s, ka_n, ka_s, re_n, re_s, seqOf_t, seqOf_l, asgT, asgTs, Option.bind_some, ↓reduceIte, List.length_cons, List.length_nil]); (try with_reducible exact rfl); done) | ((with_reducible apply v_opx); exact Rf.mk rfl) | (with_reducible first | apply v_fr | apply v_mvc | apply v_o2 | apply v_o1 | apply v_call | apply v_da | apply v_opv | apply v_lst | apply v_tup | apply ds_cons | apply os_cons | apply v_app | apply v_not | apply v_tor | apply v_tand | apply v_tnot | apply v_te | apply v_slice | apply v_yesn | apply v_chain | apply v_seq | apply v_r1 | apply v_r1m | apply v_enT | apply v_enL | apply v_ofl | apply v_oftr | apply v_oft | apply o_mul | apply o_sub | apply o_mod | apply o_div | apply o_shr | apply idx_nat | apply q_idx2 | apply q_idx3 | apply q_idx4 | apply q_idx5 | apply q_idx6 | apply q_idx7 | apply q_repr | apply idx_natL | assumption) | omega)) ?_; exact ⟨_, rfl, rfl, trivial⟩)
theorem abs_ok (n : Nat) {wss : List (List Nat)} : ∃ (x : V), callF T (n + 1) "about_setting" [.d (setP wss)] = .ok (.d (setP wss.reverse), [x]) ∧ True := by
  suffices h : ∃ v outs, callF T (n + 1) "about_setting" [.d (setP wss)] = .ok (v, outs) ∧ ∃ (x : V), v = .d (setP wss.reverse) ∧ outs = [x] ∧ True by
    obtain ⟨v, outs, h, x, rfl, rfl, hp⟩ := h
    exact ⟨x, h, hp⟩
  refine call_wp (fun v outs => ∃ (x : V), v = .d (setP wss.reverse) ∧ outs = [x] ∧ True) (fd := b_about_setting) rfl rfl ?_
  refine (show Wp _ (Sw.execs (callF T n) b_about_setting.body [.d (setP wss)]) from ?_)
  simp only [b_about_setting, Ss.of, Es.of]
  have r := rev_set (ss := wss)
  (refine wp_ret (by (repeat' first | exact Rf.mk rfl | (apply Rd.mk; (try dsimp only [vals_n, vals_x, vals_v, bk_c, bk_d, pb_x, pb_v, pb_n, view_x, view_v, viewV_d, viewV_c, settle_d, settle_c, get_z, get_s, set_z, set_s, ka_n, ka_s, re_n, re_s, seqOf_t, seqOf_l, asgT, asgTs, Option.bind_some, ↓reduceIte, List.length_cons, List.length_nil]); (try exact rfl); done) | (with_reducible first | exact r | exact v_yesneg | exact q_nes | exact q_eqs | exact v_nat | exact v_neg | exact v_bl | exact v_non | exact v_str | exact ds_nil | exact os_nil | exact part_no | exact q_net0 | exact q_net1 | exact o_add | exact o_min | exact o_max | exact o_eq | exact o_ne | exact o_lt | exact o_le | exact o_gt | exact o_ge | exact q_lenN | exact q_lenU | exact q_lenS | exact q_lenM | exact q_lenMT | exact q_lenL | exact q_lenT | exact q_tupN | exact q_tupU | exact q_lstN | exact q_lstU | exact q_tupL | exact q_tupT | exact q_lstL | exact q_lstT | exact q_int | exact q_isT) | ((with_reducible apply v_var); apply Rd.mk; (try dsimp only [vals_n, vals_x, vals_v, bk_c, bk_d, pb_x, pb_v, pb_n, view_x, view_v, viewV_d, viewV_c, settle_d, settle_c, get_z, get_s, set_z, set_s, ka_n, ka_s, re_n, re_s, seqOf_t, seqOf_l, asgT, asgTs, Option.bind_some, ↓reduceIte, List.length_cons, List.length_nil]); (try with_reducible exact rfl); done) | ((with_reducible apply v_mv); apply Rd.mk; (try dsimp only [vals_n, vals_x, vals_v, bk_c, bk_d, pb_x, pb_v, pb_n, view_x, view_v, viewV_d, viewV_c, settle_d, settle_c, get_z, get_s, set_z, set_s, ka_n, ka_s, re_n, re_s, seqOf_t, seqOf_l, asgT, asgTs, Option.bind_some, ↓reduceIte, List.length_cons, List.length_nil]); (try with_reducible exact rfl); done) | ((with_reducible apply v_opx); exact Rf.mk rfl) | (with_reducible first | apply v_fr | apply v_mvc | apply v_o2 | apply v_o1 | apply v_call | apply v_da | apply v_opv | apply v_lst | apply v_tup | apply ds_cons | apply os_cons | apply v_app | apply v_not | apply v_tor | apply v_tand | apply v_tnot | apply v_te | apply v_slice | apply v_yesn | apply v_chain | apply v_seq | apply v_r1 | apply v_r1m | apply v_enT | apply v_enL | apply v_ofl | apply v_oftr | apply v_oft | apply o_mul | apply o_sub | apply o_mod | apply o_div | apply o_shr | apply idx_nat | apply q_idx2 | apply q_idx3 | apply q_idx4 | apply q_idx5 | apply q_idx6 | apply q_idx7 | apply q_repr | apply idx_natL | assumption) | omega)) ?_; exact ⟨_, rfl, rfl, trivial⟩)
/-! ### the way back -/
theorem path_snoc : ∀ {ss : List St} {wss : List (List Nat)} (st : St) (ws : List Nat) (w : Nat), wss.length = ss.length → pathT (ss ++ [st]) (wss ++ [ws]) w = pathT ss wss w ++ [cross st ws (endp ss wss w)]
  | [], [], st, ws, w, _ => rfl
  | [], _ :: _, _, _, _, h => by cases h
  | _ :: _, [], _, _, _, h => by cases h
  | s :: ss, v :: wss, st, ws, w, h => by
    show cross s v w :: pathT (ss ++ [st]) (wss ++ [ws]) (cross s v w) = _
    rw [path_snoc st ws _ (by simpa using h)]
    rfl
theorem path_back {m : Nat} : ∀ {ss : List St} {wss : List (List Nat)} (w : Nat), Fit ss wss → (∀ st ∈ ss, GSt m st) → endp ss wss w :: pathT ss.reverse wss.reverse (endp ss wss w) = (w :: pathT ss wss w).reverse
  | [], _, w, .nil, _ => rfl
  | st :: ss, _, w, .cons (ws := ws) (wss := wss) h1 h2 h3, hs => by
    have ih := path_back (m := m) (cross st ws w) h3 fun t ht => hs t (List.mem_cons_of_mem _ ht)
    obtain ⟨pre, hp⟩ := path_last ss.reverse wss.reverse (endp ss wss (cross st ws w))
    have e1 : endp ss.reverse wss.reverse (endp ss wss (cross st ws w)) = cross st ws w := by
      rw [hp, List.reverse_cons] at ih
      have := List.append_inj' ih rfl
      simpa using this.2
    show endp ss wss (cross st ws w) :: pathT (st :: ss).reverse (ws :: wss).reverse (endp ss wss (cross st ws w)) = (w :: cross st ws w :: pathT ss wss (cross st ws w)).reverse
    rw [List.reverse_cons, List.reverse_cons, path_snoc st ws _ (by rw [List.length_reverse, List.length_reverse]; exact h3.len), e1, cross_cross ws w (hs st List.mem_cons_self), ← List.cons_append, ih]
    rw [List.reverse_cons (a := w)]
theorem fit_app : ∀ {ss ts : List St} {wss vss : List (List Nat)}, Fit ss wss → Fit ts vss → Fit (ss ++ ts) (wss ++ vss)
  | [], _, _, _, .nil, h => h
  | _ :: _, _, _, _, .cons h1 h2 h3, h => .cons h1 h2 (fit_app h3 h)
theorem fit_rev : ∀ {ss : List St} {wss : List (List Nat)}, Fit ss wss → Fit ss.reverse wss.reverse
  | [], _, .nil => .nil
  | st :: ss, _, .cons h1 h2 h3 => by
    rw [List.reverse_cons, List.reverse_cons]
    exact fit_app (fit_rev h3) (.cons h1 h2 .nil)
theorem sm_n {m : Nat} {ss : List St} (hm : m ≤ 32) (hl : ss.length ≤ 20) (hs : ∀ st ∈ ss, GSt m st) : Sm 5 1000000 (netP m ss) := sm_net (by omega) (by omega) fun st hst => by
  have g := hs st hst
  have := g.len
  exact ⟨by omega, fun p hp => by have := g.lt p hp; omega⟩
theorem v_andT {φ : Orc} {a b : E} {e e1 : Sw.Env} {r : Sw.R (V × Sw.Env)} (h : evalE φ a e = .ok (.d (.bool true), e1)) (h2 : evalE φ b e1 = r) : evalE φ (.and a b) e = r := by
  rw [evalE]
  refine (bind2 (da_of h rfl)).trans ?_
  exact h2
theorem fit_rows {ss : List St} {wss : List (List Nat)} {m : Nat} (hf : Fit ss wss) (hs : ∀ st ∈ ss, GSt m st) (hm : m ≤ 100) : ∀ ws ∈ wss, ws.length ≤ 100 ∧ ∀ w ∈ ws, w < 1000000 := by
  induction hf with
  | nil => intro _ h; cases h
  | cons h1 h2 _ ih =>
    intro ws h
    rcases List.mem_cons.mp h with z | z
    · rw [z]
      have := (hs _ List.mem_cons_self).len
      exact ⟨by omega, fun w hw => by have := h2 w hw; omega⟩
    · exact ih (fun t ht => hs t (List.mem_cons_of_mem _ ht)) ws z
theorem right_ok (n : Nat) {m : Nat} {ss : List St} {wss : List (List Nat)} (hm : m ≤ 32) (hl : ss.length ≤ 20) (hs : ∀ st ∈ ss, GSt m st) (hf : Fit ss wss) : ∃ (x y : V), callF T (n + 3) "_law_right" [.d (netP m ss), .d (setP wss)] = .ok (.d (.bool true), [x, y]) ∧ True := by
  suffices h : ∃ v outs, callF T (n + 3) "_law_right" [.d (netP m ss), .d (setP wss)] = .ok (v, outs) ∧ ∃ (x y : V), v = .d (.bool true) ∧ outs = [x, y] ∧ True by
    obtain ⟨v, outs, h, x, y, rfl, rfl, hp⟩ := h
    exact ⟨x, y, h, hp⟩
  refine call_wp (fun v outs => ∃ (x y : V), v = .d (.bool true) ∧ outs = [x, y] ∧ True) (fd := b_law_right) rfl rfl ?_
  refine (show Wp _ (Sw.execs (callF T (n + 2)) b_law_right.body [.d (netP m ss), .d (setP wss), .u, .u, .u, .u]) from ?_)
  simp only [b_law_right, Ss.of, Es.of]
  obtain ⟨x1, a1, _⟩ := abt_ok (n + 1) (m := m) (ss := ss)
  obtain ⟨x2, a2, _⟩ := abs_ok (n + 1) (wss := wss)
  have hsr : ∀ st ∈ ss.reverse, GSt m st := fun st h => hs st (List.mem_reverse.mp h)
  have hlr : ss.reverse.length ≤ 20 := by rw [List.length_reverse]; exact hl
  have hfr := fit_rev hf
  have wl : wss.length ≤ 100 := by rw [hf.len]; omega
  have wlr : wss.reverse.length ≤ 100 := by rw [List.length_reverse]; exact wl
  have ok1 := (sm_n hm hlr hsr).repr (by decide) (by decide)
  have ok2 := (sm_set wlr (fit_rows hfr hsr (by omega))).repr (by decide) (by decide)
  have ok3 := (sm_n hm hl hs).repr (by decide) (by decide)
  have ok4 := (sm_set wl (fit_rows hf hs (by omega))).repr (by decide) (by decide)
  have r1 := rev_netT (ss := ss)
  have r2 := rev_setT (ss := wss)
  refine u_asg (by (repeat' first | exact Rf.mk rfl | (apply Rd.mk; (try dsimp only [vals_n, vals_x, vals_v, bk_c, bk_d, pb_x, pb_v, pb_n, view_x, view_v, viewV_d, viewV_c, settle_d, settle_c, get_z, get_s, set_z, set_s, ka_n, ka_s, re_n, re_s, seqOf_t, seqOf_l, asgT, asgTs, Option.bind_some, ↓reduceIte, List.length_cons, List.length_nil]); (try exact rfl); done) | (with_reducible first | exact a1 | exact v_yesneg | exact q_nes | exact q_eqs | exact v_nat | exact v_neg | exact v_bl | exact v_non | exact v_str | exact ds_nil | exact os_nil | exact part_no | exact q_net0 | exact q_net1 | exact o_add | exact o_min | exact o_max | exact o_eq | exact o_ne | exact o_lt | exact o_le | exact o_gt | exact o_ge | exact q_lenN | exact q_lenU | exact q_lenS | exact q_lenM | exact q_lenMT | exact q_lenL | exact q_lenT | exact q_tupN | exact q_tupU | exact q_lstN | exact q_lstU | exact q_tupL | exact q_tupT | exact q_lstL | exact q_lstT | exact q_int | exact q_isT) | ((with_reducible apply v_var); apply Rd.mk; (try dsimp only [vals_n, vals_x, vals_v, bk_c, bk_d, pb_x, pb_v, pb_n, view_x, view_v, viewV_d, viewV_c, settle_d, settle_c, get_z, get_s, set_z, set_s, ka_n, ka_s, re_n, re_s, seqOf_t, seqOf_l, asgT, asgTs, Option.bind_some, ↓reduceIte, List.length_cons, List.length_nil]); (try with_reducible exact rfl); done) | ((with_reducible apply v_mv); apply Rd.mk; (try dsimp only [vals_n, vals_x, vals_v, bk_c, bk_d, pb_x, pb_v, pb_n, view_x, view_v, viewV_d, viewV_c, settle_d, settle_c, get_z, get_s, set_z, set_s, ka_n, ka_s, re_n, re_s, seqOf_t, seqOf_l, asgT, asgTs, Option.bind_some, ↓reduceIte, List.length_cons, List.length_nil]); (try with_reducible exact rfl); done) | ((with_reducible apply v_opx); exact Rf.mk rfl) | (with_reducible first | apply v_fr | apply v_mvc | apply v_o2 | apply v_o1 | apply v_call | apply v_da | apply v_opv | apply v_lst | apply v_tup | apply ds_cons | apply os_cons | apply v_app | apply v_not | apply v_tor | apply v_tand | apply v_tnot | apply v_te | apply v_slice | apply v_yesn | apply v_chain | apply v_seq | apply v_r1 | apply v_r1m | apply v_enT | apply v_enL | apply v_ofl | apply v_oftr | apply v_oft | apply o_mul | apply o_sub | apply o_mod | apply o_div | apply o_shr | apply idx_nat | apply q_idx2 | apply q_idx3 | apply q_idx4 | apply q_idx5 | apply q_idx6 | apply q_idx7 | apply q_repr | apply idx_natL | assumption) | omega)) (by (repeat' first | exact Rf.mk rfl | (apply Rd.mk; (try dsimp only [vals_n, vals_x, vals_v, bk_c, bk_d, pb_x, pb_v, pb_n, view_x, view_v, viewV_d, viewV_c, settle_d, settle_c, get_z, get_s, set_z, set_s, ka_n, ka_s, re_n, re_s, seqOf_t, seqOf_l, asgT, asgTs, Option.bind_some, ↓reduceIte, List.length_cons, List.length_nil]); (try exact rfl); done) | (with_reducible first | exact v_yesneg | exact q_nes | exact q_eqs | exact v_nat | exact v_neg | exact v_bl | exact v_non | exact v_str | exact ds_nil | exact os_nil | exact part_no | exact q_net0 | exact q_net1 | exact o_add | exact o_min | exact o_max | exact o_eq | exact o_ne | exact o_lt | exact o_le | exact o_gt | exact o_ge | exact q_lenN | exact q_lenU | exact q_lenS | exact q_lenM | exact q_lenMT | exact q_lenL | exact q_lenT | exact q_tupN | exact q_tupU | exact q_lstN | exact q_lstU | exact q_tupL | exact q_tupT | exact q_lstL | exact q_lstT | exact q_int | exact q_isT) | ((with_reducible apply v_var); apply Rd.mk; (try dsimp only [vals_n, vals_x, vals_v, bk_c, bk_d, pb_x, pb_v, pb_n, view_x, view_v, viewV_d, viewV_c, settle_d, settle_c, get_z, get_s, set_z, set_s, ka_n, ka_s, re_n, re_s, seqOf_t, seqOf_l, asgT, asgTs, Option.bind_some, ↓reduceIte, List.length_cons, List.length_nil]); (try with_reducible exact rfl); done) | ((with_reducible apply v_mv); apply Rd.mk; (try dsimp only [vals_n, vals_x, vals_v, bk_c, bk_d, pb_x, pb_v, pb_n, view_x, view_v, viewV_d, viewV_c, settle_d, settle_c, get_z, get_s, set_z, set_s, ka_n, ka_s, re_n, re_s, seqOf_t, seqOf_l, asgT, asgTs, Option.bind_some, ↓reduceIte, List.length_cons, List.length_nil]); (try with_reducible exact rfl); done) | ((with_reducible apply v_opx); exact Rf.mk rfl) | (with_reducible first | apply v_fr | apply v_mvc | apply v_o2 | apply v_o1 | apply v_call | apply v_da | apply v_opv | apply v_lst | apply v_tup | apply ds_cons | apply os_cons | apply v_app | apply v_not | apply v_tor | apply v_tand | apply v_tnot | apply v_te | apply v_slice | apply v_yesn | apply v_chain | apply v_seq | apply v_r1 | apply v_r1m | apply v_enT | apply v_enL | apply v_ofl | apply v_oftr | apply v_oft | apply o_mul | apply o_sub | apply o_mod | apply o_div | apply o_shr | apply idx_nat | apply q_idx2 | apply q_idx3 | apply q_idx4 | apply q_idx5 | apply q_idx6 | apply q_idx7 | apply q_repr | apply idx_natL | assumption) | omega)) ?_
  refine u_asg (by (repeat' first | exact Rf.mk rfl | (apply Rd.mk; (try dsimp only [vals_n, vals_x, vals_v, bk_c, bk_d, pb_x, pb_v, pb_n, view_x, view_v, viewV_d, viewV_c, settle_d, settle_c, get_z, get_s, set_z, set_s, ka_n, ka_s, re_n, re_s, seqOf_t, seqOf_l, asgT, asgTs, Option.bind_some, ↓reduceIte, List.length_cons, List.length_nil]); (try exact rfl); done) | (with_reducible first | exact a2 | exact v_yesneg | exact q_nes | exact q_eqs | exact v_nat | exact v_neg | exact v_bl | exact v_non | exact v_str | exact ds_nil | exact os_nil | exact part_no | exact q_net0 | exact q_net1 | exact o_add | exact o_min | exact o_max | exact o_eq | exact o_ne | exact o_lt | exact o_le | exact o_gt | exact o_ge | exact q_lenN | exact q_lenU | exact q_lenS | exact q_lenM | exact q_lenMT | exact q_lenL | exact q_lenT | exact q_tupN | exact q_tupU | exact q_lstN | exact q_lstU | exact q_tupL | exact q_tupT | exact q_lstL | exact q_lstT | exact q_int | exact q_isT) | ((with_reducible apply v_var); apply Rd.mk; (try dsimp only [vals_n, vals_x, vals_v, bk_c, bk_d, pb_x, pb_v, pb_n, view_x, view_v, viewV_d, viewV_c, settle_d, settle_c, get_z, get_s, set_z, set_s, ka_n, ka_s, re_n, re_s, seqOf_t, seqOf_l, asgT, asgTs, Option.bind_some, ↓reduceIte, List.length_cons, List.length_nil]); (try with_reducible exact rfl); done) | ((with_reducible apply v_mv); apply Rd.mk; (try dsimp only [vals_n, vals_x, vals_v, bk_c, bk_d, pb_x, pb_v, pb_n, view_x, view_v, viewV_d, viewV_c, settle_d, settle_c, get_z, get_s, set_z, set_s, ka_n, ka_s, re_n, re_s, seqOf_t, seqOf_l, asgT, asgTs, Option.bind_some, ↓reduceIte, List.length_cons, List.length_nil]); (try with_reducible exact rfl); done) | ((with_reducible apply v_opx); exact Rf.mk rfl) | (with_reducible first | apply v_fr | apply v_mvc | apply v_o2 | apply v_o1 | apply v_call | apply v_da | apply v_opv | apply v_lst | apply v_tup | apply ds_cons | apply os_cons | apply v_app | apply v_not | apply v_tor | apply v_tand | apply v_tnot | apply v_te | apply v_slice | apply v_yesn | apply v_chain | apply v_seq | apply v_r1 | apply v_r1m | apply v_enT | apply v_enL | apply v_ofl | apply v_oftr | apply v_oft | apply o_mul | apply o_sub | apply o_mod | apply o_div | apply o_shr | apply idx_nat | apply q_idx2 | apply q_idx3 | apply q_idx4 | apply q_idx5 | apply q_idx6 | apply q_idx7 | apply q_repr | apply idx_natL | assumption) | omega)) (by (repeat' first | exact Rf.mk rfl | (apply Rd.mk; (try dsimp only [vals_n, vals_x, vals_v, bk_c, bk_d, pb_x, pb_v, pb_n, view_x, view_v, viewV_d, viewV_c, settle_d, settle_c, get_z, get_s, set_z, set_s, ka_n, ka_s, re_n, re_s, seqOf_t, seqOf_l, asgT, asgTs, Option.bind_some, ↓reduceIte, List.length_cons, List.length_nil]); (try exact rfl); done) | (with_reducible first | exact v_yesneg | exact q_nes | exact q_eqs | exact v_nat | exact v_neg | exact v_bl | exact v_non | exact v_str | exact ds_nil | exact os_nil | exact part_no | exact q_net0 | exact q_net1 | exact o_add | exact o_min | exact o_max | exact o_eq | exact o_ne | exact o_lt | exact o_le | exact o_gt | exact o_ge | exact q_lenN | exact q_lenU | exact q_lenS | exact q_lenM | exact q_lenMT | exact q_lenL | exact q_lenT | exact q_tupN | exact q_tupU | exact q_lstN | exact q_lstU | exact q_tupL | exact q_tupT | exact q_lstL | exact q_lstT | exact q_int | exact q_isT) | ((with_reducible apply v_var); apply Rd.mk; (try dsimp only [vals_n, vals_x, vals_v, bk_c, bk_d, pb_x, pb_v, pb_n, view_x, view_v, viewV_d, viewV_c, settle_d, settle_c, get_z, get_s, set_z, set_s, ka_n, ka_s, re_n, re_s, seqOf_t, seqOf_l, asgT, asgTs, Option.bind_some, ↓reduceIte, List.length_cons, List.length_nil]); (try with_reducible exact rfl); done) | ((with_reducible apply v_mv); apply Rd.mk; (try dsimp only [vals_n, vals_x, vals_v, bk_c, bk_d, pb_x, pb_v, pb_n, view_x, view_v, viewV_d, viewV_c, settle_d, settle_c, get_z, get_s, set_z, set_s, ka_n, ka_s, re_n, re_s, seqOf_t, seqOf_l, asgT, asgTs, Option.bind_some, ↓reduceIte, List.length_cons, List.length_nil]); (try with_reducible exact rfl); done) | ((with_reducible apply v_opx); exact Rf.mk rfl) | (with_reducible first | apply v_fr | apply v_mvc | apply v_o2 | apply v_o1 | apply v_call | apply v_da | apply v_opv | apply v_lst | apply v_tup | apply ds_cons | apply os_cons | apply v_app | apply v_not | apply v_tor | apply v_tand | apply v_tnot | apply v_te | apply v_slice | apply v_yesn | apply v_chain | apply v_seq | apply v_r1 | apply v_r1m | apply v_enT | apply v_enL | apply v_ofl | apply v_oftr | apply v_oft | apply o_mul | apply o_sub | apply o_mod | apply o_div | apply o_shr | apply idx_nat | apply q_idx2 | apply q_idx3 | apply q_idx4 | apply q_idx5 | apply q_idx6 | apply q_idx7 | apply q_repr | apply idx_natL | assumption) | omega)) ?_
  have tp : evalE (callF T (n + 2)) (.tup (.cons (.o2 .idx (.var 0) (.int 0)) (.cons (.o1 .revT (.o2 .idx (.var 0) (.int 1))) .nil))) [.d (netP m ss), .d (setP wss), .d (netP m ss.reverse), .d (setP wss.reverse), .u, .u] = .ok (.d (.tuple [natD m, .tuple (ss.reverse.map stP)]), [.d (netP m ss), .d (setP wss), .d (netP m ss.reverse), .d (setP wss.reverse), .u, .u]) := by (repeat' first | exact Rf.mk rfl | (apply Rd.mk; (try dsimp only [vals_n, vals_x, vals_v, bk_c, bk_d, pb_x, pb_v, pb_n, view_x, view_v, viewV_d, viewV_c, settle_d, settle_c, get_z, get_s, set_z, set_s, ka_n, ka_s, re_n, re_s, seqOf_t, seqOf_l, asgT, asgTs, Option.bind_some, ↓reduceIte, List.length_cons, List.length_nil]); (try exact rfl); done) | (with_reducible first | exact r1 | exact v_yesneg | exact q_nes | exact q_eqs | exact v_nat | exact v_neg | exact v_bl | exact v_non | exact v_str | exact ds_nil | exact os_nil | exact part_no | exact q_net0 | exact q_net1 | exact o_add | exact o_min | exact o_max | exact o_eq | exact o_ne | exact o_lt | exact o_le | exact o_gt | exact o_ge | exact q_lenN | exact q_lenU | exact q_lenS | exact q_lenM | exact q_lenMT | exact q_lenL | exact q_lenT | exact q_tupN | exact q_tupU | exact q_lstN | exact q_lstU | exact q_tupL | exact q_tupT | exact q_lstL | exact q_lstT | exact q_int | exact q_isT) | ((with_reducible apply v_var); apply Rd.mk; (try dsimp only [vals_n, vals_x, vals_v, bk_c, bk_d, pb_x, pb_v, pb_n, view_x, view_v, viewV_d, viewV_c, settle_d, settle_c, get_z, get_s, set_z, set_s, ka_n, ka_s, re_n, re_s, seqOf_t, seqOf_l, asgT, asgTs, Option.bind_some, ↓reduceIte, List.length_cons, List.length_nil]); (try with_reducible exact rfl); done) | ((with_reducible apply v_mv); apply Rd.mk; (try dsimp only [vals_n, vals_x, vals_v, bk_c, bk_d, pb_x, pb_v, pb_n, view_x, view_v, viewV_d, viewV_c, settle_d, settle_c, get_z, get_s, set_z, set_s, ka_n, ka_s, re_n, re_s, seqOf_t, seqOf_l, asgT, asgTs, Option.bind_some, ↓reduceIte, List.length_cons, List.length_nil]); (try with_reducible exact rfl); done) | ((with_reducible apply v_opx); exact Rf.mk rfl) | (with_reducible first | apply v_fr | apply v_mvc | apply v_o2 | apply v_o1 | apply v_call | apply v_da | apply v_opv | apply v_lst | apply v_tup | apply ds_cons | apply os_cons | apply v_app | apply v_not | apply v_tor | apply v_tand | apply v_tnot | apply v_te | apply v_slice | apply v_yesn | apply v_chain | apply v_seq | apply v_r1 | apply v_r1m | apply v_enT | apply v_enL | apply v_ofl | apply v_oftr | apply v_oft | apply o_mul | apply o_sub | apply o_mod | apply o_div | apply o_shr | apply idx_nat | apply q_idx2 | apply q_idx3 | apply q_idx4 | apply q_idx5 | apply q_idx6 | apply q_idx7 | apply q_repr | apply idx_natL | assumption) | omega)
  have tp : evalE (callF T (n + 2)) (.tup (.cons (.o2 .idx (.var 0) (.int 0)) (.cons (.o1 .revT (.o2 .idx (.var 0) (.int 1))) .nil))) [.d (netP m ss), .d (setP wss), .d (netP m ss.reverse), .d (setP wss.reverse), .u, .u] = .ok (.d (netP m ss.reverse), [.d (netP m ss), .d (setP wss), .d (netP m ss.reverse), .d (setP wss.reverse), .u, .u]) := tp
  have g1 := q_repr ok1
  have g2 := q_repr ok2
  refine wp_no (t_or (x := false) (y := false) (by (repeat' first | exact Rf.mk rfl | (apply Rd.mk; (try dsimp only [vals_n, vals_x, vals_v, bk_c, bk_d, pb_x, pb_v, pb_n, view_x, view_v, viewV_d, viewV_c, settle_d, settle_c, get_z, get_s, set_z, set_s, ka_n, ka_s, re_n, re_s, seqOf_t, seqOf_l, asgT, asgTs, Option.bind_some, ↓reduceIte, List.length_cons, List.length_nil]); (try exact rfl); done) | (with_reducible first | exact tp | exact g1 | exact v_yesneg | exact q_nes | exact q_eqs | exact v_nat | exact v_neg | exact v_bl | exact v_non | exact v_str | exact ds_nil | exact os_nil | exact part_no | exact q_net0 | exact q_net1 | exact o_add | exact o_min | exact o_max | exact o_eq | exact o_ne | exact o_lt | exact o_le | exact o_gt | exact o_ge | exact q_lenN | exact q_lenU | exact q_lenS | exact q_lenM | exact q_lenMT | exact q_lenL | exact q_lenT | exact q_tupN | exact q_tupU | exact q_lstN | exact q_lstU | exact q_tupL | exact q_tupT | exact q_lstL | exact q_lstT | exact q_int | exact q_isT) | ((with_reducible apply v_var); apply Rd.mk; (try dsimp only [vals_n, vals_x, vals_v, bk_c, bk_d, pb_x, pb_v, pb_n, view_x, view_v, viewV_d, viewV_c, settle_d, settle_c, get_z, get_s, set_z, set_s, ka_n, ka_s, re_n, re_s, seqOf_t, seqOf_l, asgT, asgTs, Option.bind_some, ↓reduceIte, List.length_cons, List.length_nil]); (try with_reducible exact rfl); done) | ((with_reducible apply v_mv); apply Rd.mk; (try dsimp only [vals_n, vals_x, vals_v, bk_c, bk_d, pb_x, pb_v, pb_n, view_x, view_v, viewV_d, viewV_c, settle_d, settle_c, get_z, get_s, set_z, set_s, ka_n, ka_s, re_n, re_s, seqOf_t, seqOf_l, asgT, asgTs, Option.bind_some, ↓reduceIte, List.length_cons, List.length_nil]); (try with_reducible exact rfl); done) | ((with_reducible apply v_opx); exact Rf.mk rfl) | (with_reducible first | apply v_fr | apply v_mvc | apply v_o2 | apply v_o1 | apply v_call | apply v_da | apply v_opv | apply v_lst | apply v_tup | apply ds_cons | apply os_cons | apply v_app | apply v_not | apply v_tor | apply v_tand | apply v_tnot | apply v_te | apply v_slice | apply v_yesn | apply v_chain | apply v_seq | apply v_r1 | apply v_r1m | apply v_enT | apply v_enL | apply v_ofl | apply v_oftr | apply v_oft | apply o_mul | apply o_sub | apply o_mod | apply o_div | apply o_shr | apply idx_nat | apply q_idx2 | apply q_idx3 | apply q_idx4 | apply q_idx5 | apply q_idx6 | apply q_idx7 | apply q_repr | apply idx_natL | assumption) | omega)) (fun _ => by (repeat' first | exact Rf.mk rfl | (apply Rd.mk; (try dsimp only [vals_n, vals_x, vals_v, bk_c, bk_d, pb_x, pb_v, pb_n, view_x, view_v, viewV_d, viewV_c, settle_d, settle_c, get_z, get_s, set_z, set_s, ka_n, ka_s, re_n, re_s, seqOf_t, seqOf_l, asgT, asgTs, Option.bind_some, ↓reduceIte, List.length_cons, List.length_nil]); (try exact rfl); done) | (with_reducible first | exact r2 | exact g2 | exact v_yesneg | exact q_nes | exact q_eqs | exact v_nat | exact v_neg | exact v_bl | exact v_non | exact v_str | exact ds_nil | exact os_nil | exact part_no | exact q_net0 | exact q_net1 | exact o_add | exact o_min | exact o_max | exact o_eq | exact o_ne | exact o_lt | exact o_le | exact o_gt | exact o_ge | exact q_lenN | exact q_lenU | exact q_lenS | exact q_lenM | exact q_lenMT | exact q_lenL | exact q_lenT | exact q_tupN | exact q_tupU | exact q_lstN | exact q_lstU | exact q_tupL | exact q_tupT | exact q_lstL | exact q_lstT | exact q_int | exact q_isT) | ((with_reducible apply v_var); apply Rd.mk; (try dsimp only [vals_n, vals_x, vals_v, bk_c, bk_d, pb_x, pb_v, pb_n, view_x, view_v, viewV_d, viewV_c, settle_d, settle_c, get_z, get_s, set_z, set_s, ka_n, ka_s, re_n, re_s, seqOf_t, seqOf_l, asgT, asgTs, Option.bind_some, ↓reduceIte, List.length_cons, List.length_nil]); (try with_reducible exact rfl); done) | ((with_reducible apply v_mv); apply Rd.mk; (try dsimp only [vals_n, vals_x, vals_v, bk_c, bk_d, pb_x, pb_v, pb_n, view_x, view_v, viewV_d, viewV_c, settle_d, settle_c, get_z, get_s, set_z, set_s, ka_n, ka_s, re_n, re_s, seqOf_t, seqOf_l, asgT, asgTs, Option.bind_some, ↓reduceIte, List.length_cons, List.length_nil]); (try with_reducible exact rfl); done) | ((with_reducible apply v_opx); exact Rf.mk rfl) | (with_reducible first | apply v_fr | apply v_mvc | apply v_o2 | apply v_o1 | apply v_call | apply v_da | apply v_opv | apply v_lst | apply v_tup | apply ds_cons | apply os_cons | apply v_app | apply v_not | apply v_tor | apply v_tand | apply v_tnot | apply v_te | apply v_slice | apply v_yesn | apply v_chain | apply v_seq | apply v_r1 | apply v_r1m | apply v_enT | apply v_enL | apply v_ofl | apply v_oftr | apply v_oft | apply o_mul | apply o_sub | apply o_mod | apply o_div | apply o_shr | apply idx_nat | apply q_idx2 | apply q_idx3 | apply q_idx4 | apply q_idx5 | apply q_idx6 | apply q_idx7 | apply q_repr | apply idx_natL | assumption) | omega)) (fun h => by cases h)) ?_
  refine wp_forN (m := m) (by (repeat' first | exact Rf.mk rfl | (apply Rd.mk; (try dsimp only [vals_n, vals_x, vals_v, bk_c, bk_d, pb_x, pb_v, pb_n, view_x, view_v, viewV_d, viewV_c, settle_d, settle_c, get_z, get_s, set_z, set_s, ka_n, ka_s, re_n, re_s, seqOf_t, seqOf_l, asgT, asgTs, Option.bind_some, ↓reduceIte, List.length_cons, List.length_nil]); (try exact rfl); done) | (with_reducible first | exact v_yesneg | exact q_nes | exact q_eqs | exact v_nat | exact v_neg | exact v_bl | exact v_non | exact v_str | exact ds_nil | exact os_nil | exact part_no | exact q_net0 | exact q_net1 | exact o_add | exact o_min | exact o_max | exact o_eq | exact o_ne | exact o_lt | exact o_le | exact o_gt | exact o_ge | exact q_lenN | exact q_lenU | exact q_lenS | exact q_lenM | exact q_lenMT | exact q_lenL | exact q_lenT | exact q_tupN | exact q_tupU | exact q_lstN | exact q_lstU | exact q_tupL | exact q_tupT | exact q_lstL | exact q_lstT | exact q_int | exact q_isT) | ((with_reducible apply v_var); apply Rd.mk; (try dsimp only [vals_n, vals_x, vals_v, bk_c, bk_d, pb_x, pb_v, pb_n, view_x, view_v, viewV_d, viewV_c, settle_d, settle_c, get_z, get_s, set_z, set_s, ka_n, ka_s, re_n, re_s, seqOf_t, seqOf_l, asgT, asgTs, Option.bind_some, ↓reduceIte, List.length_cons, List.length_nil]); (try with_reducible exact rfl); done) | ((with_reducible apply v_mv); apply Rd.mk; (try dsimp only [vals_n, vals_x, vals_v, bk_c, bk_d, pb_x, pb_v, pb_n, view_x, view_v, viewV_d, viewV_c, settle_d, settle_c, get_z, get_s, set_z, set_s, ka_n, ka_s, re_n, re_s, seqOf_t, seqOf_l, asgT, asgTs, Option.bind_some, ↓reduceIte, List.length_cons, List.length_nil]); (try with_reducible exact rfl); done) | ((with_reducible apply v_opx); exact Rf.mk rfl) | (with_reducible first | apply v_fr | apply v_mvc | apply v_o2 | apply v_o1 | apply v_call | apply v_da | apply v_opv | apply v_lst | apply v_tup | apply ds_cons | apply os_cons | apply v_app | apply v_not | apply v_tor | apply v_tand | apply v_tnot | apply v_te | apply v_slice | apply v_yesn | apply v_chain | apply v_seq | apply v_r1 | apply v_r1m | apply v_enT | apply v_enL | apply v_ofl | apply v_oftr | apply v_oft | apply o_mul | apply o_sub | apply o_mod | apply o_div | apply o_shr | apply idx_nat | apply q_idx2 | apply q_idx3 | apply q_idx4 | apply q_idx5 | apply q_idx6 | apply q_idx7 | apply q_repr | apply idx_natL | assumption) | omega)) (fun j e => e = [.d (netP m ss), .d (setP wss), .d (netP m ss.reverse), .d (setP wss.reverse), .u, .u]) ?_ (fun e he => ?_) fun j e hj he => ?_
  · rfl
  · subst he
    obtain ⟨x3, a3, _⟩ := abt_ok (n + 1) (m := m) (ss := ss.reverse)
    obtain ⟨x4, a4, _⟩ := abs_ok (n + 1) (wss := wss.reverse)
    rw [List.reverse_reverse] at a3 a4
    have g3 := q_repr ok3
    have g4 := q_repr ok4
    (refine wp_ret (v_andT (by (repeat' first | exact Rf.mk rfl | (apply Rd.mk; (try dsimp only [vals_n, vals_x, vals_v, bk_c, bk_d, pb_x, pb_v, pb_n, view_x, view_v, viewV_d, viewV_c, settle_d, settle_c, get_z, get_s, set_z, set_s, ka_n, ka_s, re_n, re_s, seqOf_t, seqOf_l, asgT, asgTs, Option.bind_some, ↓reduceIte, List.length_cons, List.length_nil]); (try exact rfl); done) | (with_reducible first | exact a3 | exact g3 | exact v_yesneg | exact q_nes | exact q_eqs | exact v_nat | exact v_neg | exact v_bl | exact v_non | exact v_str | exact ds_nil | exact os_nil | exact part_no | exact q_net0 | exact q_net1 | exact o_add | exact o_min | exact o_max | exact o_eq | exact o_ne | exact o_lt | exact o_le | exact o_gt | exact o_ge | exact q_lenN | exact q_lenU | exact q_lenS | exact q_lenM | exact q_lenMT | exact q_lenL | exact q_lenT | exact q_tupN | exact q_tupU | exact q_lstN | exact q_lstU | exact q_tupL | exact q_tupT | exact q_lstL | exact q_lstT | exact q_int | exact q_isT) | ((with_reducible apply v_var); apply Rd.mk; (try dsimp only [vals_n, vals_x, vals_v, bk_c, bk_d, pb_x, pb_v, pb_n, view_x, view_v, viewV_d, viewV_c, settle_d, settle_c, get_z, get_s, set_z, set_s, ka_n, ka_s, re_n, re_s, seqOf_t, seqOf_l, asgT, asgTs, Option.bind_some, ↓reduceIte, List.length_cons, List.length_nil]); (try with_reducible exact rfl); done) | ((with_reducible apply v_mv); apply Rd.mk; (try dsimp only [vals_n, vals_x, vals_v, bk_c, bk_d, pb_x, pb_v, pb_n, view_x, view_v, viewV_d, viewV_c, settle_d, settle_c, get_z, get_s, set_z, set_s, ka_n, ka_s, re_n, re_s, seqOf_t, seqOf_l, asgT, asgTs, Option.bind_some, ↓reduceIte, List.length_cons, List.length_nil]); (try with_reducible exact rfl); done) | ((with_reducible apply v_opx); exact Rf.mk rfl) | (with_reducible first | apply v_fr | apply v_mvc | apply v_o2 | apply v_o1 | apply v_call | apply v_da | apply v_opv | apply v_lst | apply v_tup | apply ds_cons | apply os_cons | apply v_app | apply v_not | apply v_tor | apply v_tand | apply v_tnot | apply v_te | apply v_slice | apply v_yesn | apply v_chain | apply v_seq | apply v_r1 | apply v_r1m | apply v_enT | apply v_enL | apply v_ofl | apply v_oftr | apply v_oft | apply o_mul | apply o_sub | apply o_mod | apply o_div | apply o_shr | apply idx_nat | apply q_idx2 | apply q_idx3 | apply q_idx4 | apply q_idx5 | apply q_idx6 | apply q_idx7 | apply q_repr | apply idx_natL | assumption) | omega)) (by (repeat' first | exact Rf.mk rfl | (apply Rd.mk; (try dsimp only [vals_n, vals_x, vals_v, bk_c, bk_d, pb_x, pb_v, pb_n, view_x, view_v, viewV_d, viewV_c, settle_d, settle_c, get_z, get_s, set_z, set_s, ka_n, ka_s, re_n, re_s, seqOf_t, seqOf_l, asgT, asgTs, Option.bind_some, ↓reduceIte, List.length_cons, List.length_nil]); (try exact rfl); done) | (with_reducible first | exact a4 | exact g4 | exact v_yesneg | exact q_nes | exact q_eqs | exact v_nat | exact v_neg | exact v_bl | exact v_non | exact v_str | exact ds_nil | exact os_nil | exact part_no | exact q_net0 | exact q_net1 | exact o_add | exact o_min | exact o_max | exact o_eq | exact o_ne | exact o_lt | exact o_le | exact o_gt | exact o_ge | exact q_lenN | exact q_lenU | exact q_lenS | exact q_lenM | exact q_lenMT | exact q_lenL | exact q_lenT | exact q_tupN | exact q_tupU | exact q_lstN | exact q_lstU | exact q_tupL | exact q_tupT | exact q_lstL | exact q_lstT | exact q_int | exact q_isT) | ((with_reducible apply v_var); apply Rd.mk; (try dsimp only [vals_n, vals_x, vals_v, bk_c, bk_d, pb_x, pb_v, pb_n, view_x, view_v, viewV_d, viewV_c, settle_d, settle_c, get_z, get_s, set_z, set_s, ka_n, ka_s, re_n, re_s, seqOf_t, seqOf_l, asgT, asgTs, Option.bind_some, ↓reduceIte, List.length_cons, List.length_nil]); (try with_reducible exact rfl); done) | ((with_reducible apply v_mv); apply Rd.mk; (try dsimp only [vals_n, vals_x, vals_v, bk_c, bk_d, pb_x, pb_v, pb_n, view_x, view_v, viewV_d, viewV_c, settle_d, settle_c, get_z, get_s, set_z, set_s, ka_n, ka_s, re_n, re_s, seqOf_t, seqOf_l, asgT, asgTs, Option.bind_some, ↓reduceIte, List.length_cons, List.length_nil]); (try with_reducible exact rfl); done) | ((with_reducible apply v_opx); exact Rf.mk rfl) | (with_reducible first | apply v_fr | apply v_mvc | apply v_o2 | apply v_o1 | apply v_call | apply v_da | apply v_opv | apply v_lst | apply v_tup | apply ds_cons | apply os_cons | apply v_app | apply v_not | apply v_tor | apply v_tand | apply v_tnot | apply v_te | apply v_slice | apply v_yesn | apply v_chain | apply v_seq | apply v_r1 | apply v_r1m | apply v_enT | apply v_enL | apply v_ofl | apply v_oftr | apply v_oft | apply o_mul | apply o_sub | apply o_mod | apply o_div | apply o_shr | apply idx_nat | apply q_idx2 | apply q_idx3 | apply q_idx4 | apply q_idx5 | apply q_idx6 | apply q_idx7 | apply q_repr | apply idx_natL | assumption) | omega))) ?_; exact ⟨_, _, rfl, rfl, trivial⟩)
  subst he
  dsimp only [set_z, set_s]
  obtain ⟨x5, y5, z5, w5⟩ := way_ok hA hW n (m := m) (w := j) hf (by omega)
  refine u_asg (by (repeat' first | exact Rf.mk rfl | (apply Rd.mk; (try dsimp only [vals_n, vals_x, vals_v, bk_c, bk_d, pb_x, pb_v, pb_n, view_x, view_v, viewV_d, viewV_c, settle_d, settle_c, get_z, get_s, set_z, set_s, ka_n, ka_s, re_n, re_s, seqOf_t, seqOf_l, asgT, asgTs, Option.bind_some, ↓reduceIte, List.length_cons, List.length_nil]); (try exact rfl); done) | (with_reducible first | exact w5 | exact v_yesneg | exact q_nes | exact q_eqs | exact v_nat | exact v_neg | exact v_bl | exact v_non | exact v_str | exact ds_nil | exact os_nil | exact part_no | exact q_net0 | exact q_net1 | exact o_add | exact o_min | exact o_max | exact o_eq | exact o_ne | exact o_lt | exact o_le | exact o_gt | exact o_ge | exact q_lenN | exact q_lenU | exact q_lenS | exact q_lenM | exact q_lenMT | exact q_lenL | exact q_lenT | exact q_tupN | exact q_tupU | exact q_lstN | exact q_lstU | exact q_tupL | exact q_tupT | exact q_lstL | exact q_lstT | exact q_int | exact q_isT) | ((with_reducible apply v_var); apply Rd.mk; (try dsimp only [vals_n, vals_x, vals_v, bk_c, bk_d, pb_x, pb_v, pb_n, view_x, view_v, viewV_d, viewV_c, settle_d, settle_c, get_z, get_s, set_z, set_s, ka_n, ka_s, re_n, re_s, seqOf_t, seqOf_l, asgT, asgTs, Option.bind_some, ↓reduceIte, List.length_cons, List.length_nil]); (try with_reducible exact rfl); done) | ((with_reducible apply v_mv); apply Rd.mk; (try dsimp only [vals_n, vals_x, vals_v, bk_c, bk_d, pb_x, pb_v, pb_n, view_x, view_v, viewV_d, viewV_c, settle_d, settle_c, get_z, get_s, set_z, set_s, ka_n, ka_s, re_n, re_s, seqOf_t, seqOf_l, asgT, asgTs, Option.bind_some, ↓reduceIte, List.length_cons, List.length_nil]); (try with_reducible exact rfl); done) | ((with_reducible apply v_opx); exact Rf.mk rfl) | (with_reducible first | apply v_fr | apply v_mvc | apply v_o2 | apply v_o1 | apply v_call | apply v_da | apply v_opv | apply v_lst | apply v_tup | apply ds_cons | apply os_cons | apply v_app | apply v_not | apply v_tor | apply v_tand | apply v_tnot | apply v_te | apply v_slice | apply v_yesn | apply v_chain | apply v_seq | apply v_r1 | apply v_r1m | apply v_enT | apply v_enL | apply v_ofl | apply v_oftr | apply v_oft | apply o_mul | apply o_sub | apply o_mod | apply o_div | apply o_shr | apply idx_nat | apply q_idx2 | apply q_idx3 | apply q_idx4 | apply q_idx5 | apply q_idx6 | apply q_idx7 | apply q_repr | apply idx_natL | assumption) | omega)) (by (repeat' first | exact Rf.mk rfl | (apply Rd.mk; (try dsimp only [vals_n, vals_x, vals_v, bk_c, bk_d, pb_x, pb_v, pb_n, view_x, view_v, viewV_d, viewV_c, settle_d, settle_c, get_z, get_s, set_z, set_s, ka_n, ka_s, re_n, re_s, seqOf_t, seqOf_l, asgT, asgTs, Option.bind_some, ↓reduceIte, List.length_cons, List.length_nil]); (try exact rfl); done) | (with_reducible first | exact v_yesneg | exact q_nes | exact q_eqs | exact v_nat | exact v_neg | exact v_bl | exact v_non | exact v_str | exact ds_nil | exact os_nil | exact part_no | exact q_net0 | exact q_net1 | exact o_add | exact o_min | exact o_max | exact o_eq | exact o_ne | exact o_lt | exact o_le | exact o_gt | exact o_ge | exact q_lenN | exact q_lenU | exact q_lenS | exact q_lenM | exact q_lenMT | exact q_lenL | exact q_lenT | exact q_tupN | exact q_tupU | exact q_lstN | exact q_lstU | exact q_tupL | exact q_tupT | exact q_lstL | exact q_lstT | exact q_int | exact q_isT) | ((with_reducible apply v_var); apply Rd.mk; (try dsimp only [vals_n, vals_x, vals_v, bk_c, bk_d, pb_x, pb_v, pb_n, view_x, view_v, viewV_d, viewV_c, settle_d, settle_c, get_z, get_s, set_z, set_s, ka_n, ka_s, re_n, re_s, seqOf_t, seqOf_l, asgT, asgTs, Option.bind_some, ↓reduceIte, List.length_cons, List.length_nil]); (try with_reducible exact rfl); done) | ((with_reducible apply v_mv); apply Rd.mk; (try dsimp only [vals_n, vals_x, vals_v, bk_c, bk_d, pb_x, pb_v, pb_n, view_x, view_v, viewV_d, viewV_c, settle_d, settle_c, get_z, get_s, set_z, set_s, ka_n, ka_s, re_n, re_s, seqOf_t, seqOf_l, asgT, asgTs, Option.bind_some, ↓reduceIte, List.length_cons, List.length_nil]); (try with_reducible exact rfl); done) | ((with_reducible apply v_opx); exact Rf.mk rfl) | (with_reducible first | apply v_fr | apply v_mvc | apply v_o2 | apply v_o1 | apply v_call | apply v_da | apply v_opv | apply v_lst | apply v_tup | apply ds_cons | apply os_cons | apply v_app | apply v_not | apply v_tor | apply v_tand | apply v_tnot | apply v_te | apply v_slice | apply v_yesn | apply v_chain | apply v_seq | apply v_r1 | apply v_r1m | apply v_enT | apply v_enL | apply v_ofl | apply v_oftr | apply v_oft | apply o_mul | apply o_sub | apply o_mod | apply o_div | apply o_shr | apply idx_nat | apply q_idx2 | apply q_idx3 | apply q_idx4 | apply q_idx5 | apply q_idx6 | apply q_idx7 | apply q_repr | apply idx_natL | assumption) | omega)) ?_
  have l5 := lastW ss wss j
  obtain ⟨x6, y6, z6, w6⟩ := way_ok hA hW n (m := m) (w := endp ss wss j) hfr (by omega)
  rw [path_back j hf hs] at w6
  have r5 := rev_tup (l := j :: pathT ss wss j)
  have q0 : eqD (tupN (j :: pathT ss wss j).reverse) (tupN (j :: pathT ss wss j).reverse) = some true := by rw [eqD_tupN]; simp
  have q : op2 .ne (tupN (j :: pathT ss wss j).reverse) (tupN (j :: pathT ss wss j).reverse) = some (.d (.bool false)) := q_ne' q0
  exact wp_no (by (repeat' first | exact Rf.mk rfl | (apply Rd.mk; (try dsimp only [vals_n, vals_x, vals_v, bk_c, bk_d, pb_x, pb_v, pb_n, view_x, view_v, viewV_d, viewV_c, settle_d, settle_c, get_z, get_s, set_z, set_s, ka_n, ka_s, re_n, re_s, seqOf_t, seqOf_l, asgT, asgTs, Option.bind_some, ↓reduceIte, List.length_cons, List.length_nil]); (try exact rfl); done) | (with_reducible first | exact w6 | exact l5 | exact r5 | exact q | exact v_yesneg | exact q_nes | exact q_eqs | exact v_nat | exact v_neg | exact v_bl | exact v_non | exact v_str | exact ds_nil | exact os_nil | exact part_no | exact q_net0 | exact q_net1 | exact o_add | exact o_min | exact o_max | exact o_eq | exact o_ne | exact o_lt | exact o_le | exact o_gt | exact o_ge | exact q_lenN | exact q_lenU | exact q_lenS | exact q_lenM | exact q_lenMT | exact q_lenL | exact q_lenT | exact q_tupN | exact q_tupU | exact q_lstN | exact q_lstU | exact q_tupL | exact q_tupT | exact q_lstL | exact q_lstT | exact q_int | exact q_isT) | ((with_reducible apply v_var); apply Rd.mk; (try dsimp only [vals_n, vals_x, vals_v, bk_c, bk_d, pb_x, pb_v, pb_n, view_x, view_v, viewV_d, viewV_c, settle_d, settle_c, get_z, get_s, set_z, set_s, ka_n, ka_s, re_n, re_s, seqOf_t, seqOf_l, asgT, asgTs, Option.bind_some, ↓reduceIte, List.length_cons, List.length_nil]); (try with_reducible exact rfl); done) | ((with_reducible apply v_mv); apply Rd.mk; (try dsimp only [vals_n, vals_x, vals_v, bk_c, bk_d, pb_x, pb_v, pb_n, view_x, view_v, viewV_d, viewV_c, settle_d, settle_c, get_z, get_s, set_z, set_s, ka_n, ka_s, re_n, re_s, seqOf_t, seqOf_l, asgT, asgTs, Option.bind_some, ↓reduceIte, List.length_cons, List.length_nil]); (try with_reducible exact rfl); done) | ((with_reducible apply v_opx); exact Rf.mk rfl) | (with_reducible first | apply v_fr | apply v_mvc | apply v_o2 | apply v_o1 | apply v_call | apply v_da | apply v_opv | apply v_lst | apply v_tup | apply ds_cons | apply os_cons | apply v_app | apply v_not | apply v_tor | apply v_tand | apply v_tnot | apply v_te | apply v_slice | apply v_yesn | apply v_chain | apply v_seq | apply v_r1 | apply v_r1m | apply v_enT | apply v_enL | apply v_ofl | apply v_oftr | apply v_oft | apply o_mul | apply o_sub | apply o_mod | apply o_div | apply o_shr | apply idx_nat | apply q_idx2 | apply q_idx3 | apply q_idx4 | apply q_idx5 | apply q_idx6 | apply q_idx7 | apply q_repr | apply idx_natL | assumption) | omega)) (wp_nil rfl)
theorem law_val (ns : List Int) (_ : ns.length ≤ 63) : ∃ outs, callF T lvl "law" [.d (.list (ns.map .int))] = .ok (.d (.bool true), outs) := by
  suffices h : ∃ v outs, callF T 12 "law" [.d (.list (ns.map .int))] = .ok (v, outs) ∧ v = .d (.bool true) by
    obtain ⟨v, outs, h, rfl⟩ := h
    exact ⟨outs, h⟩
  refine call_wp (fun v outs => v = .d (.bool true)) (fd := b_law) rfl rfl ?_
  refine (show Wp _ (Sw.execs (callF T 11) b_law.body [.d (.list (ns.map .int)), .u, .u, .u]) from ?_)
  simp only [b_law, Ss.of, Es.of]
  have nl : ns.length ≤ 100000 := by omega
  refine wp_forN (m := max 1 (min 4 ns.length)) (by (repeat' first | exact Rf.mk rfl | (apply Rd.mk; (try dsimp only [vals_n, vals_x, vals_v, bk_c, bk_d, pb_x, pb_v, pb_n, view_x, view_v, viewV_d, viewV_c, settle_d, settle_c, get_z, get_s, set_z, set_s, ka_n, ka_s, re_n, re_s, seqOf_t, seqOf_l, asgT, asgTs, Option.bind_some, ↓reduceIte, List.length_cons, List.length_nil]); (try exact rfl); done) | (with_reducible first | exact v_yesneg | exact q_nes | exact q_eqs | exact v_nat | exact v_neg | exact v_bl | exact v_non | exact v_str | exact ds_nil | exact os_nil | exact part_no | exact q_net0 | exact q_net1 | exact o_add | exact o_min | exact o_max | exact o_eq | exact o_ne | exact o_lt | exact o_le | exact o_gt | exact o_ge | exact q_lenN | exact q_lenU | exact q_lenS | exact q_lenM | exact q_lenMT | exact q_lenL | exact q_lenT | exact q_tupN | exact q_tupU | exact q_lstN | exact q_lstU | exact q_tupL | exact q_tupT | exact q_lstL | exact q_lstT | exact q_int | exact q_isT) | ((with_reducible apply v_var); apply Rd.mk; (try dsimp only [vals_n, vals_x, vals_v, bk_c, bk_d, pb_x, pb_v, pb_n, view_x, view_v, viewV_d, viewV_c, settle_d, settle_c, get_z, get_s, set_z, set_s, ka_n, ka_s, re_n, re_s, seqOf_t, seqOf_l, asgT, asgTs, Option.bind_some, ↓reduceIte, List.length_cons, List.length_nil]); (try with_reducible exact rfl); done) | ((with_reducible apply v_mv); apply Rd.mk; (try dsimp only [vals_n, vals_x, vals_v, bk_c, bk_d, pb_x, pb_v, pb_n, view_x, view_v, viewV_d, viewV_c, settle_d, settle_c, get_z, get_s, set_z, set_s, ka_n, ka_s, re_n, re_s, seqOf_t, seqOf_l, asgT, asgTs, Option.bind_some, ↓reduceIte, List.length_cons, List.length_nil]); (try with_reducible exact rfl); done) | ((with_reducible apply v_opx); exact Rf.mk rfl) | (with_reducible first | apply v_fr | apply v_mvc | apply v_o2 | apply v_o1 | apply v_call | apply v_da | apply v_opv | apply v_lst | apply v_tup | apply ds_cons | apply os_cons | apply v_app | apply v_not | apply v_tor | apply v_tand | apply v_tnot | apply v_te | apply v_slice | apply v_yesn | apply v_chain | apply v_seq | apply v_r1 | apply v_r1m | apply v_enT | apply v_enL | apply v_ofl | apply v_oftr | apply v_oft | apply o_mul | apply o_sub | apply o_mod | apply o_div | apply o_shr | apply idx_nat | apply q_idx2 | apply q_idx3 | apply q_idx4 | apply q_idx5 | apply q_idx6 | apply q_idx7 | apply q_repr | apply idx_natL | assumption) | omega)) (fun j e => e = [.d (.list (ns.map .int)), .u, .u, .u]) ?_ (fun e he => ?_) fun j e hj he => ?_
  · rfl
  · subst he
    obtain ⟨x1, y1, h1, _⟩ := right_ok 8 (m := 1) (ss := []) (wss := []) (by decide) (by decide) (fun st h => by cases h) .nil
    have h1 : callF T 11 "_law_right" [.d (.tuple [natD 1, .tuple []]), .d (.tuple [])] = .ok (.d (.bool true), [x1, y1]) := h1
    obtain ⟨x2, y2, h2, _⟩ := right_ok 8 (m := 2) (ss := [[], [(0, 1)]]) (wss := [[], [1]]) (by decide) (by decide) (fun st h => by
      rcases List.mem_cons.mp h with z | z
      · rw [z]; exact ⟨fun p hp => (by cases hp), (by simp [wires]), (by decide)⟩
      · rw [List.mem_singleton.mp z]; exact ⟨fun p hp => (by rw [List.mem_singleton.mp hp]; decide), (by decide), (by decide)⟩) (.cons rfl (fun w h => (by cases h)) (.cons rfl (fun w h => (by rw [List.mem_singleton.mp h]; decide)) .nil))
    have h2 : callF T 11 "_law_right" [.d (.tuple [natD 2, .tuple [.tuple [], .tuple [.tuple [natD 0, natD 1]]]]), .d (.tuple [.tuple [], .tuple [natD 1]])] = .ok (.d (.bool true), [x2, y2]) := h2
    (refine wp_ret (v_andT (by (repeat' first | exact Rf.mk rfl | (apply Rd.mk; (try dsimp only [vals_n, vals_x, vals_v, bk_c, bk_d, pb_x, pb_v, pb_n, view_x, view_v, viewV_d, viewV_c, settle_d, settle_c, get_z, get_s, set_z, set_s, ka_n, ka_s, re_n, re_s, seqOf_t, seqOf_l, asgT, asgTs, Option.bind_some, ↓reduceIte, List.length_cons, List.length_nil]); (try exact rfl); done) | (with_reducible first | exact h1 | exact v_yesneg | exact q_nes | exact q_eqs | exact v_nat | exact v_neg | exact v_bl | exact v_non | exact v_str | exact ds_nil | exact os_nil | exact part_no | exact q_net0 | exact q_net1 | exact o_add | exact o_min | exact o_max | exact o_eq | exact o_ne | exact o_lt | exact o_le | exact o_gt | exact o_ge | exact q_lenN | exact q_lenU | exact q_lenS | exact q_lenM | exact q_lenMT | exact q_lenL | exact q_lenT | exact q_tupN | exact q_tupU | exact q_lstN | exact q_lstU | exact q_tupL | exact q_tupT | exact q_lstL | exact q_lstT | exact q_int | exact q_isT) | ((with_reducible apply v_var); apply Rd.mk; (try dsimp only [vals_n, vals_x, vals_v, bk_c, bk_d, pb_x, pb_v, pb_n, view_x, view_v, viewV_d, viewV_c, settle_d, settle_c, get_z, get_s, set_z, set_s, ka_n, ka_s, re_n, re_s, seqOf_t, seqOf_l, asgT, asgTs, Option.bind_some, ↓reduceIte, List.length_cons, List.length_nil]); (try with_reducible exact rfl); done) | ((with_reducible apply v_mv); apply Rd.mk; (try dsimp only [vals_n, vals_x, vals_v, bk_c, bk_d, pb_x, pb_v, pb_n, view_x, view_v, viewV_d, viewV_c, settle_d, settle_c, get_z, get_s, set_z, set_s, ka_n, ka_s, re_n, re_s, seqOf_t, seqOf_l, asgT, asgTs, Option.bind_some, ↓reduceIte, List.length_cons, List.length_nil]); (try with_reducible exact rfl); done) | ((with_reducible apply v_opx); exact Rf.mk rfl) | (with_reducible first | apply v_fr | apply v_mvc | apply v_o2 | apply v_o1 | apply v_call | apply v_da | apply v_opv | apply v_lst | apply v_tup | apply ds_cons | apply os_cons | apply v_app | apply v_not | apply v_tor | apply v_tand | apply v_tnot | apply v_te | apply v_slice | apply v_yesn | apply v_chain | apply v_seq | apply v_r1 | apply v_r1m | apply v_enT | apply v_enL | apply v_ofl | apply v_oftr | apply v_oft | apply o_mul | apply o_sub | apply o_mod | apply o_div | apply o_shr | apply idx_nat | apply q_idx2 | apply q_idx3 | apply q_idx4 | apply q_idx5 | apply q_idx6 | apply q_idx7 | apply q_repr | apply idx_natL | assumption) | omega)) (by (repeat' first | exact Rf.mk rfl | (apply Rd.mk; (try dsimp only [vals_n, vals_x, vals_v, bk_c, bk_d, pb_x, pb_v, pb_n, view_x, view_v, viewV_d, viewV_c, settle_d, settle_c, get_z, get_s, set_z, set_s, ka_n, ka_s, re_n, re_s, seqOf_t, seqOf_l, asgT, asgTs, Option.bind_some, ↓reduceIte, List.length_cons, List.length_nil]); (try exact rfl); done) | (with_reducible first | exact h2 | exact v_yesneg | exact q_nes | exact q_eqs | exact v_nat | exact v_neg | exact v_bl | exact v_non | exact v_str | exact ds_nil | exact os_nil | exact part_no | exact q_net0 | exact q_net1 | exact o_add | exact o_min | exact o_max | exact o_eq | exact o_ne | exact o_lt | exact o_le | exact o_gt | exact o_ge | exact q_lenN | exact q_lenU | exact q_lenS | exact q_lenM | exact q_lenMT | exact q_lenL | exact q_lenT | exact q_tupN | exact q_tupU | exact q_lstN | exact q_lstU | exact q_tupL | exact q_tupT | exact q_lstL | exact q_lstT | exact q_int | exact q_isT) | ((with_reducible apply v_var); apply Rd.mk; (try dsimp only [vals_n, vals_x, vals_v, bk_c, bk_d, pb_x, pb_v, pb_n, view_x, view_v, viewV_d, viewV_c, settle_d, settle_c, get_z, get_s, set_z, set_s, ka_n, ka_s, re_n, re_s, seqOf_t, seqOf_l, asgT, asgTs, Option.bind_some, ↓reduceIte, List.length_cons, List.length_nil]); (try with_reducible exact rfl); done) | ((with_reducible apply v_mv); apply Rd.mk; (try dsimp only [vals_n, vals_x, vals_v, bk_c, bk_d, pb_x, pb_v, pb_n, view_x, view_v, viewV_d, viewV_c, settle_d, settle_c, get_z, get_s, set_z, set_s, ka_n, ka_s, re_n, re_s, seqOf_t, seqOf_l, asgT, asgTs, Option.bind_some, ↓reduceIte, List.length_cons, List.length_nil]); (try with_reducible exact rfl); done) | ((with_reducible apply v_opx); exact Rf.mk rfl) | (with_reducible first | apply v_fr | apply v_mvc | apply v_o2 | apply v_o1 | apply v_call | apply v_da | apply v_opv | apply v_lst | apply v_tup | apply ds_cons | apply os_cons | apply v_app | apply v_not | apply v_tor | apply v_tand | apply v_tnot | apply v_te | apply v_slice | apply v_yesn | apply v_chain | apply v_seq | apply v_r1 | apply v_r1m | apply v_enT | apply v_enL | apply v_ofl | apply v_oftr | apply v_oft | apply o_mul | apply o_sub | apply o_mod | apply o_div | apply o_shr | apply idx_nat | apply q_idx2 | apply q_idx3 | apply q_idx4 | apply q_idx5 | apply q_idx6 | apply q_idx7 | apply q_repr | apply idx_natL | assumption) | omega))) ?_; exact rfl)
  subst he
  dsimp only [set_z, set_s]
  obtain ⟨c, hc⟩ := cell_ok hC 10 ns j (by omega)
  have hc : callF T 11 "_law_cell_at" [.d (.list (ns.map .int)), .d (natD j)] = .ok (.d (.int c), [.d (.list (ns.map .int)), .d (natD j)]) := hc
  obtain ⟨a, b, hb⟩ := begin_ok hB 10 c
  refine u_asg (by (repeat' first | exact Rf.mk rfl | (apply Rd.mk; (try dsimp only [vals_n, vals_x, vals_v, bk_c, bk_d, pb_x, pb_v, pb_n, view_x, view_v, viewV_d, viewV_c, settle_d, settle_c, get_z, get_s, set_z, set_s, ka_n, ka_s, re_n, re_s, seqOf_t, seqOf_l, asgT, asgTs, Option.bind_some, ↓reduceIte, List.length_cons, List.length_nil]); (try exact rfl); done) | (with_reducible first | exact hc | exact hb | exact v_yesneg | exact q_nes | exact q_eqs | exact v_nat | exact v_neg | exact v_bl | exact v_non | exact v_str | exact ds_nil | exact os_nil | exact part_no | exact q_net0 | exact q_net1 | exact o_add | exact o_min | exact o_max | exact o_eq | exact o_ne | exact o_lt | exact o_le | exact o_gt | exact o_ge | exact q_lenN | exact q_lenU | exact q_lenS | exact q_lenM | exact q_lenMT | exact q_lenL | exact q_lenT | exact q_tupN | exact q_tupU | exact q_lstN | exact q_lstU | exact q_tupL | exact q_tupT | exact q_lstL | exact q_lstT | exact q_int | exact q_isT) | ((with_reducible apply v_var); apply Rd.mk; (try dsimp only [vals_n, vals_x, vals_v, bk_c, bk_d, pb_x, pb_v, pb_n, view_x, view_v, viewV_d, viewV_c, settle_d, settle_c, get_z, get_s, set_z, set_s, ka_n, ka_s, re_n, re_s, seqOf_t, seqOf_l, asgT, asgTs, Option.bind_some, ↓reduceIte, List.length_cons, List.length_nil]); (try with_reducible exact rfl); done) | ((with_reducible apply v_mv); apply Rd.mk; (try dsimp only [vals_n, vals_x, vals_v, bk_c, bk_d, pb_x, pb_v, pb_n, view_x, view_v, viewV_d, viewV_c, settle_d, settle_c, get_z, get_s, set_z, set_s, ka_n, ka_s, re_n, re_s, seqOf_t, seqOf_l, asgT, asgTs, Option.bind_some, ↓reduceIte, List.length_cons, List.length_nil]); (try with_reducible exact rfl); done) | ((with_reducible apply v_opx); exact Rf.mk rfl) | (with_reducible first | apply v_fr | apply v_mvc | apply v_o2 | apply v_o1 | apply v_call | apply v_da | apply v_opv | apply v_lst | apply v_tup | apply ds_cons | apply os_cons | apply v_app | apply v_not | apply v_tor | apply v_tand | apply v_tnot | apply v_te | apply v_slice | apply v_yesn | apply v_chain | apply v_seq | apply v_r1 | apply v_r1m | apply v_enT | apply v_enL | apply v_ofl | apply v_oftr | apply v_oft | apply o_mul | apply o_sub | apply o_mod | apply o_div | apply o_shr | apply idx_nat | apply q_idx2 | apply q_idx3 | apply q_idx4 | apply q_idx5 | apply q_idx6 | apply q_idx7 | apply q_repr | apply idx_natL | assumption) | omega)) (by (repeat' first | exact Rf.mk rfl | (apply Rd.mk; (try dsimp only [vals_n, vals_x, vals_v, bk_c, bk_d, pb_x, pb_v, pb_n, view_x, view_v, viewV_d, viewV_c, settle_d, settle_c, get_z, get_s, set_z, set_s, ka_n, ka_s, re_n, re_s, seqOf_t, seqOf_l, asgT, asgTs, Option.bind_some, ↓reduceIte, List.length_cons, List.length_nil]); (try exact rfl); done) | (with_reducible first | exact v_yesneg | exact q_nes | exact q_eqs | exact v_nat | exact v_neg | exact v_bl | exact v_non | exact v_str | exact ds_nil | exact os_nil | exact part_no | exact q_net0 | exact q_net1 | exact o_add | exact o_min | exact o_max | exact o_eq | exact o_ne | exact o_lt | exact o_le | exact o_gt | exact o_ge | exact q_lenN | exact q_lenU | exact q_lenS | exact q_lenM | exact q_lenMT | exact q_lenL | exact q_lenT | exact q_tupN | exact q_tupU | exact q_lstN | exact q_lstU | exact q_tupL | exact q_tupT | exact q_lstL | exact q_lstT | exact q_int | exact q_isT) | ((with_reducible apply v_var); apply Rd.mk; (try dsimp only [vals_n, vals_x, vals_v, bk_c, bk_d, pb_x, pb_v, pb_n, view_x, view_v, viewV_d, viewV_c, settle_d, settle_c, get_z, get_s, set_z, set_s, ka_n, ka_s, re_n, re_s, seqOf_t, seqOf_l, asgT, asgTs, Option.bind_some, ↓reduceIte, List.length_cons, List.length_nil]); (try with_reducible exact rfl); done) | ((with_reducible apply v_mv); apply Rd.mk; (try dsimp only [vals_n, vals_x, vals_v, bk_c, bk_d, pb_x, pb_v, pb_n, view_x, view_v, viewV_d, viewV_c, settle_d, settle_c, get_z, get_s, set_z, set_s, ka_n, ka_s, re_n, re_s, seqOf_t, seqOf_l, asgT, asgTs, Option.bind_some, ↓reduceIte, List.length_cons, List.length_nil]); (try with_reducible exact rfl); done) | ((with_reducible apply v_opx); exact Rf.mk rfl) | (with_reducible first | apply v_fr | apply v_mvc | apply v_o2 | apply v_o1 | apply v_call | apply v_da | apply v_opv | apply v_lst | apply v_tup | apply ds_cons | apply os_cons | apply v_app | apply v_not | apply v_tor | apply v_tand | apply v_tnot | apply v_te | apply v_slice | apply v_yesn | apply v_chain | apply v_seq | apply v_r1 | apply v_r1m | apply v_enT | apply v_enL | apply v_ofl | apply v_oftr | apply v_oft | apply o_mul | apply o_sub | apply o_mod | apply o_div | apply o_shr | apply idx_nat | apply q_idx2 | apply q_idx3 | apply q_idx4 | apply q_idx5 | apply q_idx6 | apply q_idx7 | apply q_repr | apply idx_natL | assumption) | omega)) ?_
  obtain ⟨m, ss, a1, b1, y1, z1, h1, m0, _, hm, hl, hs⟩ := net_drawn hD hS hN 8 a b 32 20 (by decide) (by decide) (by decide)
  have sl : ss.length ≤ 20 := by omega
  refine u_asg (by (repeat' first | exact Rf.mk rfl | (apply Rd.mk; (try dsimp only [vals_n, vals_x, vals_v, bk_c, bk_d, pb_x, pb_v, pb_n, view_x, view_v, viewV_d, viewV_c, settle_d, settle_c, get_z, get_s, set_z, set_s, ka_n, ka_s, re_n, re_s, seqOf_t, seqOf_l, asgT, asgTs, Option.bind_some, ↓reduceIte, List.length_cons, List.length_nil]); (try exact rfl); done) | (with_reducible first | exact h1 | exact v_yesneg | exact q_nes | exact q_eqs | exact v_nat | exact v_neg | exact v_bl | exact v_non | exact v_str | exact ds_nil | exact os_nil | exact part_no | exact q_net0 | exact q_net1 | exact o_add | exact o_min | exact o_max | exact o_eq | exact o_ne | exact o_lt | exact o_le | exact o_gt | exact o_ge | exact q_lenN | exact q_lenU | exact q_lenS | exact q_lenM | exact q_lenMT | exact q_lenL | exact q_lenT | exact q_tupN | exact q_tupU | exact q_lstN | exact q_lstU | exact q_tupL | exact q_tupT | exact q_lstL | exact q_lstT | exact q_int | exact q_isT) | ((with_reducible apply v_var); apply Rd.mk; (try dsimp only [vals_n, vals_x, vals_v, bk_c, bk_d, pb_x, pb_v, pb_n, view_x, view_v, viewV_d, viewV_c, settle_d, settle_c, get_z, get_s, set_z, set_s, ka_n, ka_s, re_n, re_s, seqOf_t, seqOf_l, asgT, asgTs, Option.bind_some, ↓reduceIte, List.length_cons, List.length_nil]); (try with_reducible exact rfl); done) | ((with_reducible apply v_mv); apply Rd.mk; (try dsimp only [vals_n, vals_x, vals_v, bk_c, bk_d, pb_x, pb_v, pb_n, view_x, view_v, viewV_d, viewV_c, settle_d, settle_c, get_z, get_s, set_z, set_s, ka_n, ka_s, re_n, re_s, seqOf_t, seqOf_l, asgT, asgTs, Option.bind_some, ↓reduceIte, List.length_cons, List.length_nil]); (try with_reducible exact rfl); done) | ((with_reducible apply v_opx); exact Rf.mk rfl) | (with_reducible first | apply v_fr | apply v_mvc | apply v_o2 | apply v_o1 | apply v_call | apply v_da | apply v_opv | apply v_lst | apply v_tup | apply ds_cons | apply os_cons | apply v_app | apply v_not | apply v_tor | apply v_tand | apply v_tnot | apply v_te | apply v_slice | apply v_yesn | apply v_chain | apply v_seq | apply v_r1 | apply v_r1m | apply v_enT | apply v_enL | apply v_ofl | apply v_oftr | apply v_oft | apply o_mul | apply o_sub | apply o_mod | apply o_div | apply o_shr | apply idx_nat | apply q_idx2 | apply q_idx3 | apply q_idx4 | apply q_idx5 | apply q_idx6 | apply q_idx7 | apply q_repr | apply idx_natL | assumption) | omega)) (by (repeat' first | exact Rf.mk rfl | (apply Rd.mk; (try dsimp only [vals_n, vals_x, vals_v, bk_c, bk_d, pb_x, pb_v, pb_n, view_x, view_v, viewV_d, viewV_c, settle_d, settle_c, get_z, get_s, set_z, set_s, ka_n, ka_s, re_n, re_s, seqOf_t, seqOf_l, asgT, asgTs, Option.bind_some, ↓reduceIte, List.length_cons, List.length_nil]); (try exact rfl); done) | (with_reducible first | exact v_yesneg | exact q_nes | exact q_eqs | exact v_nat | exact v_neg | exact v_bl | exact v_non | exact v_str | exact ds_nil | exact os_nil | exact part_no | exact q_net0 | exact q_net1 | exact o_add | exact o_min | exact o_max | exact o_eq | exact o_ne | exact o_lt | exact o_le | exact o_gt | exact o_ge | exact q_lenN | exact q_lenU | exact q_lenS | exact q_lenM | exact q_lenMT | exact q_lenL | exact q_lenT | exact q_tupN | exact q_tupU | exact q_lstN | exact q_lstU | exact q_tupL | exact q_tupT | exact q_lstL | exact q_lstT | exact q_int | exact q_isT) | ((with_reducible apply v_var); apply Rd.mk; (try dsimp only [vals_n, vals_x, vals_v, bk_c, bk_d, pb_x, pb_v, pb_n, view_x, view_v, viewV_d, viewV_c, settle_d, settle_c, get_z, get_s, set_z, set_s, ka_n, ka_s, re_n, re_s, seqOf_t, seqOf_l, asgT, asgTs, Option.bind_some, ↓reduceIte, List.length_cons, List.length_nil]); (try with_reducible exact rfl); done) | ((with_reducible apply v_mv); apply Rd.mk; (try dsimp only [vals_n, vals_x, vals_v, bk_c, bk_d, pb_x, pb_v, pb_n, view_x, view_v, viewV_d, viewV_c, settle_d, settle_c, get_z, get_s, set_z, set_s, ka_n, ka_s, re_n, re_s, seqOf_t, seqOf_l, asgT, asgTs, Option.bind_some, ↓reduceIte, List.length_cons, List.length_nil]); (try with_reducible exact rfl); done) | ((with_reducible apply v_opx); exact Rf.mk rfl) | (with_reducible first | apply v_fr | apply v_mvc | apply v_o2 | apply v_o1 | apply v_call | apply v_da | apply v_opv | apply v_lst | apply v_tup | apply ds_cons | apply os_cons | apply v_app | apply v_not | apply v_tor | apply v_tand | apply v_tnot | apply v_te | apply v_slice | apply v_yesn | apply v_chain | apply v_seq | apply v_r1 | apply v_r1m | apply v_enT | apply v_enL | apply v_ofl | apply v_oftr | apply v_oft | apply o_mul | apply o_sub | apply o_mod | apply o_div | apply o_shr | apply idx_nat | apply q_idx2 | apply q_idx3 | apply q_idx4 | apply q_idx5 | apply q_idx6 | apply q_idx7 | apply q_repr | apply idx_natL | assumption) | omega)) ?_
  obtain ⟨wss, a2, b2, h2, hf⟩ := setting_ok hD hT 9 a1 b1 m ss (by omega) fun st hst => by have := (hs st hst).len; omega
  obtain ⟨x4, y4, h4, _⟩ := right_ok 8 hm sl hs hf
  exact wp_nf (t_not (x := true) (by (repeat' first | exact Rf.mk rfl | (apply Rd.mk; (try dsimp only [vals_n, vals_x, vals_v, bk_c, bk_d, pb_x, pb_v, pb_n, view_x, view_v, viewV_d, viewV_c, settle_d, settle_c, get_z, get_s, set_z, set_s, ka_n, ka_s, re_n, re_s, seqOf_t, seqOf_l, asgT, asgTs, Option.bind_some, ↓reduceIte, List.length_cons, List.length_nil]); (try exact rfl); done) | (with_reducible first | exact h2 | exact h4 | exact v_yesneg | exact q_nes | exact q_eqs | exact v_nat | exact v_neg | exact v_bl | exact v_non | exact v_str | exact ds_nil | exact os_nil | exact part_no | exact q_net0 | exact q_net1 | exact o_add | exact o_min | exact o_max | exact o_eq | exact o_ne | exact o_lt | exact o_le | exact o_gt | exact o_ge | exact q_lenN | exact q_lenU | exact q_lenS | exact q_lenM | exact q_lenMT | exact q_lenL | exact q_lenT | exact q_tupN | exact q_tupU | exact q_lstN | exact q_lstU | exact q_tupL | exact q_tupT | exact q_lstL | exact q_lstT | exact q_int | exact q_isT) | ((with_reducible apply v_var); apply Rd.mk; (try dsimp only [vals_n, vals_x, vals_v, bk_c, bk_d, pb_x, pb_v, pb_n, view_x, view_v, viewV_d, viewV_c, settle_d, settle_c, get_z, get_s, set_z, set_s, ka_n, ka_s, re_n, re_s, seqOf_t, seqOf_l, asgT, asgTs, Option.bind_some, ↓reduceIte, List.length_cons, List.length_nil]); (try with_reducible exact rfl); done) | ((with_reducible apply v_mv); apply Rd.mk; (try dsimp only [vals_n, vals_x, vals_v, bk_c, bk_d, pb_x, pb_v, pb_n, view_x, view_v, viewV_d, viewV_c, settle_d, settle_c, get_z, get_s, set_z, set_s, ka_n, ka_s, re_n, re_s, seqOf_t, seqOf_l, asgT, asgTs, Option.bind_some, ↓reduceIte, List.length_cons, List.length_nil]); (try with_reducible exact rfl); done) | ((with_reducible apply v_opx); exact Rf.mk rfl) | (with_reducible first | apply v_fr | apply v_mvc | apply v_o2 | apply v_o1 | apply v_call | apply v_da | apply v_opv | apply v_lst | apply v_tup | apply ds_cons | apply os_cons | apply v_app | apply v_not | apply v_tor | apply v_tand | apply v_tnot | apply v_te | apply v_slice | apply v_yesn | apply v_chain | apply v_seq | apply v_r1 | apply v_r1m | apply v_enT | apply v_enL | apply v_ofl | apply v_oftr | apply v_oft | apply o_mul | apply o_sub | apply o_mod | apply o_div | apply o_shr | apply idx_nat | apply q_idx2 | apply q_idx3 | apply q_idx4 | apply q_idx5 | apply q_idx6 | apply q_idx7 | apply q_repr | apply idx_natL | assumption) | omega))) (wp_nil rfl)
end K12
end T_P12
section T_LINK
set_option autoImplicit false
set_option linter.all false
set_option maxRecDepth 100000
set_option maxHeartbeats 2000000
namespace K12
open PySem L2 Sw
def top (i : Nat) : Stmt := PySem.Challenge.pw_switchrows_k12_nets_about.main.body.getD i (.Pass ⟨0, 0, 0, 0⟩)
abbrev s_about : Stmt := top 1
def n_about : List Str := ["net", "many", "stages"]
def p_about : List Str := ["net"]
abbrev s_about_setting : Stmt := top 2
def n_about_setting : List Str := ["setting"]
def p_about_setting : List Str := ["setting"]
abbrev s_law_cell_at : Stmt := top 4
def n_law_cell_at : List Str := ["_law_script", "_law_k"]
def p_law_cell_at : List Str := ["_law_script", "_law_k"]
abbrev s_law_begin : Stmt := top 5
def n_law_begin : List Str := ["_law_cell", "_law_seed"]
def p_law_begin : List Str := ["_law_cell"]
abbrev s_law_draw : Stmt := top 6
def n_law_draw : List Str := ["_law_state", "_law_many", "_law_got", "_law_number"]
def p_law_draw : List Str := ["_law_state", "_law_many"]
abbrev s_law_stage : Stmt := top 7
def n_law_stage : List Str := ["_law_state", "_law_many", "_law_wires", "_law_found", "_law_most", "_law_k", "_law_a", "_law_b"]
def p_law_stage : List Str := ["_law_state", "_law_many"]
abbrev s_law_net : Stmt := top 8
def n_law_net : List Str := ["_law_state", "_law_great", "_law_long", "_law_many", "_law_stages", "_law_k"]
def p_law_net : List Str := ["_law_state", "_law_great", "_law_long"]
abbrev s_law_setting : Stmt := top 9
def n_law_setting : List Str := ["_law_state", "_law_net_here", "_law_found", "_law_stage_here", "_law_switch"]
def p_law_setting : List Str := ["_law_state", "_law_net_here"]
abbrev s_law_across : Stmt := top 10
def n_law_across : List Str := ["_law_stage_here", "_law_ways", "_law_wire", "_law_switch", "_law_way_here"]
def p_law_across : List Str := ["_law_stage_here", "_law_ways", "_law_wire"]
abbrev s_law_way : Stmt := top 11
def n_law_way : List Str := ["_law_net_here", "_law_setting_here", "_law_wire", "_law_found", "_law_stage_here", "_law_ways"]
def p_law_way : List Str := ["_law_net_here", "_law_setting_here", "_law_wire"]
abbrev s_law_right : Stmt := top 12
def n_law_right : List Str := ["_law_net_here", "_law_setting_here", "_law_found", "_law_ways", "_law_wire", "_law_here"]
def p_law_right : List Str := ["_law_net_here", "_law_setting_here"]
abbrev s_law : Stmt := top 13
def n_law : List Str := ["_law_script", "_law_k", "_law_state", "_law_net_here"]
def p_law : List Str := ["_law_script"]
theorem c_about : cSs n_about (defScope s_about) (prF b_about) b_about.body (defBody s_about) = true := by decide +kernel
theorem c_about_setting : cSs n_about_setting (defScope s_about_setting) (prF b_about_setting) b_about_setting.body (defBody s_about_setting) = true := by decide +kernel
theorem c_law_cell_at : cSs n_law_cell_at (defScope s_law_cell_at) (prF b_law_cell_at) b_law_cell_at.body (defBody s_law_cell_at) = true := by decide +kernel
theorem c_law_begin : cSs n_law_begin (defScope s_law_begin) (prF b_law_begin) b_law_begin.body (defBody s_law_begin) = true := by decide +kernel
theorem c_law_draw : cSs n_law_draw (defScope s_law_draw) (prF b_law_draw) b_law_draw.body (defBody s_law_draw) = true := by decide +kernel
theorem c_law_stage : cSs n_law_stage (defScope s_law_stage) (prF b_law_stage) b_law_stage.body (defBody s_law_stage) = true := by decide +kernel
theorem c_law_net : cSs n_law_net (defScope s_law_net) (prF b_law_net) b_law_net.body (defBody s_law_net) = true := by decide +kernel
theorem c_law_setting : cSs n_law_setting (defScope s_law_setting) (prF b_law_setting) b_law_setting.body (defBody s_law_setting) = true := by decide +kernel
theorem c_law_across : cSs n_law_across (defScope s_law_across) (prF b_law_across) b_law_across.body (defBody s_law_across) = true := by decide +kernel
theorem c_law_way : cSs n_law_way (defScope s_law_way) (prF b_law_way) b_law_way.body (defBody s_law_way) = true := by decide +kernel
theorem c_law_right : cSs n_law_right (defScope s_law_right) (prF b_law_right) b_law_right.body (defBody s_law_right) = true := by decide +kernel
theorem c_law : cSs n_law (defScope s_law) (prF b_law) b_law.body (defBody s_law) = true := by decide +kernel
theorem tab_mk {K : PySem.W.Frag} {h : Heap} {mg : Str → Option Value} (X : K.In h) (G : h.Ns mainGlobals mg)
    {f1 : Addr} {od1 an1 : Option Addr} {sl1 : Array (Option Value)} {oc1 kV1 dc1 pm1 cd1 ct1 : Value}
    {f2 : Addr} {od2 an2 : Option Addr} {sl2 : Array (Option Value)} {oc2 kV2 dc2 pm2 cd2 ct2 : Value}
    {f3 : Addr} {od3 an3 : Option Addr} {sl3 : Array (Option Value)} {oc3 kV3 dc3 pm3 cd3 ct3 : Value}
    {f4 : Addr} {od4 an4 : Option Addr} {sl4 : Array (Option Value)} {oc4 kV4 dc4 pm4 cd4 ct4 : Value}
    {f5 : Addr} {od5 an5 : Option Addr} {sl5 : Array (Option Value)} {oc5 kV5 dc5 pm5 cd5 ct5 : Value}
    {f6 : Addr} {od6 an6 : Option Addr} {sl6 : Array (Option Value)} {oc6 kV6 dc6 pm6 cd6 ct6 : Value}
    {f7 : Addr} {od7 an7 : Option Addr} {sl7 : Array (Option Value)} {oc7 kV7 dc7 pm7 cd7 ct7 : Value}
    {f8 : Addr} {od8 an8 : Option Addr} {sl8 : Array (Option Value)} {oc8 kV8 dc8 pm8 cd8 ct8 : Value}
    {f9 : Addr} {od9 an9 : Option Addr} {sl9 : Array (Option Value)} {oc9 kV9 dc9 pm9 cd9 ct9 : Value}
    {f10 : Addr} {od10 an10 : Option Addr} {sl10 : Array (Option Value)} {oc10 kV10 dc10 pm10 cd10 ct10 : Value}
    {f11 : Addr} {od11 an11 : Option Addr} {sl11 : Array (Option Value)} {oc11 kV11 dc11 pm11 cd11 ct11 : Value}
    {f12 : Addr} {od12 an12 : Option Addr} {sl12 : Array (Option Value)} {oc12 kV12 dc12 pm12 cd12 ct12 : Value}
    (a1 : PySem.W.nsIn K mainGlobals "about" = some (some (.ref f1))) (l1 : K.lookup f1 = some ⟨oc1, od1, .func (PySem.W.fnOf "about" "about" (defArgs s_about) (defBody s_about) (defScope s_about) .none kV1 dc1 pm1 an1 cd1 ct1), sl1⟩) (c1 : PySem.W.codeIn K cd1 "about" = true) (k1 : PySem.W.keepIn K (.ref f1) = true)
    (a2 : PySem.W.nsIn K mainGlobals "about_setting" = some (some (.ref f2))) (l2 : K.lookup f2 = some ⟨oc2, od2, .func (PySem.W.fnOf "about_setting" "about_setting" (defArgs s_about_setting) (defBody s_about_setting) (defScope s_about_setting) .none kV2 dc2 pm2 an2 cd2 ct2), sl2⟩) (c2 : PySem.W.codeIn K cd2 "about_setting" = true) (k2 : PySem.W.keepIn K (.ref f2) = true)
    (a3 : PySem.W.nsIn K mainGlobals "_law_cell_at" = some (some (.ref f3))) (l3 : K.lookup f3 = some ⟨oc3, od3, .func (PySem.W.fnOf "_law_cell_at" "_law_cell_at" (defArgs s_law_cell_at) (defBody s_law_cell_at) (defScope s_law_cell_at) .none kV3 dc3 pm3 an3 cd3 ct3), sl3⟩) (c3 : PySem.W.codeIn K cd3 "_law_cell_at" = true) (k3 : PySem.W.keepIn K (.ref f3) = true)
    (a4 : PySem.W.nsIn K mainGlobals "_law_begin" = some (some (.ref f4))) (l4 : K.lookup f4 = some ⟨oc4, od4, .func (PySem.W.fnOf "_law_begin" "_law_begin" (defArgs s_law_begin) (defBody s_law_begin) (defScope s_law_begin) .none kV4 dc4 pm4 an4 cd4 ct4), sl4⟩) (c4 : PySem.W.codeIn K cd4 "_law_begin" = true) (k4 : PySem.W.keepIn K (.ref f4) = true)
    (a5 : PySem.W.nsIn K mainGlobals "_law_draw" = some (some (.ref f5))) (l5 : K.lookup f5 = some ⟨oc5, od5, .func (PySem.W.fnOf "_law_draw" "_law_draw" (defArgs s_law_draw) (defBody s_law_draw) (defScope s_law_draw) .none kV5 dc5 pm5 an5 cd5 ct5), sl5⟩) (c5 : PySem.W.codeIn K cd5 "_law_draw" = true) (k5 : PySem.W.keepIn K (.ref f5) = true)
    (a6 : PySem.W.nsIn K mainGlobals "_law_stage" = some (some (.ref f6))) (l6 : K.lookup f6 = some ⟨oc6, od6, .func (PySem.W.fnOf "_law_stage" "_law_stage" (defArgs s_law_stage) (defBody s_law_stage) (defScope s_law_stage) .none kV6 dc6 pm6 an6 cd6 ct6), sl6⟩) (c6 : PySem.W.codeIn K cd6 "_law_stage" = true) (k6 : PySem.W.keepIn K (.ref f6) = true)
    (a7 : PySem.W.nsIn K mainGlobals "_law_net" = some (some (.ref f7))) (l7 : K.lookup f7 = some ⟨oc7, od7, .func (PySem.W.fnOf "_law_net" "_law_net" (defArgs s_law_net) (defBody s_law_net) (defScope s_law_net) .none kV7 dc7 pm7 an7 cd7 ct7), sl7⟩) (c7 : PySem.W.codeIn K cd7 "_law_net" = true) (k7 : PySem.W.keepIn K (.ref f7) = true)
    (a8 : PySem.W.nsIn K mainGlobals "_law_setting" = some (some (.ref f8))) (l8 : K.lookup f8 = some ⟨oc8, od8, .func (PySem.W.fnOf "_law_setting" "_law_setting" (defArgs s_law_setting) (defBody s_law_setting) (defScope s_law_setting) .none kV8 dc8 pm8 an8 cd8 ct8), sl8⟩) (c8 : PySem.W.codeIn K cd8 "_law_setting" = true) (k8 : PySem.W.keepIn K (.ref f8) = true)
    (a9 : PySem.W.nsIn K mainGlobals "_law_across" = some (some (.ref f9))) (l9 : K.lookup f9 = some ⟨oc9, od9, .func (PySem.W.fnOf "_law_across" "_law_across" (defArgs s_law_across) (defBody s_law_across) (defScope s_law_across) .none kV9 dc9 pm9 an9 cd9 ct9), sl9⟩) (c9 : PySem.W.codeIn K cd9 "_law_across" = true) (k9 : PySem.W.keepIn K (.ref f9) = true)
    (a10 : PySem.W.nsIn K mainGlobals "_law_way" = some (some (.ref f10))) (l10 : K.lookup f10 = some ⟨oc10, od10, .func (PySem.W.fnOf "_law_way" "_law_way" (defArgs s_law_way) (defBody s_law_way) (defScope s_law_way) .none kV10 dc10 pm10 an10 cd10 ct10), sl10⟩) (c10 : PySem.W.codeIn K cd10 "_law_way" = true) (k10 : PySem.W.keepIn K (.ref f10) = true)
    (a11 : PySem.W.nsIn K mainGlobals "_law_right" = some (some (.ref f11))) (l11 : K.lookup f11 = some ⟨oc11, od11, .func (PySem.W.fnOf "_law_right" "_law_right" (defArgs s_law_right) (defBody s_law_right) (defScope s_law_right) .none kV11 dc11 pm11 an11 cd11 ct11), sl11⟩) (c11 : PySem.W.codeIn K cd11 "_law_right" = true) (k11 : PySem.W.keepIn K (.ref f11) = true)
    (a12 : PySem.W.nsIn K mainGlobals "law" = some (some (.ref f12))) (l12 : K.lookup f12 = some ⟨oc12, od12, .func (PySem.W.fnOf "law" "law" (defArgs s_law) (defBody s_law) (defScope s_law) .none kV12 dc12 pm12 an12 cd12 ct12), sl12⟩) (c12 : PySem.W.codeIn K cd12 "law" = true) (k12 : PySem.W.keepIn K (.ref f12) = true)
    (z1 : PySem.W.nsIn K mainGlobals "len" = some none) (z2 : PySem.W.nsIn K mainGlobals "tuple" = some none) (z3 : PySem.W.nsIn K mainGlobals "list" = some none) (z4 : PySem.W.nsIn K mainGlobals "sorted" = some none) (z5 : PySem.W.nsIn K mainGlobals "sum" = some none) (z6 : PySem.W.nsIn K mainGlobals "min" = some none) (z7 : PySem.W.nsIn K mainGlobals "max" = some none) (z8 : PySem.W.nsIn K mainGlobals "all" = some none) (z9 : PySem.W.nsIn K mainGlobals "any" = some none) (z10 : PySem.W.nsIn K mainGlobals "repr" = some none) (z11 : PySem.W.nsIn K mainGlobals "str" = some none) (z12 : PySem.W.nsIn K mainGlobals "int" = some none) (z13 : PySem.W.nsIn K mainGlobals "set" = some none) (z14 : PySem.W.nsIn K mainGlobals "isinstance" = some none) (z15 : PySem.W.nsIn K mainGlobals "range" = some none) (z16 : PySem.W.nsIn K mainGlobals "zip" = some none) (z17 : PySem.W.nsIn K mainGlobals "enumerate" = some none) (z18 : PySem.W.nsIn K mainGlobals "bool" = some none) (z19 : PySem.W.nsIn K mainGlobals "reversed" = some none) (z20 : PySem.W.nsIn K mainGlobals "dict" = some none) :
    TabOk K mg T ∧ (∀ b ∈ blts, mg (Str.ofString b) = none) ∧ T "law" = some b_law ∧ ∃ fa FD, DefAt K mg "law" b_law s_law n_law ["_law_script"] fa FD ∧ ∀ (t : Shared) (u : Value), BindsTo t FD ⟨[u], []⟩ [("_law_script", u)] := by
  have D1 : DefAt K mg "about" b_about s_about n_about p_about f1 _ := ⟨fun_mk l1 c1 k1, (fun_mk l1 c1 k1).binds (ps := p_about) fun _ _ _ _ _ _ us hl => (match us, hl with | [_], _ => rfl), PySem.W.mg_of X G a1, ⟨rfl, rfl, rfl, by decide +kernel, rfl, by decide +kernel, by decide +kernel⟩, c_about, rfl⟩
  have D2 : DefAt K mg "about_setting" b_about_setting s_about_setting n_about_setting p_about_setting f2 _ := ⟨fun_mk l2 c2 k2, (fun_mk l2 c2 k2).binds (ps := p_about_setting) fun _ _ _ _ _ _ us hl => (match us, hl with | [_], _ => rfl), PySem.W.mg_of X G a2, ⟨rfl, rfl, rfl, by decide +kernel, rfl, by decide +kernel, by decide +kernel⟩, c_about_setting, rfl⟩
  have D3 : DefAt K mg "_law_cell_at" b_law_cell_at s_law_cell_at n_law_cell_at p_law_cell_at f3 _ := ⟨fun_mk l3 c3 k3, (fun_mk l3 c3 k3).binds (ps := p_law_cell_at) fun _ _ _ _ _ _ us hl => (match us, hl with | [_, _], _ => rfl), PySem.W.mg_of X G a3, ⟨rfl, rfl, rfl, by decide +kernel, rfl, by decide +kernel, by decide +kernel⟩, c_law_cell_at, rfl⟩
  have D4 : DefAt K mg "_law_begin" b_law_begin s_law_begin n_law_begin p_law_begin f4 _ := ⟨fun_mk l4 c4 k4, (fun_mk l4 c4 k4).binds (ps := p_law_begin) fun _ _ _ _ _ _ us hl => (match us, hl with | [_], _ => rfl), PySem.W.mg_of X G a4, ⟨rfl, rfl, rfl, by decide +kernel, rfl, by decide +kernel, by decide +kernel⟩, c_law_begin, rfl⟩
  have D5 : DefAt K mg "_law_draw" b_law_draw s_law_draw n_law_draw p_law_draw f5 _ := ⟨fun_mk l5 c5 k5, (fun_mk l5 c5 k5).binds (ps := p_law_draw) fun _ _ _ _ _ _ us hl => (match us, hl with | [_, _], _ => rfl), PySem.W.mg_of X G a5, ⟨rfl, rfl, rfl, by decide +kernel, rfl, by decide +kernel, by decide +kernel⟩, c_law_draw, rfl⟩
  have D6 : DefAt K mg "_law_stage" b_law_stage s_law_stage n_law_stage p_law_stage f6 _ := ⟨fun_mk l6 c6 k6, (fun_mk l6 c6 k6).binds (ps := p_law_stage) fun _ _ _ _ _ _ us hl => (match us, hl with | [_, _], _ => rfl), PySem.W.mg_of X G a6, ⟨rfl, rfl, rfl, by decide +kernel, rfl, by decide +kernel, by decide +kernel⟩, c_law_stage, rfl⟩
  have D7 : DefAt K mg "_law_net" b_law_net s_law_net n_law_net p_law_net f7 _ := ⟨fun_mk l7 c7 k7, (fun_mk l7 c7 k7).binds (ps := p_law_net) fun _ _ _ _ _ _ us hl => (match us, hl with | [_, _, _], _ => rfl), PySem.W.mg_of X G a7, ⟨rfl, rfl, rfl, by decide +kernel, rfl, by decide +kernel, by decide +kernel⟩, c_law_net, rfl⟩
  have D8 : DefAt K mg "_law_setting" b_law_setting s_law_setting n_law_setting p_law_setting f8 _ := ⟨fun_mk l8 c8 k8, (fun_mk l8 c8 k8).binds (ps := p_law_setting) fun _ _ _ _ _ _ us hl => (match us, hl with | [_, _], _ => rfl), PySem.W.mg_of X G a8, ⟨rfl, rfl, rfl, by decide +kernel, rfl, by decide +kernel, by decide +kernel⟩, c_law_setting, rfl⟩
  have D9 : DefAt K mg "_law_across" b_law_across s_law_across n_law_across p_law_across f9 _ := ⟨fun_mk l9 c9 k9, (fun_mk l9 c9 k9).binds (ps := p_law_across) fun _ _ _ _ _ _ us hl => (match us, hl with | [_, _, _], _ => rfl), PySem.W.mg_of X G a9, ⟨rfl, rfl, rfl, by decide +kernel, rfl, by decide +kernel, by decide +kernel⟩, c_law_across, rfl⟩
  have D10 : DefAt K mg "_law_way" b_law_way s_law_way n_law_way p_law_way f10 _ := ⟨fun_mk l10 c10 k10, (fun_mk l10 c10 k10).binds (ps := p_law_way) fun _ _ _ _ _ _ us hl => (match us, hl with | [_, _, _], _ => rfl), PySem.W.mg_of X G a10, ⟨rfl, rfl, rfl, by decide +kernel, rfl, by decide +kernel, by decide +kernel⟩, c_law_way, rfl⟩
  have D11 : DefAt K mg "_law_right" b_law_right s_law_right n_law_right p_law_right f11 _ := ⟨fun_mk l11 c11 k11, (fun_mk l11 c11 k11).binds (ps := p_law_right) fun _ _ _ _ _ _ us hl => (match us, hl with | [_, _], _ => rfl), PySem.W.mg_of X G a11, ⟨rfl, rfl, rfl, by decide +kernel, rfl, by decide +kernel, by decide +kernel⟩, c_law_right, rfl⟩
  have D12 : DefAt K mg "law" b_law s_law n_law p_law f12 _ := ⟨fun_mk l12 c12 k12, (fun_mk l12 c12 k12).binds (ps := p_law) fun _ _ _ _ _ _ us hl => (match us, hl with | [_], _ => rfl), PySem.W.mg_of X G a12, ⟨rfl, rfl, rfl, by decide +kernel, rfl, by decide +kernel, by decide +kernel⟩, c_law, rfl⟩
  refine ⟨fun f fd hf => ?_, fun b hb => ?_, rfl, _, _, D12, fun t u => .of_eq rfl⟩
  · unfold T at hf
    split at hf
    · cases hf; exact ⟨fun _ => ⟨_, _, _, _, _, D1⟩, not_con (by decide)⟩
    · cases hf; exact ⟨fun _ => ⟨_, _, _, _, _, D2⟩, not_con (by decide)⟩
    · cases hf; exact ⟨fun _ => ⟨_, _, _, _, _, D3⟩, not_con (by decide)⟩
    · cases hf; exact ⟨fun _ => ⟨_, _, _, _, _, D4⟩, not_con (by decide)⟩
    · cases hf; exact ⟨fun _ => ⟨_, _, _, _, _, D5⟩, not_con (by decide)⟩
    · cases hf; exact ⟨fun _ => ⟨_, _, _, _, _, D6⟩, not_con (by decide)⟩
    · cases hf; exact ⟨fun _ => ⟨_, _, _, _, _, D7⟩, not_con (by decide)⟩
    · cases hf; exact ⟨fun _ => ⟨_, _, _, _, _, D8⟩, not_con (by decide)⟩
    · cases hf; exact ⟨fun _ => ⟨_, _, _, _, _, D9⟩, not_con (by decide)⟩
    · cases hf; exact ⟨fun _ => ⟨_, _, _, _, _, D10⟩, not_con (by decide)⟩
    · cases hf; exact ⟨fun _ => ⟨_, _, _, _, _, D11⟩, not_con (by decide)⟩
    · cases hf; exact ⟨fun _ => ⟨_, _, _, _, _, D12⟩, not_con (by decide)⟩
    · cases hf
  · simp only [blts, List.mem_cons, List.not_mem_nil, or_false] at hb
    rcases hb with rfl | rfl | rfl | rfl | rfl | rfl | rfl | rfl | rfl | rfl | rfl | rfl | rfl | rfl | rfl | rfl | rfl | rfl | rfl | rfl
    · exact PySem.W.mg_none_of X G z1
    · exact PySem.W.mg_none_of X G z2
    · exact PySem.W.mg_none_of X G z3
    · exact PySem.W.mg_none_of X G z4
    · exact PySem.W.mg_none_of X G z5
    · exact PySem.W.mg_none_of X G z6
    · exact PySem.W.mg_none_of X G z7
    · exact PySem.W.mg_none_of X G z8
    · exact PySem.W.mg_none_of X G z9
    · exact PySem.W.mg_none_of X G z10
    · exact PySem.W.mg_none_of X G z11
    · exact PySem.W.mg_none_of X G z12
    · exact PySem.W.mg_none_of X G z13
    · exact PySem.W.mg_none_of X G z14
    · exact PySem.W.mg_none_of X G z15
    · exact PySem.W.mg_none_of X G z16
    · exact PySem.W.mg_none_of X G z17
    · exact PySem.W.mg_none_of X G z18
    · exact PySem.W.mg_none_of X G z19
    · exact PySem.W.mg_none_of X G z20
end K12
open PySem PySem.W PyProof.Rows
set_option maxHeartbeats 0 in
theorem PySem.Challenge.cw_switchrows_k12_nets_about_holds : PySem.Challenge.rw_switchrows_k12_nets_about.Holds := by
  w_on; o_law; k_head; (case hw => w_witness2)
  k_fill
  refine Sw.end_walk (l := PySem.Challenge.rw_switchrows_k12_nets_about) (n := 63) (k := K12.lvl) (T := K12.T) (lawD := K12.b_law) (lawS := K12.s_law) (NL := K12.n_law) (x := "_law_script") rfl (by decide) rfl (by decide) (fun w h Y => PySem.W.kIn_of Y) rfl ?tab K12.law_val
  case tab =>
    intro w mg h KX G
    refine' K12.tab_mk KX G ?a1 ?l1 ?c1 ?k1 ?a2 ?l2 ?c2 ?k2 ?a3 ?l3 ?c3 ?k3 ?a4 ?l4 ?c4 ?k4 ?a5 ?l5 ?c5 ?k5 ?a6 ?l6 ?c6 ?k6 ?a7 ?l7 ?c7 ?k7 ?a8 ?l8 ?c8 ?k8 ?a9 ?l9 ?c9 ?k9 ?a10 ?l10 ?c10 ?k10 ?a11 ?l11 ?c11 ?k11 ?a12 ?l12 ?c12 ?k12 ?z1 ?z2 ?z3 ?z4 ?z5 ?z6 ?z7 ?z8 ?z9 ?z10 ?z11 ?z12 ?z13 ?z14 ?z15 ?z16 ?z17 ?z18 ?z19 ?z20
    (case a1 => k_is)
    (case l1 => k_is)
    (case c1 => k_is)
    (case k1 => k_is)
    (case a2 => k_is)
    (case l2 => k_is)
    (case c2 => k_is)
    (case k2 => k_is)
    (case a3 => k_is)
    (case l3 => k_is)
    (case c3 => k_is)
    (case k3 => k_is)
    (case a4 => k_is)
    (case l4 => k_is)
    (case c4 => k_is)
    (case k4 => k_is)
    (case a5 => k_is)
    (case l5 => k_is)
    (case c5 => k_is)
    (case k5 => k_is)
    (case a6 => k_is)
    (case l6 => k_is)
    (case c6 => k_is)
    (case k6 => k_is)
    (case a7 => k_is)
    (case l7 => k_is)
    (case c7 => k_is)
    (case k7 => k_is)
    (case a8 => k_is)
    (case l8 => k_is)
    (case c8 => k_is)
    (case k8 => k_is)
    (case a9 => k_is)
    (case l9 => k_is)
    (case c9 => k_is)
    (case k9 => k_is)
    (case a10 => k_is)
    (case l10 => k_is)
    (case c10 => k_is)
    (case k10 => k_is)
    (case a11 => k_is)
    (case l11 => k_is)
    (case c11 => k_is)
    (case k11 => k_is)
    (case a12 => k_is)
    (case l12 => k_is)
    (case c12 => k_is)
    (case k12 => k_is)
    (case z1 => k_is)
    (case z2 => k_is)
    (case z3 => k_is)
    (case z4 => k_is)
    (case z5 => k_is)
    (case z6 => k_is)
    (case z7 => k_is)
    (case z8 => k_is)
    (case z9 => k_is)
    (case z10 => k_is)
    (case z11 => k_is)
    (case z12 => k_is)
    (case z13 => k_is)
    (case z14 => k_is)
    (case z15 => k_is)
    (case z16 => k_is)
    (case z17 => k_is)
    (case z18 => k_is)
    (case z19 => k_is)
    (case z20 => k_is)
end T_LINK
