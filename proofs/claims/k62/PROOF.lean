import PyProof.Rows.All
import Wide.All
import OpenK.AllK
import Wide.FinOn
import HandS.ForMost
import HandS.IsInst
import HandS.Deep
import HandS.Zip
import HandS.Flow
import HandS.Style
import HandS.Conv
import HandS.NoneIn
import HandS.SortInts
import HandS.Defaults
import KE.KStateDown
import Lean
import HandS.Head0
import HandS.Head1
import HandS.Head2
import HandS.HeadEnd
import HandS.HeadHook1
import HandS.HeadHook2
import HandS.HeadHook3
import HandS.HeadHook4
import PySem.Challenge.RW_heldnotes_k62_forms_of_clamps
set_option Elab.async false
set_option linter.all false
set_option maxRecDepth 100000
set_option maxHeartbeats 2000000
/-! R1: data by value, the annotated syntax, the interpreter. -/
namespace R
open PySem

inductive D where
  | non | bl (b : Bool) | int (i : Int) | str (x : Str)
  | lst (xs : List D) | tup (xs : List D)
  | dct (kd : Bool) (ks vs : List D) | ins (c : Nat) (fs : List D)
  deriving Inhabited

mutual
/-- the library's data (dicts and instances: a mark that never stands in it) -/
def D.py : D → PyData
  | .non => .none
  | .bl b => .bool b
  | .int i => .int i
  | .str x => .str x
  | .lst xs => .list (D.pys xs)
  | .tup xs => .tuple (D.pys xs)
  | .dct _ _ _ => .dict []
  | .ins _ _ => .dict []
def D.pys : List D → List PyData
  | [] => []
  | d :: r => d.py :: D.pys r
end
mutual
/-- no dict, no instance in it -/
def D.pl : D → Bool
  | .non => true
  | .bl _ => true
  | .int _ => true
  | .str _ => true
  | .lst xs => D.pls xs
  | .tup xs => D.pls xs
  | .dct _ _ _ => false
  | .ins _ _ => false
def D.pls : List D → Bool
  | [] => true
  | d :: r => d.pl && D.pls r
end
/-- may be compared at depth -/
def D.wf (d : D) : Bool := d.pl && SeqAt.shaped d.py
def eqd (a b : D) : Bool := PyData.eqv a.py b.py

/-- how a thing is held: shared; a list that is owned (its items shared); a list that stands outside (the script): read alone -/
inductive Sh where
  | sh | lst | fro
  deriving DecidableEq, Inhabited
inductive Slot where
  | no | at (io : Bool) (s : Sh) (d : D)
  deriving Inhabited
abbrev Ev := List Slot

inductive Bop where | add | sub | mul | fdiv | mod | pow
  deriving DecidableEq
inductive Cop where | eq | ne | lt | le | gt | ge | is | isn | inn | nin
  deriving DecidableEq
inductive Bi where | len | int | min | max | abs | list | tuple | all | any | sum | sorted
  deriving DecidableEq
inductive Tg where
  | nm (i : Nat) | tp (ts : List Tg)
mutual
inductive E where
  | c (d : D)
  | var (i : Nat)
  | mv (i : Nat)
  | glob (x : Str)
  | tup (es : List E)
  | lst (es : List E)
  | bin (o : Bop) (a b : E)
  | neg (a : E)
  | not (a : E)
  | and (a : E) (es : List E)
  | or (a : E) (es : List E)
  | cmp (o : Cop) (a b : E)
  | chain (o p : Cop) (a b c : E)
  | ite (c a b : E)
  | idx (a i : E)
  | oidx (i : Nat) (e : E)
  | olen (i : Nat)
  | slc (a : E) (lo hi : Option E)
  | call (f : Str) (as : List Ar)
  | blt (f : Bi) (es : List E)
  | isi (a : E) (ts : List String)
  | lrng (es : List E)
  | lc (vs : List Nat) (t : Tg) (it : It) (cond : Option E) (e : E)
inductive Ar where
  | v (e : E) | io (i : Nat)
inductive It where
  | seq (e : E) | rng (es : List E) | zip (a b : E) | enum (e : E)
end
inductive S where
  | asg (t : Tg) (e : E)
  | set (i : Nat) (e : E)
  | par (ts : List Nat) (es : List E)
  | expr (e : E)
  | ret (e : E)
  | retN
  | ite (c : E) (a b : List S)
  | for_ (t : Tg) (it : It) (b : List S)
  | while_ (n : Nat) (c : E) (b : List S)
  | pass
  | brk
  | cont
  | app (i : Nat) (e : E)
  | put (i : Nat) (k e : E)
  | fz (i : Nat)
  | raise_

inductive Out where
  | nx (v : Ev) | rt (s : Sh) (d : D) (v : Ev) | bk (v : Ev) | ct (v : Ev)

/-- a mirror: the parameters' shapes and data; the answer and the inout parameters' new data -/
abbrev Fn := List (Sh × D) → Option (Sh × D × List D)
structure Tab where
  fn : Str → Option Fn
  gl : Str → Option D

def mostLen : Nat := 16777216

/-! ### values -/
def bin : Bop → D → D → Option (Sh × D)
  | .add, .int a, .int b => some (.sh, .int (a + b))
  | .add, .lst a, .lst b => if a.length + b.length ≤ mostLen then some (.lst, .lst (a ++ b)) else none
  | .sub, .int a, .int b => some (.sh, .int (a - b))
  | .mul, .int a, .int b => if (-(2 ^ 64) < a ∧ a < 2 ^ 64) ∨ (-(2 ^ 64) < b ∧ b < 2 ^ 64) then some (.sh, .int (a * b)) else none
  | .mul, .lst a, .int b => if 0 ≤ b ∧ b < 1000 ∧ a.length * b.toNat ≤ mostLen then some (.lst, .lst (List.replicate b.toNat a).flatten) else none
  | .fdiv, .int a, .int b => if 0 < b ∧ b < 1073741824 then some (.sh, .int (a / b)) else none
  | .mod, .int a, .int b => if 0 < b then some (.sh, .int (a % b)) else none
  | .pow, .int a, .int b => if 0 ≤ b ∧ b ≤ 1000000 ∧ a.natAbs < 2 ^ 64 then some (.sh, .int (a ^ b.toNat)) else none
  | _, _, _ => none

def leaf : D → Bool
  | .non => true
  | .bl _ => true
  | .int _ => true
  | .str _ => true
  | _ => false
def eqq (a b : D) : Option Bool := if a.wf && b.wf then some (eqd a b) else none
def isNon : D → Bool
  | .non => true
  | _ => false
def cmp : Cop → D → D → Option Bool
  | .eq, a, b => eqq a b
  | .ne, a, b => (eqq a b).map (!·)
  | .lt, .int a, .int b => some (decide (a < b))
  | .le, .int a, .int b => some (decide (a ≤ b))
  | .gt, .int a, .int b => some (decide (b < a))
  | .ge, .int a, .int b => some (decide (b ≤ a))
  | .is, a, .non => some (isNon a)
  | .isn, a, .non => some (!isNon a)
  | .inn, a, .lst xs => if a.wf && (D.lst xs).wf then some (xs.any fun z => eqd z a) else none
  | .nin, a, .lst xs => if a.wf && (D.lst xs).wf then some (!xs.any fun z => eqd z a) else none
  | .inn, a, .tup xs => if leaf a && xs.all leaf then some (xs.any fun z => eqd z a) else none
  | .nin, a, .tup xs => if leaf a && xs.all leaf then some (!xs.any fun z => eqd z a) else none
  | _, _, _ => none
def getAt (xs : List D) (i : Int) : Option D := L2.atI xs i
def idx : D → D → Option D
  | .lst xs, .int i => getAt xs i
  | .tup xs, .int i => getAt xs i
  | _, _ => none
def cutD (xs : List D) (lo hi : Option Int) : List D := (xs.drop (HT.sIx xs.length 0 lo)).take (HT.sIx xs.length xs.length hi - HT.sIx xs.length 0 lo)
def slc : D → Option Int → Option Int → Option (Sh × D)
  | .lst xs, lo, hi => some (.lst, .lst (cutD xs lo hi))
  | _, _, _ => none
def tyOf : D → String
  | .non => "NoneType"
  | .bl _ => "bool"
  | .int _ => "int"
  | .str _ => "str"
  | .lst _ => "list"
  | .tup _ => "tuple"
  | .dct _ _ _ => "dict"
  | .ins _ _ => "object"
def isiOne (t u : String) : Bool := t == u || (t == "bool" && u == "int")
def intsOf : List D → Option (List Int)
  | [] => some []
  | .int i :: r => (intsOf r).map (i :: ·)
  | _ => none
def boolsOf : List D → Option (List Bool)
  | [] => some []
  | .bl b :: r => (boolsOf r).map (b :: ·)
  | _ => none
def rngOf (a b : Int) : List D := (List.range (b - a).toNat).map fun (k : Nat) => D.int (a + (k : Int))
def blt : Bi → List D → Option (Sh × D)
  | .len, [.lst xs] => some (.sh, .int xs.length)
  | .len, [.tup xs] => some (.sh, .int xs.length)
  | .int, [.int i] => some (.sh, .int i)
  | .int, [.bl b] => some (.sh, .int (if b then 1 else 0))
  | .min, [.int i, .int j] => some (.sh, .int (if j < i then j else i))
  | .max, [.int i, .int j] => some (.sh, .int (if j > i then j else i))
  | .abs, [.int i] => some (.sh, .int (if i < 0 then -i else i))
  | .list, [.lst xs] => some (.lst, .lst xs)
  | .list, [.tup xs] => some (.lst, .lst xs)
  | .tuple, [.lst xs] => some (.sh, .tup xs)
  | .tuple, [.tup xs] => some (.sh, .tup xs)
  | .all, [.lst xs] => (boolsOf xs).map fun bs => (.sh, .bl (bs.all id))
  | .any, [.lst xs] => (boolsOf xs).map fun bs => (.sh, .bl (bs.any id))
  | .sum, [.lst xs] => (intsOf xs).map fun ns => (.sh, .int ns.sum)
  | .sorted, [.lst xs] => (intsOf xs).map fun ns => (.lst, .lst ((ns.mergeSort fun a b => decide (a ≤ b)).map .int))
  | _, _ => none

/-! ### the interpreter, a level at a time -/
abbrev LE := E → Ev → Option (Sh × D × Ev)
abbrev LS := S → Ev → Option Out
def evv (L : LE) (e : E) (v : Ev) : Option (D × Ev) :=
  match L e v with
  | some (.fro, _, _) => none
  | some (_, d, v') => some (d, v')
  | none => none
def evs (L : LE) : List E → Ev → Option (List D × Ev)
  | [], v => some ([], v)
  | e :: r, v =>
    match evv L e v with
    | some (d, v1) => (match evs L r v1 with
      | some (ds, v2) => some (d :: ds, v2)
      | none => none)
    | none => none
/-- with the shapes -/
def evss (L : LE) : List E → Ev → Option (List (Sh × D) × Ev)
  | [], v => some ([], v)
  | e :: r, v =>
    match L e v with
    | some (s, d, v1) => (match evss L r v1 with
      | some (ds, v2) => some ((s, d) :: ds, v2)
      | none => none)
    | none => none
def evt (L : LE) (e : E) (v : Ev) : Option (Bool × Ev) :=
  match evv L e v with
  | some (.bl b, v') => some (b, v')
  | _ => none
def evAnd (L : LE) : E → List E → Ev → Option (D × Ev)
  | a, [], v => evv L a v
  | a, b :: r, v =>
    match evt L a v with
    | some (true, v1) => evAnd L b r v1
    | some (false, v1) => some (.bl false, v1)
    | none => none
def evOr (L : LE) : E → List E → Ev → Option (D × Ev)
  | a, [], v => evv L a v
  | a, b :: r, v =>
    match evt L a v with
    | some (false, v1) => evOr L b r v1
    | some (true, v1) => some (.bl true, v1)
    | none => none
def evo (L : LE) : Option E → Ev → Option (Option Int × Ev)
  | none, v => some (none, v)
  | some e, v =>
    match evv L e v with
    | some (.int i, v') => some (some i, v')
    | _ => none
/-- the plain arguments, in order; an inout one by its place -/
def evas (L : LE) : List Ar → Ev → Option (List (Option D) × Ev)
  | [], v => some ([], v)
  | .io i :: r, v => (match v[i]? with
    | some (.at _ .sh _) => none
    | some (.at _ _ _) => (match evas L r v with
      | some (ds, v2) => some (none :: ds, v2)
      | none => none)
    | _ => none)
  | .v e :: r, v =>
    match evv L e v with
    | some (d, v1) => (match evas L r v1 with
      | some (ds, v2) => some (some d :: ds, v2)
      | none => none)
    | none => none
def ioOf : List Ar → List Nat
  | [] => []
  | .io i :: r => i :: ioOf r
  | .v _ :: r => ioOf r
/-- the parameters' shapes and data at the call -/
def params (v : Ev) : List Ar → List (Option D) → Option (List (Sh × D))
  | [], [] => some []
  | .v _ :: r, some d :: ds => (params v r ds).map ((.sh, d) :: ·)
  | .io i :: r, none :: ds => (match v[i]? with
    | some (.at _ .sh _) => none
    | some (.at _ s d) => (params v r ds).map ((s, d) :: ·)
    | _ => none)
  | _, _ => none
def setIo (v : Ev) (i : Nat) (d : D) : Ev :=
  match v[i]? with
  | some (.at io s _) => v.set i (.at io s d)
  | _ => v
def back : Ev → List Nat → List D → Option Ev
  | v, [], [] => some v
  | v, i :: is, d :: ds => back (setIo v i d) is ds
  | _, _, _ => none
def wipeE (v : Ev) : List Nat → Ev
  | [] => v
  | i :: is => (wipeE v is).set i .no
/-- a shared datum goes to a target -/
def setN (v : Ev) (i : Nat) (s : Sh) (d : D) : Option Ev :=
  match v[i]? with
  | some .no => some (v.set i (.at false s d))
  | some (.at false _ _) => some (v.set i (.at false s d))
  | _ => none
def setNs : List Nat → List (Sh × D) → Ev → Option Ev
  | [], [], v => some v
  | i :: is, (s, d) :: r, v => (match setN v i s d with
    | some v' => setNs is r v'
    | none => none)
  | _, _, _ => none
mutual
def asgT : Tg → D → Ev → Option Ev
  | .nm i, d, v => setN v i .sh d
  | .tp ts, .tup ds, v => asgTs ts ds v
  | .tp ts, .lst ds, v => asgTs ts ds v
  | _, _, _ => none
def asgTs : List Tg → List D → Ev → Option Ev
  | [], [], v => some v
  | t :: ts, d :: ds, v => (match asgT t d v with
    | some v' => asgTs ts ds v'
    | none => none)
  | _, _, _ => none
end
/-- what is walked -/
def evi (L : LE) : It → Ev → Option (List D × Ev)
  | .seq e, v => (match evv L e v with
    | some (.lst xs, v') => some (xs, v')
    | some (.tup xs, v') => some (xs, v')
    | _ => none)
  | .rng es, v => (match evs L es v with
    | some ([.int b], v') => if -(2 ^ 62) ≤ b ∧ b ≤ 16777216 then some (rngOf 0 b, v') else none
    | some ([.int a, .int b], v') => if -(2 ^ 62) ≤ a ∧ a < 2 ^ 62 ∧ -(2 ^ 62) ≤ b ∧ b < 2 ^ 62 ∧ b - a ≤ 16777216 then some (rngOf a b, v') else none
    | _ => none)
  | .zip a b, v => (match evs L [a, b] v with
    | some ([.lst xs, .lst ys], v') => some (List.zipWith (fun x y => .tup [x, y]) xs ys, v')
    | some ([.tup xs, .tup ys], v') => some (List.zipWith (fun x y => .tup [x, y]) xs ys, v')
    | _ => none)
  | .enum e, v => (match evv L e v with
    | some (.lst xs, v') => some (xs.zipIdx.map fun p => .tup [.int p.2, p.1], v')
    | _ => none)
def evc (L : LE) : Option E → Ev → Option (Bool × Ev)
  | none, v => some (true, v)
  | some c, v => evt L c v
def lcGo (L : LE) (vs : List Nat) (t : Tg) (cond : Option E) (e : E) : List D → List D → Ev → Option (List D × Ev)
  | [], acc, v => some (acc, v)
  | x :: r, acc, v =>
    match asgT t x v with
    | none => none
    | some v1 =>
      match evc L cond v1 with
      | none => none
      | some (false, v2) => lcGo L vs t cond e r acc (wipeE v2 vs)
      | some (true, v2) =>
        match evv L e v2 with
        | none => none
        | some (d, v3) => lcGo L vs t cond e r (acc ++ [d]) (wipeE v3 vs)
def ebs (LSt : LS) : List S → Ev → Option Out
  | [], v => some (.nx v)
  | s :: r, v =>
    match LSt s v with
    | some (.nx v') => ebs LSt r v'
    | o => o
def forGo (LSt : LS) (t : Tg) (b : List S) : List D → Ev → Option Out
  | [], v => some (.nx v)
  | x :: r, v =>
    match asgT t x v with
    | none => none
    | some v1 =>
      match ebs LSt b v1 with
      | some (.nx v2) => forGo LSt t b r v2
      | some (.ct v2) => forGo LSt t b r v2
      | some (.bk v2) => some (.nx v2)
      | o => o
def whGo (L : LE) (LSt : LS) (c : E) (b : List S) : Nat → Ev → Option Out
  | 0, _ => none
  | n + 1, v =>
    match evt L c v with
    | none => none
    | some (false, v1) => some (.nx v1)
    | some (true, v1) =>
      match ebs LSt b v1 with
      | some (.nx v2) => whGo L LSt c b n v2
      | some (.ct v2) => whGo L LSt c b n v2
      | some (.bk v2) => some (.nx v2)
      | o => o

def stepE (Φ : Tab) (L : LE) : LE
  | .c d, v => if leaf d then some (.sh, d, v) else none
  | .var i, v => (match v[i]? with
    | some (.at _ .sh d) => some (.sh, d, v)
    | _ => none)
  | .mv i, v => (match v[i]? with
    | some (.at false s d) => some (s, d, v.set i .no)
    | _ => none)
  | .glob x, v => (match Φ.gl x with
    | some d => some (.sh, d, v)
    | none => none)
  | .tup es, v => (match evs L es v with
    | some (ds, v') => some (.sh, .tup ds, v')
    | none => none)
  | .lst es, v => (match evs L es v with
    | some (ds, v') => some (.lst, .lst ds, v')
    | none => none)
  | .bin o a b, v => (match evs L [a, b] v with
    | some ([x, y], v') => (bin o x y).map fun p => (p.1, p.2, v')
    | _ => none)
  | .neg a, v => (match evv L a v with
    | some (.int i, v') => some (.sh, .int (-i), v')
    | _ => none)
  | .not a, v => (match evt L a v with
    | some (b, v') => some (.sh, .bl (!b), v')
    | _ => none)
  | .and a es, v => (match evAnd L a es v with
    | some (d, v') => some (.sh, d, v')
    | none => none)
  | .or a es, v => (match evOr L a es v with
    | some (d, v') => some (.sh, d, v')
    | none => none)
  | .cmp o a b, v => (match evs L [a, b] v with
    | some ([x, y], v') => (cmp o x y).map fun p => (.sh, .bl p, v')
    | _ => none)
  | .chain o p a b c, v => (match evs L [a, b] v with
    | some ([x, y], v') => (match cmp o x y with
      | some true => (match evv L c v' with
        | some (z, v2) => (cmp p y z).map fun q => (.sh, .bl q, v2)
        | none => none)
      | some false => some (.sh, .bl false, v')
      | none => none)
    | _ => none)
  | .ite c a b, v => (match evt L c v with
    | some (true, v') => L a v'
    | some (false, v') => L b v'
    | none => none)
  | .idx a i, v => (match evs L [a, i] v with
    | some ([x, y], v') => (idx x y).map fun d => (.sh, d, v')
    | _ => none)
  | .oidx i e, v => (match v[i]? with
    | some (.at _ _ _) => (match evv L e v with
      | some (y, v') => (match v'[i]? with
        | some (.at _ .lst x) => (idx x y).map fun d => (.sh, d, v')
        | some (.at _ .fro x) => (idx x y).map fun d => (.sh, d, v')
        | _ => none)
      | _ => none)
    | _ => none)
  | .olen i, v => (match v[i]? with
    | some (.at _ .lst (.lst xs)) => some (.sh, .int xs.length, v)
    | some (.at _ .fro (.lst xs)) => some (.sh, .int xs.length, v)
    | _ => none)
  | .slc a lo hi, v => (match evv L a v with
    | some (x, v1) => (match evo L lo v1 with
      | some (l, v2) => (match evo L hi v2 with
        | some (h, v3) => (slc x l h).map fun p => (p.1, p.2, v3)
        | none => none)
      | none => none)
    | none => none)
  | .call f as, v => (match Φ.fn f, evas L as v with
    | some F, some (ds, v1) => if (ioOf as).Nodup then (match params v1 as ds with
      | some ps => (match F ps with
        | some (s, d, new) => (back v1 (ioOf as) new).map fun v2 => (s, d, v2)
        | none => none)
      | none => none) else none
    | _, _ => none)
  | .blt f es, v => (match evs L es v with
    | some (ds, v') => (blt f ds).map fun p => (p.1, p.2, v')
    | none => none)
  | .isi a ts, v => (match evv L a v with
    | some (d, v') => (match d with
      | .ins _ _ => none
      | _ => some (.sh, .bl (ts.any fun t => isiOne (tyOf d) t), v'))
    | none => none)
  | .lrng es, v => (match evs L es v with
    | some ([.int b], v') => if -(2 ^ 62) ≤ b ∧ b ≤ 16777216 then some (.lst, .lst (rngOf 0 b), v') else none
    | some ([.int a, .int b], v') => if -(2 ^ 62) ≤ a ∧ a < 2 ^ 62 ∧ -(2 ^ 62) ≤ b ∧ b < 2 ^ 62 ∧ b - a ≤ 16777216 then some (.lst, .lst (rngOf a b), v') else none
    | _ => none)
  | .lc vs t it cond e, v => (match evi L it v with
    | some (xs, v1) => (match lcGo L vs t cond e xs [] (wipeE v1 vs) with
      | some (ds, v2) => some (.lst, .lst ds, v2)
      | none => none)
    | none => none)

def stepS (L : LE) (LSt : LS) : LS
  | .asg t e, v => (match evv L e v with
    | some (d, v1) => (match asgT t d v1 with
      | some v2 => some (.nx v2)
      | none => none)
    | none => none)
  | .set i e, v => (match L e v with
    | some (s, d, v1) => (match setN v1 i s d with
      | some v2 => some (.nx v2)
      | none => none)
    | none => none)
  | .par ts es, v => (match evss L es v with
    | some (sds, v1) => (match setNs ts sds v1 with
      | some v2 => some (.nx v2)
      | none => none)
    | none => none)
  | .expr e, v => (match evv L e v with
    | some (_, v1) => some (.nx v1)
    | none => none)
  | .ret e, v => (match L e v with
    | some (s, d, v1) => some (.rt s d v1)
    | none => none)
  | .retN, v => some (.rt .sh .non v)
  | .ite c a b, v => (match evt L c v with
    | some (true, v1) => ebs LSt a v1
    | some (false, v1) => ebs LSt b v1
    | none => none)
  | .for_ t it b, v => (match evi L it v with
    | some (xs, v1) => forGo LSt t b xs v1
    | none => none)
  | .while_ n c b, v => whGo L LSt c b n v
  | .pass, v => some (.nx v)
  | .brk, v => some (.bk v)
  | .cont, v => some (.ct v)
  | .app i e, v => (match v[i]? with
    | some (.at _ .lst _) => (match evv L e v with
      | some (d, v1) => (match v1[i]? with
        | some (.at _ .lst (.lst xs)) => if xs.length < mostLen then some (.nx (setIo v1 i (.lst (xs ++ [d])))) else none
        | _ => none)
      | none => none)
    | _ => none)
  | .put i k e, v => (match evv L e v with
    | some (d, v1) => (match v1[i]? with
      | some (.at _ .lst _) => (match evv L k v1 with
        | some (.int j, v2) => (match v2[i]? with
          | some (.at _ .lst (.lst xs)) => (match L2.ixN xs.length j with
            | some n => some (.nx (setIo v2 i (.lst (xs.set n d))))
            | none => none)
          | _ => none)
        | _ => none)
      | _ => none)
    | none => none)
  | .fz i, v => (match v[i]? with
    | some (.at false .lst d) => some (.nx (v.set i (.at false .sh d)))
    | some (.at false .sh _) => some (.nx v)
    | _ => none)
  | .raise_, _ => none

structure Lev where
  e : LE
  s : LS
def lev (Φ : Tab) : Nat → Lev
  | 0 => ⟨fun _ _ => none, fun _ _ => none⟩
  | n + 1 => ⟨stepE Φ (lev Φ n).e, stepS (lev Φ n).e (lev Φ n).s⟩

/-- a def's run: the parameters, then all other slots empty; what it hands back, and the inout parameters' data -/
def start (n : Nat) (ps : List (Sh × D)) : Ev := ps.map (fun p => match p.1 with | .sh => Slot.at false .sh p.2 | s => Slot.at true s p.2) ++ List.replicate (n - ps.length) .no
def outs : List (Sh × D) → Ev → Option (List D)
  | [], _ => some []
  | (.sh, _) :: r, _ :: v => outs r v
  | (s, _) :: r, .at true s' d :: v => if s = s' then (outs r v).map (d :: ·) else none
  | _, _ => none
def run (Φ : Tab) (k n : Nat) (body : List S) : Fn := fun ps =>
  match ebs (lev Φ k).s body (start n ps) with
  | some (.nx v) => (outs ps v).map fun ds => (.sh, .non, ds)
  | some (.rt s d v) => (outs ps v).map fun ds => (s, d, ds)
  | _ => none
end R

set_option Elab.async false
set_option linter.all false
set_option maxRecDepth 100000
set_option maxHeartbeats 2000000
/-! R2: how data stand in the abstract heap; states; what a step may change. -/
namespace R
open PySem L2

mutual
inductive Rp (K : PySem.W.Frag) (H : Hp) : V → D → Prop
  | non : Rp K H .non .non
  | bl (b : Bool) : Rp K H (.bl b) (.bl b)
  | int (i : Int) : Rp K H (.int i) (.int i)
  | str (x : Str) : Rp K H (.str x) (.str x)
  | lst {a : Addr} {vs : List V} {ds : List D} : H a = some (.lst vs) → ds.length ≤ sizeLine → Rps K H vs ds → Rp K H (.ref a) (.lst ds)
  | tup {a : Addr} {vs : List V} {ds : List D} : SqT K H a vs → ds.length ≤ sizeLine → Rps K H vs ds → Rp K H (.ref a) (.tup ds)
inductive Rps (K : PySem.W.Frag) (H : Hp) : List V → List D → Prop
  | nil : Rps K H [] []
  | cons {v : V} {vs : List V} {d : D} {ds : List D} : Rp K H v d → Rps K H vs ds → Rps K H (v :: vs) (d :: ds)
end

theorem same_seqT {K : PySem.W.Frag} {H H' : Hp} {a : Addr} {xs : List V} (e : Same H H') (h : SqT K H a xs) : SqT K H' a xs := by
  rcases h with (h | ⟨o, h⟩) | h
  · exact .inl (.inl (e _ _ h))
  · exact .inl (.inr ⟨o, e _ _ h⟩)
  · exact .inr h
section
variable {K : PySem.W.Frag} {H H' : Hp}
mutual
theorem Rp.mono (e : Same H H') : ∀ {d : D} {v : V}, Rp K H v d → Rp K H' v d
  | _, _, .non => .non
  | _, _, .bl b => .bl b
  | _, _, .int i => .int i
  | _, _, .str x => .str x
  | _, _, .lst q z r => .lst (e _ _ q) z (Rps.mono e r)
  | _, _, .tup q z r => .tup (same_seqT e q) z (Rps.mono e r)
theorem Rps.mono (e : Same H H') : ∀ {ds : List D} {vs : List V}, Rps K H vs ds → Rps K H' vs ds
  | _, _, .nil => .nil
  | _, _, .cons h t => .cons (Rp.mono e h) (Rps.mono e t)
end
theorem Rps.length : ∀ {ds : List D} {vs : List V}, Rps K H vs ds → vs.length = ds.length
  | _, _, .nil => rfl
  | _, _, .cons _ t => by simp [Rps.length t]
theorem Rps.get : ∀ {ds : List D} {vs : List V} {i : Nat} {v : V}, Rps K H vs ds → vs[i]? = some v → ∃ d, ds[i]? = some d ∧ Rp K H v d
  | _, _, _, _, .nil, e => by simp at e
  | _, _, 0, _, .cons h _, e => by simp at e; subst e; exact ⟨_, rfl, h⟩
  | _, _, i + 1, _, .cons _ t, e => by
    obtain ⟨d, h1, h2⟩ := Rps.get (i := i) t (by simpa using e)
    exact ⟨d, by simpa using h1, h2⟩
theorem Rps.get' : ∀ {ds : List D} {vs : List V} {i : Nat} {d : D}, Rps K H vs ds → ds[i]? = some d → ∃ v, vs[i]? = some v ∧ Rp K H v d
  | _, _, _, _, .nil, e => by simp at e
  | _, _, 0, _, .cons h _, e => by simp at e; subst e; exact ⟨_, rfl, h⟩
  | _, _, i + 1, _, .cons _ t, e => by
    obtain ⟨d, h1, h2⟩ := Rps.get' (i := i) t (by simpa using e)
    exact ⟨d, by simpa using h1, h2⟩
theorem Rps.append : ∀ {ds es : List D} {vs us : List V}, Rps K H vs ds → Rps K H us es → Rps K H (vs ++ us) (ds ++ es)
  | _, _, _, _, .nil, s => s
  | _, _, _, _, .cons h t, s => .cons h (Rps.append t s)
theorem Rps.take : ∀ {ds : List D} {vs : List V} (n : Nat), Rps K H vs ds → Rps K H (vs.take n) (ds.take n)
  | _, _, 0, _ => by simpa using Rps.nil
  | _, _, _ + 1, .nil => .nil
  | _, _, n + 1, .cons h t => .cons h (Rps.take n t)
theorem Rps.drop : ∀ {ds : List D} {vs : List V} (n : Nat), Rps K H vs ds → Rps K H (vs.drop n) (ds.drop n)
  | _, _, 0, r => r
  | _, _, _ + 1, .nil => .nil
  | _, _, n + 1, .cons _ t => Rps.drop n t
theorem Rps.set {v : V} {d : D} (h : Rp K H v d) : ∀ {ds : List D} {vs : List V} (n : Nat), Rps K H vs ds → Rps K H (vs.set n v) (ds.set n d)
  | _, _, _, .nil => .nil
  | _, _, 0, .cons _ t => .cons h t
  | _, _, n + 1, .cons q t => .cons q (Rps.set h n t)
mutual
theorem Rp.dp : ∀ {d : D} {v : V}, Rp K H v d → d.pl = true → Dp K H v d.py
  | _, _, .non, _ => .non
  | _, _, .bl b, _ => .bl b
  | _, _, .int i, _ => .int i
  | _, _, .str x, _ => .str x
  | _, _, .lst q _ r, p => .lst (SqL.of q) (Rps.dp r p)
  | _, _, .tup q _ r, p => .tup q (Rps.dp r p)
theorem Rps.dp : ∀ {ds : List D} {vs : List V}, Rps K H vs ds → D.pls ds = true → DpAll K H vs (D.pys ds)
  | _, _, .nil, _ => .nil
  | _, _, .cons h t, p => by
    have p' := Bool.and_eq_true_iff.mp p
    exact .cons (Rp.dp h p'.1) (Rps.dp t p'.2)
end
theorem Rps.at {ds : List D} {vs : List V} {i : Int} {d : D} (r : Rps K H vs ds) (e : atI ds i = some d) : ∃ v, atI vs i = some v ∧ Rp K H v d := by
  unfold atI at e ⊢
  rw [r.length]
  cases q : ixN ds.length i with
  | none => rw [q] at e; cases e
  | some j =>
    rw [q] at e
    obtain ⟨v, h1, h2⟩ := r.get' (show ds[j]? = some d from e)
    exact ⟨v, h1, h2⟩
theorem Rps.cut {ds : List D} {vs : List V} (lo hi : Option Int) (r : Rps K H vs ds) : Rps K H (cutV vs lo hi) (cutD ds lo hi) := by
  unfold cutV cutD
  rw [r.length]
  exact (r.drop _).take _
theorem cutD_length (xs : List D) (lo hi : Option Int) : (cutD xs lo hi).length ≤ xs.length := by
  unfold cutD
  rw [List.length_take, List.length_drop]
  omega
end

/-! ### owned things -/
def RS (K : PySem.W.Frag) (H1 H : Hp) : Sh → V → D → List Addr → Prop
  | .sh, v, d, f => Rp K H1 v d ∧ f = []
  | .lst, v, d, f => ∃ a vs ds, v = .ref a ∧ d = .lst ds ∧ f = [a] ∧ H a = some (.lst vs) ∧ Rps K H1 vs ds ∧ ds.length ≤ sizeLine
  | .fro, v, d, f => ∃ a vs ds, v = .ref a ∧ d = .lst ds ∧ f = [] ∧ SqL K H1 a vs ∧ Rps K H1 vs ds ∧ ds.length ≤ sizeLine
theorem RS.step {K : PySem.W.Frag} {H1 H H1' H' : Hp} {s : Sh} {v : V} {d : D} {f : List Addr} (h : RS K H1 H s v d f) (m : Same H1 H1') (k : ∀ b o, b ∈ f → H b = some o → H' b = some o) : RS K H1' H' s v d f := by
  cases s with
  | sh => exact ⟨h.1.mono m, h.2⟩
  | lst =>
    obtain ⟨a, vs, ds, rfl, rfl, rfl, ha, r, z⟩ := h
    exact ⟨a, vs, ds, rfl, rfl, rfl, k _ _ (by simp) ha, r.mono m, z⟩
  | fro =>
    obtain ⟨a, vs, ds, rfl, rfl, rfl, ha, r, z⟩ := h
    exact ⟨a, vs, ds, rfl, rfl, rfl, m.seq ha, r.mono m, z⟩
/-- frozen: what was owned is shared from now on -/
def join (H1 H : Hp) (f : List Addr) : Hp := fun b => if b ∈ f then H b else H1 b
theorem join_nil (H1 H : Hp) : join H1 H [] = H1 := by funext b; simp [join]
theorem join_up {H1 H : Hp} {f : List Addr} (d : ∀ b ∈ f, H1 b = none) : Same H1 (join H1 H f) := fun b o e => by
  unfold join
  rw [if_neg (fun z => by rw [d b z] at e; cases e)]
  exact e
theorem join_sub {H1 H : Hp} {f : List Addr} (s : Same H1 H) : Same (join H1 H f) H := fun b o e => by
  unfold join at e
  split at e
  · exact e
  · exact s b o e
theorem RS.froze {K : PySem.W.Frag} {H1 H : Hp} {s : Sh} {v : V} {d : D} {f : List Addr} (h : RS K H1 H s v d f) (dj : ∀ b ∈ f, H1 b = none) (hs : s ≠ .fro) : Rp K (join H1 H f) v d := by
  have u : Same H1 (join H1 H f) := join_up dj
  cases s with
  | sh => exact h.1.mono u
  | lst =>
    obtain ⟨a, vs, ds, rfl, rfl, rfl, ha, r, z⟩ := h
    exact .lst (by unfold join; rw [if_pos (by simp)]; exact ha) z (r.mono u)
  | fro => exact absurd rfl hs

/-! ### states -/
def SlotOk (K : PySem.W.Frag) (ent : Nat → Option V) (σ : L2.St) (H1 H : Hp) (i : Nat) (f : List Addr) : Slot → Prop
  | .no => f = []
  | .at io s d => ∃ u, σ[i]? = some (some u) ∧ RS K H1 H s u d f ∧ (io = true → ent i = some u)
structure SV (K : PySem.W.Frag) (ent : Nat → Option V) (σ : L2.St) (v : Ev) (H1 H : Hp) (F : Nat → List Addr) : Prop where
  sub : Same H1 H
  len : v.length = σ.length
  slot : ∀ i sl, v[i]? = some sl → SlotOk K ent σ H1 H i (F i) sl
  out : ∀ i, v.length ≤ i → F i = []
  nd : ∀ i j b, b ∈ F i → b ∈ F j → i = j
  dis : ∀ i b, b ∈ F i → H1 b = none
/-- O: what may change; O': what is owned behind -/
structure Tr (O : Addr → Prop) (H1 H H1' H' : Hp) (O' : Addr → Prop) : Prop where
  mono : Same H1 H1'
  frame : ∀ b o, H b = some o → ¬ O b → H' b = some o
  new : ∀ b, H1' b ≠ none → H1 b ≠ none ∨ H b = none ∨ O b
  own : ∀ b, O' b → H b = none ∨ O b
def OF (F : Nat → List Addr) (b : Addr) : Prop := ∃ i, b ∈ F i
theorem Tr.refl {O O' : Addr → Prop} {H1 H : Hp} (h : ∀ b, O' b → O b) : Tr O H1 H H1 H O' := ⟨fun _ _ e => e, fun _ _ e _ => e, fun _ e => .inl e, fun b e => .inr (h b e)⟩
theorem Tr.trans {O O1 O2 : Addr → Prop} {H1 H H1' H' H1'' H'' : Hp} (a : Tr O H1 H H1' H' O1) (b : Tr O1 H1' H' H1'' H'' O2) : Tr O H1 H H1'' H'' O2 := by
  have key : ∀ c, H' c = none ∨ O1 c → H c = none ∨ O c := fun c h => by
    rcases h with h | h
    · by_cases hO : O c
      · exact .inr hO
      · cases q : H c with
        | none => exact .inl rfl
        | some o => rw [a.frame c o q hO] at h; cases h
    · exact a.own c h
  refine ⟨fun c o e => b.mono c o (a.mono c o e), fun c o e n => b.frame c o (a.frame c o e n) fun z => ?_, fun c e => ?_, fun c e => key c (b.own c e)⟩
  · rcases a.own c z with q | q
    · rw [q] at e; cases e
    · exact n q
  · rcases b.new c e with q | q
    · exact a.new c q
    · exact .inr (key c q)
theorem Tr.weak {O P O' P' : Addr → Prop} {H1 H H1' H' : Hp} (a : Tr O H1 H H1' H' O') (h : ∀ b, O b → P b) (h' : ∀ b, P' b → O' b ∨ P b) : Tr P H1 H H1' H' P' :=
  ⟨a.mono, fun b o e n => a.frame b o e fun z => n (h b z), fun b e => (a.new b e).imp_right fun q => q.imp_right (h b), fun b e => by
    rcases h' b e with q | q
    · exact (a.own b q).imp_right (h b)
    · exact .inr q⟩
/-- a new object, shared -/
theorem Tr.laidS {O : Addr → Prop} {H1 H : Hp} {p : Addr} {o : HO} (hp : H p = none) (s : Same H1 H) : Tr O H1 H (upd H1 p o) (upd H p o) O := by
  have h1 : H1 p = none := s.free hp
  refine ⟨fun b u e => by rw [upd_ne (ne_of_none e h1)]; exact e, fun b u e _ => by rw [upd_ne (ne_of_none e hp)]; exact e, fun b e => ?_, fun b e => .inr e⟩
  by_cases hb : b = p
  · subst hb; exact .inr (.inl hp)
  · rw [upd_ne hb] at e; exact .inl e
theorem same_upd2 {H1 H : Hp} {p : Addr} {o : HO} (s : Same H1 H) : Same (upd H1 p o) (upd H p o) := fun b u e => by
  by_cases hb : b = p
  · subst hb; rw [upd_same] at e ⊢; exact e
  · rw [upd_ne hb] at e ⊢; exact s b u e
theorem same_new {H : Hp} {p : Addr} {o : HO} (hp : H p = none) : Same H (upd H p o) := fun b u e => by rw [upd_ne (ne_of_none e hp)]; exact e
/-- a new object, owned -/
theorem Tr.laidO {O : Addr → Prop} {H1 H : Hp} {p : Addr} {o : HO} (hp : H p = none) : Tr O H1 H H1 (upd H p o) (fun b => O b ∨ b = p) :=
  ⟨fun _ _ e => e, fun b u e _ => by rw [upd_ne (ne_of_none e hp)]; exact e, fun _ e => .inl e, fun b e => by
    rcases e with e | e
    · exact .inr e
    · subst e; exact .inl hp⟩

section
variable {K : PySem.W.Frag} {ent : Nat → Option V} {σ : L2.St} {v : Ev} {H1 H H1' H' : Hp} {F : Nat → List Addr}
/-- nothing of ours has changed -/
theorem SV.keep (S : SV K ent σ v H1 H F) (m : Same H1 H1') (s : Same H1' H') (k : ∀ b o, OF F b → H b = some o → H' b = some o) (n : ∀ b, OF F b → H1' b = none) : SV K ent σ v H1' H' F := by
  refine ⟨s, S.len, fun i sl e => ?_, S.out, S.nd, fun i b hb => n b ⟨i, hb⟩⟩
  have q := S.slot i sl e
  cases sl with
  | no => exact q
  | «at» io sh d =>
    obtain ⟨u, h1, h2, h3⟩ := q
    exact ⟨u, h1, h2.step m fun b o hb e => k b o ⟨i, hb⟩ e, h3⟩
theorem SV.laidS (S : SV K ent σ v H1 H F) {p : Addr} {o : HO} (hp : H p = none) (hF : True) : SV K ent σ v (upd H1 p o) (upd H p o) F := by
  have h1 : H1 p = none := S.sub.free hp
  have ne : ∀ b, OF F b → b ≠ p ∨ H b = none := fun b _ => by
    by_cases hb : b = p
    · subst hb; exact .inr hp
    · exact .inl hb
  refine ⟨same_upd2 S.sub, S.len, fun i sl e => ?_, S.out, S.nd, fun i b hb => ?_⟩
  · have q := S.slot i sl e
    cases sl with
    | no => exact q
    | «at» io sh d =>
      obtain ⟨u, h1', h2, h3⟩ := q
      refine ⟨u, h1', h2.step (fun b u e => by rw [upd_ne (ne_of_none e h1)]; exact e) fun b o hb e => ?_, h3⟩
      rw [upd_ne (ne_of_none e hp)]; exact e
  · -- an owned address stands in H
    have q := S.dis i b hb
    by_cases hbp : b = p
    · exfalso
      subst hbp
      -- b is owned by slot i, so it stands in H
      by_cases hi : i < v.length
      · have q := S.slot i (v[i]) (by simp [hi])
        generalize v[i] = sl at q
        cases sl with
        | no => rw [show F i = [] from q] at hb; cases hb
        | «at» io sh d =>
          obtain ⟨u, _, h2, _⟩ := q
          cases sh with
          | sh => rw [h2.2] at hb; cases hb
          | lst =>
            obtain ⟨a, vs, ds, rfl, rfl, ef, ha, _, _⟩ := h2
            rw [ef] at hb
            simp only [List.mem_singleton] at hb
            subst hb
            rw [hp] at ha; cases ha
          | fro =>
            obtain ⟨a, vs, ds, rfl, rfl, ef, ha, _, _⟩ := h2
            rw [ef] at hb; cases hb
      · rw [S.out i (Nat.le_of_not_lt hi)] at hb; cases hb
    · rw [upd_ne hbp]; exact q
/-- what is owned stands in the heap -/
theorem SV.there (S : SV K ent σ v H1 H F) {b : Addr} (hb : OF F b) : H b ≠ none := by
  obtain ⟨i, hb⟩ := hb
  intro hp
  by_cases hi : i < v.length
  · have q := S.slot i (v[i]) (by simp [hi])
    generalize v[i] = sl at q
    cases sl with
    | no => rw [show F i = [] from q] at hb; cases hb
    | «at» io sh d =>
      obtain ⟨u, _, h2, _⟩ := q
      cases sh with
      | sh => rw [h2.2] at hb; cases hb
      | lst =>
        obtain ⟨a, vs, ds, rfl, rfl, ef, ha, _, _⟩ := h2
        rw [ef] at hb
        simp only [List.mem_singleton] at hb
        subst hb
        rw [hp] at ha; cases ha
      | fro =>
        obtain ⟨a, vs, ds, rfl, rfl, ef, ha, _, _⟩ := h2
        rw [ef] at hb; cases hb
  · rw [S.out i (Nat.le_of_not_lt hi)] at hb; cases hb
theorem SV.laidO (S : SV K ent σ v H1 H F) {p : Addr} {o : HO} (hp : H p = none) : SV K ent σ v H1 (upd H p o) F :=
  S.keep (fun _ _ e => e) (fun b u e => by rw [upd_ne (ne_of_none (S.sub b u e) hp)]; exact S.sub b u e) (fun b u _ e => by rw [upd_ne (ne_of_none e hp)]; exact e) fun b ⟨i, hb⟩ => S.dis i b hb
theorem SV.new (S : SV K ent σ v H1 H F) {p : Addr} (hp : H p = none) : ¬ OF F p := fun hb => S.there hb hp
theorem SV.freeze (S : SV K ent σ v H1 H F) {f : List Addr} (hf : ∀ b ∈ f, ¬ OF F b) (dj : ∀ b ∈ f, H1 b = none) : SV K ent σ v (join H1 H f) H F :=
  S.keep (join_up dj) (join_sub S.sub) (fun _ _ _ e => e) fun b ⟨i, hb⟩ => by
    unfold join
    rw [if_neg (fun z => hf b z ⟨i, hb⟩)]
    exact S.dis i b hb
theorem Tr.froze {O O' : Addr → Prop} {f : List Addr} (t : Tr O H1 H H1' H' (fun b => O' b ∨ b ∈ f)) (s : Same H1' H') (dj : ∀ b ∈ f, H1' b = none) : Tr O H1 H (join H1' H' f) H' O' :=
  ⟨fun b o e => join_up dj b o (t.mono b o e), t.frame, fun b e => by
    unfold join at e
    split at e
    · rename_i hb
      exact .inr (t.own b (.inr hb))
    · exact t.new b e, fun b e => t.own b (.inl e)⟩
end

/-! ### readings -/
section
variable (K : PySem.W.Frag) (ent : Nat → Option V)
/-- behind an expression: the answer u, of shape s, d; the owned -/
structure Post (σ : L2.St) (F : Nat → List Addr) (H1 H : Hp) (s : Sh) (d : D) (v' : Ev) (u : V) (H1' H' : Hp) (F' : Nat → List Addr) (f : List Addr) : Prop where
  tr : Tr (OF F) H1 H H1' H' (fun b => OF F' b ∨ b ∈ f)
  sv : SV K ent σ v' H1' H' F'
  rs : RS K H1' H' s u d f
  ap : ∀ b ∈ f, ¬ OF F' b
  dj : ∀ b ∈ f, H1' b = none
structure PostV (σ : L2.St) (F : Nat → List Addr) (H1 H : Hp) (d : D) (v' : Ev) (u : V) (H1' H' : Hp) (F' : Nat → List Addr) : Prop where
  tr : Tr (OF F) H1 H H1' H' (OF F')
  sv : SV K ent σ v' H1' H' F'
  rp : Rp K H1' u d
def tE (L : LE) (e : E) : TE := fun σ H Q => ∃ v H1 F s d v', SV K ent σ v H1 H F ∧ L e v = some (s, d, v') ∧ ∀ u H1' H' F' f, Post K ent σ F H1 H s d v' u H1' H' F' f → Q u H'
def tV (L : LE) (e : E) : TE := fun σ H Q => ∃ v H1 F d v', SV K ent σ v H1 H F ∧ evv L e v = some (d, v') ∧ ∀ u H1' H' F', PostV K ent σ F H1 H d v' u H1' H' F' → Q u H'
def tB (L : LE) (e : E) : TT := fun σ H Q => ∃ v H1 F b v', SV K ent σ v H1 H F ∧ evt L e v = some (b, v') ∧ ∀ H1' H' F', Tr (OF F) H1 H H1' H' (OF F') → SV K ent σ v' H1' H' F' → Q b H'
structure PostA (σ : L2.St) (F : Nat → List Addr) (H1 H : Hp) (ds : List D) (v' : Ev) (us : List V) (H1' H' : Hp) (F' : Nat → List Addr) : Prop where
  tr : Tr (OF F) H1 H H1' H' (OF F')
  sv : SV K ent σ v' H1' H' F'
  rp : Rps K H1' us ds
def tA (L : LE) (es : List E) : TA := fun σ H Q => ∃ v H1 F ds v', SV K ent σ v H1 H F ∧ evs L es v = some (ds, v') ∧ ∀ us H1' H' F', PostA K ent σ F H1 H ds v' us H1' H' F' → Q us H'
end
section
variable {K : PySem.W.Frag} {ent : Nat → Option V} {σ : L2.St} {F F' : Nat → List Addr} {H1 H H1' H' : Hp} {s : Sh} {d : D} {v' : Ev} {u : V} {f : List Addr}
theorem Post.v (p : Post K ent σ F H1 H s d v' u H1' H' F' f) (hs : s ≠ .fro) : PostV K ent σ F H1 H d v' u (join H1' H' f) H' F' :=
  ⟨p.tr.froze p.sv.sub p.dj, p.sv.freeze p.ap p.dj, p.rs.froze p.dj hs⟩
theorem evv_some {L : LE} {e : E} {v v' : Ev} {d : D} (h : evv L e v = some (d, v')) : ∃ s, L e v = some (s, d, v') ∧ s ≠ .fro := by
  unfold evv at h
  cases z : L e v with
  | none => rw [z] at h; cases h
  | some r =>
    obtain ⟨s, d0, v0⟩ := r
    rw [z] at h
    cases s with
    | fro => cases h
    | sh => cases h; exact ⟨_, rfl, by simp⟩
    | lst => cases h; exact ⟨_, rfl, by simp⟩
theorem PostV.post (p : PostV K ent σ F H1 H d v' u H1' H' F') : Post K ent σ F H1 H .sh d v' u H1' H' F' [] := by
  refine ⟨p.tr.weak (fun _ q => q) fun b q => ?_, p.sv, ⟨p.rp, rfl⟩, fun b q => by simp at q, fun b q => by simp at q⟩
  rcases q with q | q
  · exact .inl q
  · simp at q
theorem PE.mono {X : Cx} {e : Expr} {t t' : TE} (h : PE X e t) (m : ∀ σ H Q, t' σ H Q → t σ H Q) : PE X e t' := ⟨fun pins s σ H Q I q => h.run pins s σ H Q I (m σ H Q q)⟩
theorem PT.mono {X : Cx} {e : Expr} {t t' : TT} (h : PT X e t) (m : ∀ σ H Q, t' σ H Q → t σ H Q) : PT X e t' := ⟨fun pins s σ H Q I q => h.run pins s σ H Q I (m σ H Q q)⟩
theorem PA.mono {X : Cx} {e : List Expr} {t t' : TA} (h : PA X e t) (m : ∀ σ H Q, t' σ H Q → t σ H Q) : PA X e t' := ⟨fun pos pins s σ H Q I q => h.run pos pins s σ H Q I (m σ H Q q)⟩
theorem PS.mono {X : Cx} {e : Stmt} {t t' : TS} (h : PS X e t) (m : ∀ D σ H, t' D σ H → t D σ H) : PS X e t' := ⟨fun pins s σ H D I q => h.run pins s σ H D I (m D σ H q)⟩
theorem PSs.mono {X : Cx} {e : List Stmt} {t t' : TS} (h : PSs X e t) (m : ∀ D σ H, t' D σ H → t D σ H) : PSs X e t' := ⟨fun pins s σ H D I q => h.run pins s σ H D I (m D σ H q)⟩
theorem tV_tE {L : LE} {e : E} {Q : VK} (h : tV K ent L e σ H Q) : tE K ent L e σ H Q := by
  obtain ⟨v, H1, F, d, v', S, ev, q⟩ := h
  obtain ⟨s, z, hs⟩ := evv_some ev
  exact ⟨v, H1, F, s, _, _, S, z, fun u H1' H' F' f p => q u _ H' F' (p.v hs)⟩
theorem pe_v {X : Cx} {x : Expr} {L : LE} {e : E} (h : PE X x (tE X.K ent L e)) : PE X x (tV X.K ent L e) := PE.mono h fun _ _ _ q => tV_tE q
/-- an expression whose value is a bool, as a test -/
theorem pt_b {X : Cx} {x : Expr} {L : LE} {e : E} (h : PE X x (tE X.K ent L e)) (he : ∀ whole, isTrue x X.env whole = (do let v ← whole; standAt x.pos; holding [v] (truthy v))) : PT X x (tB X.K ent L e) := by
  refine PT.mono (pt_val (pe_v h) he) fun σ H Q q => ?_
  obtain ⟨v, H1, F, b, v', S, ev, q⟩ := q
  unfold evt at ev
  cases z : evv L e v with
  | none => rw [z] at ev; cases ev
  | some r =>
    obtain ⟨d, v1⟩ := r
    rw [z] at ev
    cases d with
    | bl b' =>
      cases ev
      refine ⟨v, H1, F, _, _, S, z, fun u H1' H' F' p => ?_⟩
      have r := p.rp
      cases r
      exact ⟨b, rfl, q H1' H' F' p.tr p.sv⟩
    | _ => cases ev
end
end R

set_option Elab.async false
set_option linter.all false
set_option maxRecDepth 100000
set_option maxHeartbeats 2000000
/-! R3: operations on values. -/
namespace R
open PySem L2

/-- a value has come: new objects at most -/
structure NewR (K : PySem.W.Frag) (H1 H : Hp) (s : Sh) (d : D) (u : V) (H1' H' : Hp) (f : List Addr) : Prop where
  tr : Tr (fun _ => False) H1 H H1' H' (fun b => b ∈ f)
  sub : Same H1' H'
  rs : RS K H1' H' s u d f
  dj : ∀ b ∈ f, H1' b = none
section
variable {K : PySem.W.Frag} {H1 H H1' H' H1'' H'' : Hp} {s : Sh} {d : D} {u : V} {f : List Addr} {ent : Nat → Option V} {σ : L2.St} {v' : Ev} {F F' : Nat → List Addr} {ds : List D} {us : List V}
theorem NewR.old (s : Same H1 H) (r : Rp K H1 u d) : NewR K H1 H .sh d u H1 H [] := ⟨Tr.refl fun b h => by simp at h, s, ⟨r, rfl⟩, fun b h => by simp at h⟩
theorem NewR.int (s : Same H1 H) {i : Int} : NewR K H1 H .sh (.int i) (.int i) H1 H [] := .old s (.int i)
theorem NewR.bl (s : Same H1 H) {i : Bool} : NewR K H1 H .sh (.bl i) (.bl i) H1 H [] := .old s (.bl i)
theorem NewR.lst (s : Same H1 H) {p : Addr} (hp : H p = none) (r : Rps K H1 us ds) (z : ds.length ≤ sizeLine) : NewR K H1 H .lst (.lst ds) (.ref p) H1 (upd H p (.lst us)) [p] := by
  refine ⟨(Tr.laidO (O := fun _ => False) hp).weak (fun _ h => h) fun b h => .inl (.inr (by simpa using h)), s.trans (same_new hp), ⟨p, us, ds, rfl, rfl, rfl, upd_same, r, z⟩, fun b h => ?_⟩
  have e : b = p := by simpa using h
  subst e
  exact s.free hp
theorem NewR.tup (s : Same H1 H) {p : Addr} (hp : H p = none) (r : Rps K H1 us ds) (z : ds.length ≤ sizeLine) : NewR K H1 H .sh (.tup ds) (.ref p) (upd H1 p (.tup us)) (upd H p (.tup us)) [] := by
  refine ⟨(Tr.laidS (O := fun _ => False) hp s).weak (fun _ h => h) fun b h => by simp at h, same_upd2 s, ⟨.tup (SqT.of upd_same) z (r.mono (same_new (s.free hp))), rfl⟩, fun b h => by simp at h⟩
theorem SV.newR (S : SV K ent σ v' H1 H F) (n : NewR K H1 H s d u H1' H' f) : SV K ent σ v' H1' H' F := by
  refine S.keep n.tr.mono n.sub (fun b o _ e => n.tr.frame b o e (fun z => z)) fun b hb => ?_
  cases q : H1' b with
  | none => rfl
  | some o =>
    rcases n.tr.new b (by rw [q]; simp) with z | z | z
    · obtain ⟨i, hi⟩ := hb
      exact absurd (S.dis i b hi) z
    · exact absurd z (S.there hb)
    · exact z.elim
theorem NewR.post (n : NewR K H1' H' s d u H1'' H'' f) (S : SV K ent σ v' H1' H' F') (t : Tr (OF F) H1 H H1' H' (OF F')) : Post K ent σ F H1 H s d v' u H1'' H'' F' f := by
  refine ⟨t.trans (n.tr.weak (fun _ h => h.elim) fun b h => ?_), S.newR n, n.rs, fun b hb hF => ?_, n.dj⟩
  · rcases h with h | h
    · exact .inr h
    · exact .inl h
  · rcases n.tr.own b hb with z | z
    · exact S.there hF z
    · exact z
end

/-! ### two-place operations -/
def rBin (K : PySem.W.Frag) (o : Bop) : R2 := fun x y H Q => ∃ H1 a b s d, Same H1 H ∧ Rp K H1 x a ∧ Rp K H1 y b ∧ bin o a b = some (s, d) ∧ ∀ u H1' H' f, NewR K H1 H s d u H1' H' f → Q u H'
def opOf : Bop → Operator
  | .add => .Add | .sub => .Sub | .mul => .Mult | .fdiv => .FloorDiv | .mod => .Mod | .pow => .Pow
section
variable {X : Cx}
theorem Rps.rep {K : PySem.W.Frag} {H : Hp} {vs : List V} {ds : List D} (r : Rps K H vs ds) : ∀ n : Nat, Rps K H (List.replicate n vs).flatten (List.replicate n ds).flatten
  | 0 => .nil
  | n + 1 => by
    rw [List.replicate_succ, List.replicate_succ, List.flatten_cons, List.flatten_cons]
    exact r.append (Rps.rep r n)
theorem rep_length {α : Type} (xs : List α) (n : Nat) : (List.replicate n xs).flatten.length = xs.length * n := by
  induction n with
  | zero => simp
  | succ n ih => rw [List.replicate_succ, List.flatten_cons, List.length_append, ih, Nat.mul_succ, Nat.add_comm]
theorem op_bin (o : Bop) : OpR X (binaryOp (opOf o)) (rBin X.K o) := by
  intro pins s σ H x y v u Q I rx ry h
  obtain ⟨H1, a, b, sh, d, sub, ha, hb, e, q⟩ := h
  have mz : mostLen = sizeLine := by rw [sizeLine_eq]; rfl
  cases o with
  | add =>
    cases ha with
    | int i =>
      cases hb with
      | int j => cases e; exact op_add pins s σ H _ _ v u Q I rx ry ⟨_, _, rfl, rfl, q _ _ _ _ (.int sub)⟩
      | _ => cases e
    | lst ha z r =>
      cases hb with
      | lst hb z' r' =>
        simp only [bin] at e
        split at e
        · rename_i hz
          cases e
          rw [mz] at hz
          refine op_cat pins s σ H _ _ v u Q I rx ry ⟨_, _, _, _, rfl, rfl, sub _ _ ha, sub _ _ hb, by rw [r.length, r'.length]; exact hz, fun p hp => q _ _ _ _ (.lst sub hp (r.append r') (by rw [List.length_append]; exact hz))⟩
        · cases e
      | _ => cases e
    | _ => cases hb <;> cases e
  | sub =>
    cases ha with
    | int i =>
      cases hb with
      | int j => cases e; exact op_sub pins s σ H _ _ v u Q I rx ry ⟨_, _, rfl, rfl, q _ _ _ _ (.int sub)⟩
      | _ => cases e
    | _ => cases hb <;> cases e
  | mul =>
    cases ha with
    | int i =>
      cases hb with
      | int j =>
        simp only [bin] at e
        split at e
        · rename_i hz
          cases e
          exact op_mul pins s σ H _ _ v u Q I rx ry ⟨_, _, rfl, rfl, hz, q _ _ _ _ (.int sub)⟩
        · cases e
      | _ => cases e
    | lst ha z r =>
      cases hb with
      | int j =>
        simp only [bin] at e
        split at e
        · rename_i hz
          cases e
          rw [mz] at hz
          refine op_rep pins s σ H _ _ v u Q I rx ry ⟨_, _, _, rfl, rfl, sub _ _ ha, by omega, by omega, by rw [r.length]; exact hz.2.2, fun p hp => q _ _ _ _ (.lst sub hp (r.rep _) ?_)⟩
          rw [rep_length]; exact hz.2.2
        · cases e
      | _ => cases e
    | _ => cases hb <;> cases e
  | fdiv =>
    cases ha with
    | int i =>
      cases hb with
      | int j =>
        simp only [bin] at e
        split at e
        · rename_i hz
          cases e
          exact op_fdiv pins s σ H _ _ v u Q I rx ry ⟨_, _, rfl, rfl, hz, q _ _ _ _ (.int sub)⟩
        · cases e
      | _ => cases e
    | _ => cases hb <;> cases e
  | mod =>
    cases ha with
    | int i =>
      cases hb with
      | int j =>
        simp only [bin] at e
        split at e
        · rename_i hz
          cases e
          exact op_mod pins s σ H _ _ v u Q I rx ry ⟨_, _, rfl, rfl, hz, q _ _ _ _ (.int sub)⟩
        · cases e
      | _ => cases e
    | _ => cases hb <;> cases e
  | pow =>
    cases ha with
    | int i =>
      cases hb with
      | int j =>
        simp only [bin] at e
        split at e
        · rename_i hz
          cases e
          exact op_pow pins s σ H _ _ v u Q I rx ry ⟨_, _, rfl, rfl, hz, q _ _ _ _ (.int sub)⟩
        · cases e
      | _ => cases e
    | _ => cases hb <;> cases e

/-! ### comparisons -/
def rCmp (K : PySem.W.Frag) (o : Cop) : R2 := fun x y H Q => ∃ H1 a b d, Same H1 H ∧ Rp K H1 x a ∧ Rp K H1 y b ∧ cmp o a b = some d ∧ Q (.bl d) H
def cmpOf : Cop → CmpOp
  | .eq => .Eq | .ne => .NotEq | .lt => .Lt | .le => .LtE | .gt => .Gt | .ge => .GtE | .is => .Is | .isn => .IsNot | .inn => .In | .nin => .NotIn
theorem D.wf_and {d : D} (h : d.wf = true) : d.pl = true ∧ SeqAt.shaped d.py = true := Bool.and_eq_true_iff.mp h
theorem Rp.leafV {K : PySem.W.Frag} {H : Hp} {v : V} {d : D} (r : Rp K H v d) (h : leaf d = true) : flatV v = true := by
  cases r <;> first | rfl | cases h
theorem Rps.leafV {K : PySem.W.Frag} {H : Hp} : ∀ {ds : List D} {vs : List V}, Rps K H vs ds → ds.all leaf = true → vs.all flatV = true
  | _, _, .nil, _ => rfl
  | _, _, .cons h t, e => by
    rw [List.all_cons, Bool.and_eq_true_iff] at e ⊢
    exact ⟨h.leafV e.1, Rps.leafV t e.2⟩
theorem eqV_leaf {K : PySem.W.Frag} {H : Hp} {x y : V} {a b : D} (ra : Rp K H x a) (rb : Rp K H y b) (la : leaf a = true) (lb : leaf b = true) : eqV x y = eqd a b := by
  cases ra <;> cases rb <;> first | rfl | cases la | cases lb
theorem inV_leaf {K : PySem.W.Frag} {H : Hp} {x : V} {a : D} (ra : Rp K H x a) (la : leaf a = true) : ∀ {ds : List D} {vs : List V}, Rps K H vs ds → ds.all leaf = true → inV x vs = ds.any fun z => eqd z a
  | _, _, .nil, _ => rfl
  | _, _, .cons h t, e => by
    rw [List.all_cons, Bool.and_eq_true_iff] at e
    have ih := inV_leaf ra la t e.2
    unfold inV at ih ⊢
    rw [List.any_cons, List.any_cons, ih, eqV_leaf h ra e.1 la]
theorem pys_any (a : PyData) : ∀ ds : List D, ((D.pys ds).any fun z => PyData.eqv z a) = ds.any fun z => PyData.eqv z.py a
  | [] => rfl
  | d :: r => by
    show (PyData.eqv d.py a || (D.pys r).any _) = (PyData.eqv d.py a || r.any _)
    rw [pys_any a r]
theorem op_cmp {k : Nat} (hr : Room k X.A) (o : Cop) : OpR X (compareOp (cmpOf o)) (rCmp X.K o) := by
  intro pins s σ H x y v u Q I rx ry h
  obtain ⟨H1, a, b, d, sub, ha, hb, e, q⟩ := h
  have ha' := ha.mono sub
  have hb' := hb.mono sub
  have hu64 := hr.units
  have hu65 : X.A.units + 65 < cLine := by have := hr.un; omega
  cases o with
  | eq =>
    simp only [cmp, eqq] at e
    split at e
    · rename_i w
      cases e
      have w' := Bool.and_eq_true_iff.mp w
      exact op_eqD hu64 pins s σ H _ _ v u Q I rx ry ⟨_, _, ha'.dp (D.wf_and w'.1).1, hb'.dp (D.wf_and w'.2).1, (D.wf_and w'.1).2, (D.wf_and w'.2).2, q⟩
    · cases e
  | ne =>
    simp only [cmp, eqq] at e
    split at e
    · rename_i w
      cases e
      have w' := Bool.and_eq_true_iff.mp w
      exact op_neD hu64 pins s σ H _ _ v u Q I rx ry ⟨_, _, ha'.dp (D.wf_and w'.1).1, hb'.dp (D.wf_and w'.2).1, (D.wf_and w'.1).2, (D.wf_and w'.2).2, q⟩
    · cases e
  | lt => cases ha <;> cases hb <;> first | (cases e; done) | (cases e; exact op_lt pins s σ H _ _ v u Q I rx ry ⟨_, _, rfl, rfl, q⟩)
  | le => cases ha <;> cases hb <;> first | (cases e; done) | (cases e; exact op_le pins s σ H _ _ v u Q I rx ry ⟨_, _, rfl, rfl, q⟩)
  | gt => cases ha <;> cases hb <;> first | (cases e; done) | (cases e; exact op_gt pins s σ H _ _ v u Q I rx ry ⟨_, _, rfl, rfl, q⟩)
  | ge => cases ha <;> cases hb <;> first | (cases e; done) | (cases e; exact op_ge pins s σ H _ _ v u Q I rx ry ⟨_, _, rfl, rfl, q⟩)
  | is =>
    cases hb with
    | non =>
      have e' : d = isNon a := by cases ha <;> (cases e; rfl)
      subst e'
      refine op_isN pins s σ H _ _ v u Q I rx ry ⟨rfl, ?_⟩
      have z : decide (x = V.non) = isNon a := by cases ha <;> rfl
      rw [z]; exact q
    | _ => cases ha <;> cases e
  | isn =>
    cases hb with
    | non =>
      have e' : d = !isNon a := by cases ha <;> (cases e; rfl)
      subst e'
      refine op_notN pins s σ H _ _ v u Q I rx ry ⟨rfl, ?_⟩
      have z : decide (x = V.non) = isNon a := by cases ha <;> rfl
      rw [z]; exact q
    | _ => cases ha <;> cases e
  | inn =>
    cases hb with
    | @lst al vs ds hl z r =>
      have e2 : (if a.wf && (D.lst ds).wf then some (ds.any fun z => eqd z a) else none) = some d := by cases ha <;> exact e
      split at e2
      · rename_i w
        cases e2
        have w' := Bool.and_eq_true_iff.mp w
        refine op_inD hu65 pins s σ H _ _ v u Q I rx ry ⟨_, D.pys ds, ha'.dp (D.wf_and w'.1).1, hb'.dp (D.wf_and w'.2).1, (D.wf_and w'.1).2, (D.wf_and w'.2).2, ?_⟩
        rw [pys_any]; exact q
      · cases e2
    | @tup al vs ds hl z r =>
      have e2 : (if leaf a && ds.all leaf then some (ds.any fun z => eqd z a) else none) = some d := by cases ha <;> exact e
      split at e2
      · rename_i w
        cases e2
        have w' := Bool.and_eq_true_iff.mp w
        refine op_in_seq pins s σ H _ _ v u Q I rx ry ⟨_, _, rfl, .inr (same_seqT sub hl), ha.leafV w'.1, r.leafV w'.2, ?_⟩
        rw [inV_leaf ha w'.1 r w'.2]; exact q
      · cases e2
    | _ => cases ha <;> cases e
  | nin =>
    cases hb with
    | @lst al vs ds hl z r =>
      have e2 : (if a.wf && (D.lst ds).wf then some (!ds.any fun z => eqd z a) else none) = some d := by cases ha <;> exact e
      split at e2
      · rename_i w
        cases e2
        have w' := Bool.and_eq_true_iff.mp w
        refine op_notInD hu65 pins s σ H _ _ v u Q I rx ry ⟨_, D.pys ds, ha'.dp (D.wf_and w'.1).1, hb'.dp (D.wf_and w'.2).1, (D.wf_and w'.1).2, (D.wf_and w'.2).2, ?_⟩
        rw [pys_any]; exact q
      · cases e2
    | @tup al vs ds hl z r =>
      have e2 : (if leaf a && ds.all leaf then some (!ds.any fun z => eqd z a) else none) = some d := by cases ha <;> exact e
      split at e2
      · rename_i w
        cases e2
        have w' := Bool.and_eq_true_iff.mp w
        refine op_notIn_seq pins s σ H _ _ v u Q I rx ry ⟨_, _, rfl, .inr (same_seqT sub hl), ha.leafV w'.1, r.leafV w'.2, ?_⟩
        show Q (.bl (!inV x vs)) H
        rw [inV_leaf ha w'.1 r w'.2]; exact q
      · cases e2
    | _ => cases ha <;> cases e

/-! ### subscripts, slices -/
def rIdx (K : PySem.W.Frag) : R2 := fun x y H Q => ∃ H1 a b d, Same H1 H ∧ Rp K H1 x a ∧ Rp K H1 y b ∧ idx a b = some d ∧ ∀ u, Rp K H1 u d → Q u H
theorem ix_idx : IxR X (rIdx X.K) := by
  intro value slice pins s σ H x y v u Q I rx ry h hs
  obtain ⟨H1, a, b, d, sub, ha, hb, e, q⟩ := h
  cases ha with
  | lst hl z r =>
    cases hb with
    | int i =>
      obtain ⟨w, h1, h2⟩ := r.at (show atI _ i = some d from e)
      exact ix_seq value slice pins s σ H _ _ v u Q I rx ry (.inl ⟨_, _, _, _, rfl, rfl, SqL.of (sub _ _ hl), h1, q _ h2⟩) hs
    | _ => cases e
  | tup hl z r =>
    cases hb with
    | int i =>
      obtain ⟨w, h1, h2⟩ := r.at (show atI _ i = some d from e)
      exact ix_seq value slice pins s σ H _ _ v u Q I rx ry (.inr (.inl ⟨_, _, _, _, rfl, rfl, same_seqT sub hl, h1, q _ h2⟩)) hs
    | _ => cases e
  | _ => cases hb <;> cases e
def rCut (K : PySem.W.Frag) : V → Option Int → Option Int → Hp → VK → Prop := fun x lo hi H Q => ∃ H1 a s d, Same H1 H ∧ Rp K H1 x a ∧ slc a lo hi = some (s, d) ∧ ∀ u H1' H' f, NewR K H1 H s d u H1' H' f → Q u H'
theorem sl_cut : SlR X (rCut X.K) := by
  intro pins s σ H x v vl vu lo hi sl Q I rx hs pl pu h
  obtain ⟨H1, a, sh, d, sub, ha, e, q⟩ := h
  cases ha with
  | lst hl z r =>
    cases e
    exact sl_list pins s σ H _ v vl vu lo hi sl Q I rx hs pl pu ⟨_, _, rfl, SqL.of (sub _ _ hl), fun p hp => q _ _ _ _ (.lst sub hp (r.cut lo hi) (Nat.le_trans (cutD_length _ _ _) z))⟩
  | _ => cases e

/-! ### built-ins -/
def rBlt (K : PySem.W.Frag) (f : Bi) : List V → Hp → VK → Prop := fun vs H Q => ∃ H1 ds s d, Same H1 H ∧ Rps K H1 vs ds ∧ blt f ds = some (s, d) ∧ ∀ u H1' H' f, NewR K H1 H s d u H1' H' f → Q u H'
theorem Rps.boolsOf {K : PySem.W.Frag} {H : Hp} : ∀ {ds : List D} {vs : List V} {bs : List Bool}, Rps K H vs ds → R.boolsOf ds = some bs → vs = bs.map V.bl
  | _, _, _, .nil, e => by cases e; rfl
  | _, _, _, .cons (.bl b) t, e => by
    simp only [R.boolsOf] at e
    cases q : R.boolsOf _ with
    | none => rw [q] at e; cases e
    | some r => rw [q] at e; cases e; rw [Rps.boolsOf t q]; rfl
  | _, _, _, .cons .non t, e => by cases e
  | _, _, _, .cons (.int _) t, e => by cases e
  | _, _, _, .cons (.str _) t, e => by cases e
  | _, _, _, .cons (.lst _ _ _) t, e => by cases e
  | _, _, _, .cons (.tup _ _ _) t, e => by cases e
theorem Rps.intsOf {K : PySem.W.Frag} {H : Hp} : ∀ {ds : List D} {vs : List V} {bs : List Int}, Rps K H vs ds → R.intsOf ds = some bs → vs = bs.map V.int
  | _, _, _, .nil, e => by cases e; rfl
  | _, _, _, .cons (.int b) t, e => by
    simp only [R.intsOf] at e
    cases q : R.intsOf _ with
    | none => rw [q] at e; cases e
    | some r => rw [q] at e; cases e; rw [Rps.intsOf t q]; rfl
  | _, _, _, .cons .non t, e => by cases e
  | _, _, _, .cons (.bl _) t, e => by cases e
  | _, _, _, .cons (.str _) t, e => by cases e
  | _, _, _, .cons (.lst _ _ _) t, e => by cases e
  | _, _, _, .cons (.tup _ _ _) t, e => by cases e
theorem rps_ints {K : PySem.W.Frag} {H : Hp} : ∀ ns : List Int, Rps K H (ns.map V.int) (ns.map D.int)
  | [] => .nil
  | n :: r => .cons (.int n) (rps_ints r)
theorem sorted_uni {ns ns' : List Int} (h1 : ns'.Perm ns) (h2 : ns'.Pairwise (· ≤ ·)) : ns' = ns.mergeSort fun a b => decide (a ≤ b) := by
  refine (h1.trans (List.mergeSort_perm _ _).symm).eq_of_pairwise (le := fun a b => a ≤ b) (fun a b _ _ p q => Int.le_antisymm p q) h2 ?_
  have := List.pairwise_mergeSort (le := fun (a b : Int) => decide (a ≤ b)) (fun a b c h1 h2 => by simp at *; omega) (fun a b => by simp; omega) ns
  exact this.imp fun h => by simpa using h
def Bi.nm : Bi → Str
  | .len => "len" | .int => "int" | .min => "min" | .max => "max" | .abs => "abs" | .list => "list" | .tuple => "tuple" | .all => "all" | .any => "any" | .sum => "sum" | .sorted => "sorted"
def Bi.val : Bi → Value
  | .len => .builtin "len" | .int => .type "int" | .min => .builtin "min" | .max => .builtin "max" | .abs => .builtin "abs" | .list => .type "list" | .tuple => .type "tuple" | .all => .builtin "all" | .any => .builtin "any" | .sum => .builtin "sum" | .sorted => .builtin "sorted"
theorem call_blt (hc : X.calm = true) (f : Bi) : CallR X f.val (rBlt X.K f) := by
  intro pins s σ H xs us Q I r h
  obtain ⟨H1, ds, sh, d, sub, rs, e, q⟩ := h
  cases f with
  | len =>
    cases rs with
    | cons r1 rt =>
      cases rt with
      | nil =>
        cases r1 with
        | lst hl z r' => cases e; exact call_len pins s σ H _ us Q I r ⟨_, _, rfl, .inl ⟨_, SqL.of (sub _ _ hl), rfl⟩, by rw [r'.length]; exact q _ _ _ _ (.int sub)⟩
        | tup hl z r' => cases e; exact call_len pins s σ H _ us Q I r ⟨_, _, rfl, .inr ⟨_, same_seqT sub hl, rfl⟩, by rw [r'.length]; exact q _ _ _ _ (.int sub)⟩
        | _ => cases e
      | cons _ _ => cases r1 <;> cases e
    | nil => cases e
  | int =>
    cases rs with
    | cons r1 rt =>
      cases rt with
      | nil =>
        cases r1 with
        | int i => cases e; exact call_int1 pins s σ H _ us Q I r (.inl ⟨_, rfl, q _ _ _ _ (.int sub)⟩)
        | bl i => cases e; exact call_int1 pins s σ H _ us Q I r (.inr ⟨_, rfl, q _ _ _ _ (.int sub)⟩)
        | _ => cases e
      | cons _ _ => cases r1 <;> cases e
    | nil => cases e
  | abs =>
    cases rs with
    | cons r1 rt =>
      cases rt with
      | nil =>
        cases r1 with
        | int i => cases e; exact call_abs pins s σ H _ us Q I r ⟨_, rfl, q _ _ _ _ (.int sub)⟩
        | _ => cases e
      | cons _ _ => cases r1 <;> cases e
    | nil => cases e
  | min =>
    cases rs with
    | cons r1 rt =>
      cases rt with
      | nil => cases r1 <;> cases e
      | cons r2 rt =>
        cases rt with
        | nil => cases r1 <;> cases r2 <;> first | (cases e; done) | (cases e; exact call_min2 hc pins s σ H _ us Q I r ⟨_, _, rfl, q _ _ _ _ (.int sub)⟩)
        | cons _ _ => cases r1 <;> cases r2 <;> cases e
    | nil => cases e
  | max =>
    cases rs with
    | cons r1 rt =>
      cases rt with
      | nil => cases r1 <;> cases e
      | cons r2 rt =>
        cases rt with
        | nil => cases r1 <;> cases r2 <;> first | (cases e; done) | (cases e; exact call_max2 hc pins s σ H _ us Q I r ⟨_, _, rfl, q _ _ _ _ (.int sub)⟩)
        | cons _ _ => cases r1 <;> cases r2 <;> cases e
    | nil => cases e
  | list =>
    cases rs with
    | cons r1 rt =>
      cases rt with
      | nil =>
        cases r1 with
        | lst hl z r' => cases e; exact call_list_of pins s σ H _ us Q I r ⟨_, _, rfl, .inl (SqL.of (sub _ _ hl)), fun p hp => q _ _ _ _ (.lst sub hp r' z)⟩
        | tup hl z r' => cases e; exact call_list_of pins s σ H _ us Q I r ⟨_, _, rfl, .inr (same_seqT sub hl), fun p hp => q _ _ _ _ (.lst sub hp r' z)⟩
        | _ => cases e
      | cons _ _ => cases r1 <;> cases e
    | nil => cases e
  | tuple =>
    cases rs with
    | cons r1 rt =>
      cases rt with
      | nil =>
        cases r1 with
        | lst hl z r' => cases e; exact call_tuple_of pins s σ H _ us Q I r ⟨_, _, rfl, .inl ⟨SqL.of (sub _ _ hl), fun p hp => q _ _ _ _ (.tup sub hp r' z)⟩⟩
        | tup hl z r' => cases e; exact call_tuple_of pins s σ H _ us Q I r ⟨_, _, rfl, .inr ⟨same_seqT sub hl, q _ _ _ _ (.old sub (.tup hl z r'))⟩⟩
        | _ => cases e
      | cons _ _ => cases r1 <;> cases e
    | nil => cases e
  | all =>
    cases rs with
    | cons r1 rt =>
      cases rt with
      | nil =>
        cases r1 with
        | @lst a vs ds' hl z r' =>
          simp only [blt] at e
          cases qb : boolsOf ds' with
          | none => rw [qb] at e; cases e
          | some bs =>
            rw [qb] at e; cases e
            have ev := r'.boolsOf qb
            subst ev
            exact cr_all hc pins s σ H _ us Q I r ⟨_, bs, rfl, SqL.of (sub _ _ hl), q _ _ _ _ (.bl sub)⟩
        | _ => cases e
      | cons _ _ => cases r1 <;> cases e
    | nil => cases e
  | any =>
    cases rs with
    | cons r1 rt =>
      cases rt with
      | nil =>
        cases r1 with
        | @lst a vs ds' hl z r' =>
          simp only [blt] at e
          cases qb : boolsOf ds' with
          | none => rw [qb] at e; cases e
          | some bs =>
            rw [qb] at e; cases e
            have ev := r'.boolsOf qb
            subst ev
            exact cr_any hc pins s σ H _ us Q I r ⟨_, bs, rfl, SqL.of (sub _ _ hl), q _ _ _ _ (.bl sub)⟩
        | _ => cases e
      | cons _ _ => cases r1 <;> cases e
    | nil => cases e
  | sum =>
    cases rs with
    | cons r1 rt =>
      cases rt with
      | nil =>
        cases r1 with
        | @lst a vs ds' hl z r' =>
          simp only [blt] at e
          cases qb : intsOf ds' with
          | none => rw [qb] at e; cases e
          | some bs =>
            rw [qb] at e; cases e
            have ev := r'.intsOf qb
            subst ev
            exact cr_sum hc pins s σ H _ us Q I r ⟨_, bs, rfl, SqL.of (sub _ _ hl), q _ _ _ _ (.int sub)⟩
        | _ => cases e
      | cons _ _ => cases r1 <;> cases e
    | nil => cases e
  | sorted =>
    cases rs with
    | cons r1 rt =>
      cases rt with
      | nil =>
        cases r1 with
        | @lst a vs ds' hl z r' =>
          simp only [blt] at e
          cases qb : intsOf ds' with
          | none => rw [qb] at e; cases e
          | some bs =>
            rw [qb] at e; cases e
            have ev := r'.intsOf qb
            have lv := r'.length
            subst ev
            refine cr_sortedI pins s σ H _ us Q I r ⟨_, bs, rfl, SqL.of (sub _ _ hl), fun ns' p h1 h2 hp => ?_⟩
            have e3 := sorted_uni h1 h2
            subst e3
            refine q _ _ _ _ (.lst sub hp (rps_ints _) ?_)
            rw [List.length_map, List.length_mergeSort]
            rw [List.length_map] at lv
            omega
        | _ => cases e
      | cons _ _ => cases r1 <;> cases e
    | nil => cases e
end
end R

set_option Elab.async false
set_option linter.all false
set_option maxRecDepth 100000
set_option maxHeartbeats 4000000
/-! R4: the check of a text against its annotated form; expressions. -/
namespace R
open PySem L2

structure Sx where
  sc : Scope
  fn : Str → Bool
def Sx.blk (c : Sx) (scope : Scope) : Sx := ⟨relS scope c.sc, fun x => scope.names.lookup x == some .cell⟩
def all2 {α β : Type} (p : α → β → Bool) : List α → List β → Bool
  | [], [] => true
  | a :: r, b :: s => p a b && all2 p r s
  | _, _ => false
def okName (y : Str) : Bool := !(y == "__debug__") && !(y == "__classdict__") && !(y == "__name__")
def visN (c : Sx) (y : Str) : Bool := match c.sc.names.lookup y with
  | some .local => true | some .cell => true | some .free => true | _ => false
def glN (c : Sx) (y : Str) : Bool := decide (c.sc.names.lookup y = some .globalImplicit) && okName y
def locN (c : Sx) (y : Str) : Bool := match c.sc.names.lookup y with
  | some .local => true | some .cell => c.fn y | _ => false
def ckC : Const → D → Bool
  | .none, .non => true
  | .bool b, .bl c => b == c
  | .int i, .int j => decide (i = j)
  | .str x, .str y => decide (x = y)
  | _, _ => false
def ckT (N : List Str) (c : Sx) : Nat → Expr → Tg → Bool
  | 0, _, _ => false
  | _ + 1, x, .nm i => (match x with
    | .Name y _ => decide (N[i]? = some y) && locN c y
    | _ => false)
  | n + 1, x, .tp ts => (match x with
    | .Tuple xs _ _ => all2 (ckT N c n) xs ts
    | _ => false)
def isTup : Expr → Bool
  | .Tuple _ _ _ => true
  | _ => false
/-- may stand as a test -/
def tst : E → Bool
  | .ite _ _ _ => false
  | _ => true
def ckO (p : Expr → E → Bool) : Option Expr → Option E → Bool
  | none, none => true
  | some x, some e => p x e
  | _, _ => false
def tyName (y : Str) : Option String :=
  if y = Str.ofString "int" then some "int" else if y = Str.ofString "bool" then some "bool" else if y = Str.ofString "str" then some "str" else
  if y = Str.ofString "list" then some "list" else if y = Str.ofString "tuple" then some "tuple" else if y = Str.ofString "dict" then some "dict" else none
def tyNames (c : Sx) : List Expr → List String → Bool
  | [], [] => true
  | .Name y _ :: r, t :: ts => glN c y && decide (tyName y = some t) && tyNames c r ts
  | _, _ => false
def notSlice : Expr → Bool
  | .Slice _ _ _ _ => false
  | _ => true
mutual
def Tg.slots : Tg → List Nat
  | .nm i => [i]
  | .tp ts => Tg.slotsL ts
def Tg.slotsL : List Tg → List Nat
  | [] => []
  | t :: r => t.slots ++ Tg.slotsL r
end
def ckI (p : Expr → E → Bool) (c : Sx) (tg iter : Expr) : It → Bool
  | .seq e => p iter e
  | .rng es => (match iter with
    | .Call (.Name y _) xs [] _ => decide (y = "range") && glN c y && all2 p xs es
    | _ => false)
  | .zip a b => (match iter with
    | .Call (.Name y _) [q, r] [] _ => decide (y = "zip") && glN c y && p q a && p r b && isTup tg
    | _ => false)
  | .enum e => (match iter with
    | .Call (.Name y _) [q] [] _ => decide (y = "enumerate") && glN c y && p q e && isTup tg
    | _ => false)
def ckAr (p : Expr → E → Bool) (N : List Str) (c : Sx) (x : Expr) : Ar → Bool
  | .v e => p x e
  | .io i => (match x with
    | .Name y _ => decide (N[i]? = some y) && visN c y && okName y
    | _ => false)
def ckE (N : List Str) : Nat → Sx → Expr → E → Bool
  | 0, _, _, _ => false
  | _ + 1, _, x, .c d => (match x with
    | .Constant k _ _ => ckC k d
    | _ => false)
  | _ + 1, c, x, .var i => (match x with
    | .Name y _ => decide (N[i]? = some y) && visN c y && okName y
    | _ => false)
  | _ + 1, c, x, .mv i => (match x with
    | .Name y _ => decide (N[i]? = some y) && visN c y && okName y
    | _ => false)
  | _ + 1, c, x, .glob z => (match x with
    | .Name y _ => decide (y = z) && glN c y
    | _ => false)
  | n + 1, c, x, .tup es => (match x with
    | .Tuple xs _ _ => decide (xs.length < 1000) && all2 (ckE N n c) xs es
    | _ => false)
  | n + 1, c, x, .lst es => (match x with
    | .List xs _ => decide (xs.length < 1000) && all2 (ckE N n c) xs es
    | _ => false)
  | n + 1, c, x, .bin o a b => (match x with
    | .BinOp y op z _ => decide (op = opOf o) && ckE N n c y a && ckE N n c z b
    | _ => false)
  | n + 1, c, x, .neg a => (match x with
    | .UnaryOp op y _ => decide (op = .USub) && ckE N n c y a
    | _ => false)
  | n + 1, c, x, .not a => (match x with
    | .UnaryOp op y _ => decide (op = .Not) && tst a && ckE N n c y a
    | _ => false)
  | n + 1, c, x, .and a es => (match x with
    | .BoolOp op (y :: ys) _ => decide (op = .And) && tst a && es.all tst && ckE N n c y a && all2 (ckE N n c) ys es
    | _ => false)
  | n + 1, c, x, .or a es => (match x with
    | .BoolOp op (y :: ys) _ => decide (op = .Or) && tst a && es.all tst && ckE N n c y a && all2 (ckE N n c) ys es
    | _ => false)
  | n + 1, c, x, .cmp o a b => (match x with
    | .Compare y [op] [z] _ => decide (op = cmpOf o) && ckE N n c y a && ckE N n c z b
    | _ => false)
  | n + 1, c, x, .chain o p a b d => (match x with
    | .Compare y [op, op'] [z, w] _ => decide (op = cmpOf o) && decide (op' = cmpOf p) && ckE N n c y a && ckE N n c z b && ckE N n c w d
    | _ => false)
  | n + 1, c, x, .ite t a b => (match x with
    | .IfExp y z w _ => tst t && ckE N n c y t && ckE N n c z a && ckE N n c w b
    | _ => false)
  | n + 1, c, x, .idx a i => (match x with
    | .Subscript y z _ => notSlice z && ckE N n c y a && ckE N n c z i
    | _ => false)
  | n + 1, c, x, .oidx i e => (match x with
    | .Subscript (.Name y _) z _ => notSlice z && decide (N[i]? = some y) && visN c y && okName y && ckE N n c z e
    | _ => false)
  | _ + 1, c, x, .olen i => (match x with
    | .Call (.Name f _) [.Name y _] [] _ => decide (f = "len") && glN c f && decide (N[i]? = some y) && visN c y && okName y
    | _ => false)
  | n + 1, c, x, .slc a lo hi => (match x with
    | .Subscript y (.Slice l h none _) _ => ckE N n c y a && ckO (ckE N n c) l lo && ckO (ckE N n c) h hi
    | _ => false)
  | n + 1, c, x, .call f as => (match x with
    | .Call (.Name y _) xs [] _ => decide (y = f) && glN c y && all2 (ckAr (ckE N n c) N c) xs as
    | _ => false)
  | n + 1, c, x, .blt f es => (match x with
    | .Call (.Name y _) xs [] _ => decide (y = f.nm) && glN c y && decide (0 < xs.length) && all2 (ckE N n c) xs es
    | _ => false)
  | n + 1, c, x, .isi a ts => (match x with
    | .Call (.Name y _) [z, .Name t p] [] _ => decide (y = "isinstance") && glN c y && ckE N n c z a && tyNames c [.Name t p] ts
    | .Call (.Name y _) [z, .Tuple xs _ _] [] _ => decide (y = "isinstance") && glN c y && ckE N n c z a && tyNames c xs ts && decide (xs.length < 1000)
    | _ => false)
  | n + 1, c, x, .lrng es => (match x with
    | .Call (.Name y _) [.Call (.Name z _) xs [] _] [] _ => decide (y = "list") && glN c y && decide (z = "range") && glN c z && all2 (ckE N n c) xs es
    | _ => false)
  | n + 1, c, x, .lc vs t it cond e => (match x with
    | .ListComp elt [⟨tg, iter, ifs, 0⟩] scope _ => (match vs.mapM fun i => (N[i]?).map fun y => (y, i) with
      | some own => blkC N c.sc scope own && ckT N (c.blk scope) n tg t && (t.slots.all fun i => vs.contains i) && ckI (ckE N n c) c tg iter it && (match cond, ifs with
        | none, [] => true
        | some ce, [cx] => tst ce && ckE N n (c.blk scope) cx ce
        | _, _ => false) && ckE N n (c.blk scope) elt e
      | none => false)
    | _ => false)
end R

set_option Elab.async false
set_option linter.all false
set_option maxRecDepth 100000
set_option maxHeartbeats 4000000
/-! R5: promises of defs; the parts of expressions. -/
namespace R
open PySem L2

/-! ### calls: parameters ahead, behind -/
inductive Io (K : PySem.W.Frag) (H1 H : Hp) : List (Sh × D) → List V → List (List Addr) → Prop
  | nil : Io K H1 H [] [] []
  | sh {v : V} {d : D} {ps : List (Sh × D)} {vs : List V} {fs : List (List Addr)} : Rp K H1 v d → Io K H1 H ps vs fs → Io K H1 H ((.sh, d) :: ps) (v :: vs) fs
  | io {s : Sh} {v : V} {d : D} {f : List Addr} {ps : List (Sh × D)} {vs : List V} {fs : List (List Addr)} : s ≠ .sh → RS K H1 H s v d f → Io K H1 H ps vs fs → Io K H1 H ((s, d) :: ps) (v :: vs) (f :: fs)
inductive No (K : PySem.W.Frag) (H1 H : Hp) : List (Sh × D) → List V → List D → List (List Addr) → Prop
  | nil : No K H1 H [] [] [] []
  | sh {v : V} {d : D} {ps : List (Sh × D)} {vs : List V} {new : List D} {fs : List (List Addr)} : No K H1 H ps vs new fs → No K H1 H ((.sh, d) :: ps) (v :: vs) new fs
  | io {s : Sh} {v : V} {d d' : D} {f : List Addr} {ps : List (Sh × D)} {vs : List V} {new : List D} {fs : List (List Addr)} : s ≠ .sh → RS K H1 H s v d' f → No K H1 H ps vs new fs → No K H1 H ((s, d) :: ps) (v :: vs) (d' :: new) (f :: fs)
def MF (fs : List (List Addr)) (b : Addr) : Prop := ∃ f ∈ fs, b ∈ f
/-- no address twice -/
def Sep (fs : List (List Addr)) : Prop := ∀ (i j : Nat) (f g : List Addr) (b : Addr), fs[i]? = some f → fs[j]? = some g → b ∈ f → b ∈ g → i = j
def spOf (K : PySem.W.Frag) (Fm : Fn) : Sp := fun vs H Q _ => ∃ ps s d new H1 fs, Same H1 H ∧ Io K H1 H ps vs fs ∧ Sep fs ∧ (∀ b, MF fs b → H1 b = none) ∧ Fm ps = some (s, d, new) ∧
  ∀ u H1' H' fs' f, Tr (MF fs) H1 H H1' H' (fun b => MF fs' b ∨ b ∈ f) → Same H1' H' → No K H1' H' ps vs new fs' → RS K H1' H' s u d f → Sep fs' → (∀ b, MF fs' b → b ∉ f) → (∀ b, MF fs' b ∨ b ∈ f → H1' b = none) → Q u H'

def bltNames : List Str := ["len", "int", "min", "max", "abs", "list", "tuple", "all", "any", "sum", "sorted", "isinstance", "range", "zip", "enumerate", "bool", "str", "dict"]
structure At (X : Cx) (N : List Str) (c : Sx) : Prop where
  n : X.N = N
  sc : X.env.scope = c.sc
  fn : X.fn = c.fn
structure Cn (Φ : Tab) (X : Cx) : Prop where
  nd : X.N.Nodup
  calm : X.calm = true
  xe : X.xe = fun _ _ => False
  room : Room 0 X.A
  blt : ∀ y ∈ bltNames, X.mg y = none
  gl : ∀ x d, Φ.gl x = some d → ∃ v u, X.mg x = some u ∧ RelV v u ∧ ∀ H, Rp X.K H v d
  fn : ∀ f F, Φ.fn f = some F → ∃ a fd ps k, FnOk X.prog X.w X.K X.mg X.base CX0 k a fd ps (spOf X.K F) ∧ Room k X.A ∧ X.mg f = some (.ref a) ∧ PySem.W.keepIn X.K (.ref a) = true ∧ Binds X.K fd ps []
theorem Cn.blk {Φ : Tab} {X : Cx} (C : Cn Φ X) (s : Shared) (H : Hp) (scope : Scope) (cenv : Env) (fp : List Addr) : Cn Φ (X.blk s H scope cenv fp) := ⟨C.nd, C.calm, rfl, C.room, C.blt, C.gl, C.fn⟩
theorem At.blk {X : Cx} {N : List Str} {c : Sx} (A : At X N c) (s : Shared) (H : Hp) (scope : Scope) (cl : List (Str × Addr)) (C : Addr) (fp : List Addr) : At (X.blk s H scope (compEnvC scope cl C X.env) fp) N (c.blk scope) := by
  refine ⟨A.n, ?_, rfl⟩
  show relS scope X.env.scope = relS scope c.sc
  rw [A.sc]

/-! ### small things of the text -/
theorem okName_of {y : Str} (h : okName y = true) : (y == ("__debug__" : Str)) = false ∧ (y == ("__classdict__" : Str)) = false ∧ y ≠ "__name__" := by
  unfold okName at h
  simp only [Bool.and_eq_true, Bool.not_eq_true'] at h
  exact ⟨h.1.1, h.1.2, by simpa using h.2⟩
theorem vis_of {X : Cx} {N : List Str} {c : Sx} (A : At X N c) {y : Str} (h : visN c y = true) : Vis X.env.scope y := by
  unfold visN at h
  rw [A.sc]
  unfold Vis
  split at h <;> simp_all
theorem gl_of {X : Cx} {N : List Str} {c : Sx} (A : At X N c) {y : Str} (h : glN c y = true) : Gl X y ∧ (y == ("__debug__" : Str)) = false ∧ y ≠ "__name__" := by
  unfold glN at h
  obtain ⟨h1, h2⟩ := Bool.and_eq_true_iff.mp h
  refine ⟨?_, (okName_of h2).1, (okName_of h2).2.2⟩
  unfold Gl Env.kindOf
  rw [A.sc]
  exact of_decide_eq_true h1
theorem loc_of {X : Cx} {N : List Str} {c : Sx} (A : At X N c) {y : Str} (h : locN c y = true) : L2.Loc X.env.scope y ∧ (X.fn y = true ∨ X.env.scope.names.lookup y = some .local) := by
  unfold locN at h
  rw [A.sc, A.fn]
  unfold L2.Loc
  split at h
  · rename_i e; exact ⟨.inl e, .inr e⟩
  · rename_i e; exact ⟨.inr e, .inl h⟩
  · cases h
theorem all2_len {α β : Type} {p : α → β → Bool} : ∀ {xs : List α} {ys : List β}, all2 p xs ys = true → xs.length = ys.length
  | [], [], _ => rfl
  | a :: r, b :: s, h => by
    have := all2_len (Bool.and_eq_true_iff.mp h).2
    simp [this]
  | [], _ :: _, h => by cases h
  | _ :: _, [], h => by cases h
/-- no star -/
def NoStar : Expr → Prop
  | .Starred _ _ => False
  | _ => True
theorem star_cons {x : Expr} {r : List Expr} {env : Env} (h : NoStar x) : starEach (x :: r) env = (false, eval x env) :: starEach r env := by
  cases x <;> first | rfl | exact h.elim
theorem ckE_noStar {N : List Str} {n : Nat} {c : Sx} {x : Expr} {e : E} (h : ckE N n c x e = true) : NoStar x := by
  cases x with
  | Starred y p =>
    exfalso
    cases n with
    | zero => cases h
    | succ n => cases e <;> cases h
  | _ => trivial
theorem backTo_plain {pos : Pos} {env : Env} : ∀ {xs : List Expr}, (∀ x ∈ xs, NoStar x) → (backTo pos (starEach xs env)).any (·.1) = false
  | [], _ => rfl
  | x :: r, h => by
    rw [star_cons (h x (by simp))]
    show (false || (backTo pos (starEach r env)).any (·.1)) = false
    rw [Bool.false_or]
    exact backTo_plain fun y hy => h y (by simp [hy])
theorem all2_noStar {N : List Str} {n : Nat} {c : Sx} : ∀ {xs : List Expr} {es : List E}, all2 (ckE N n c) xs es = true → ∀ x ∈ xs, NoStar x
  | [], _, _, x, hx => by cases hx
  | y :: r, e :: es, h, x, hx => by
    have h' := Bool.and_eq_true_iff.mp h
    rcases List.mem_cons.mp hx with rfl | hx
    · exact ckE_noStar h'.1
    · exact all2_noStar h'.2 x hx
  | _ :: _, [], h, _, _ => by cases h

/-! ### states -/
section
variable {K : PySem.W.Frag} {ent : Nat → Option V} {σ : L2.St} {v v' : Ev} {H1 H H1' H' : Hp} {F F' : Nat → List Addr} {L : LE}
theorem SV.post (S : SV K ent σ v H1 H F) {u : V} {d : D} (r : Rp K H1 u d) : Post K ent σ F H1 H .sh d v u H1 H F [] :=
  (NewR.old S.sub r).post S (Tr.refl fun _ h => h)
theorem SV.var (S : SV K ent σ v H1 H F) {i : Nat} {io : Bool} {d : D} (e : v[i]? = some (.at io .sh d)) : ∃ u, σ[i]? = some (some u) ∧ Rp K H1 u d := by
  obtain ⟨u, h1, h2, _⟩ := S.slot i _ e
  exact ⟨u, h1, h2.1⟩
/-- a slot is emptied: what it owned goes along -/
theorem SV.take (S : SV K ent σ v H1 H F) {i : Nat} {s : Sh} {d : D} (e : v[i]? = some (.at false s d)) :
    ∃ u, σ[i]? = some (some u) ∧ Post K ent σ F H1 H s d (v.set i .no) u H1 H (fun j => if j = i then [] else F j) (F i) := by
  obtain ⟨u, h1, h2, _⟩ := S.slot i _ e
  refine ⟨u, h1, Tr.refl fun b hb => ?_, ⟨S.sub, by simpa using S.len, fun j sl ej => ?_, fun j hj => ?_, fun j k b hj hk => ?_, fun j b hj => ?_⟩, h2, fun b hb ⟨j, hj⟩ => ?_, fun b hb => S.dis i b hb⟩
  · rcases hb with ⟨j, hj⟩ | hb
    · try dsimp only at hj
      split at hj
      · simp at hj
      · exact ⟨j, hj⟩
    · exact ⟨i, hb⟩
  · by_cases hj : j = i
    · subst hj
      have : j < v.length := (List.getElem?_eq_some_iff.mp e).1
      rw [List.getElem?_set_self this] at ej
      cases ej
      show (if j = j then [] else F j) = []
      rw [if_pos rfl]
    · rw [List.getElem?_set_ne (Ne.symm hj)] at ej
      show SlotOk K ent σ H1 H j (if j = i then [] else F j) sl
      rw [if_neg hj]
      exact S.slot j sl ej
  · show (if j = i then [] else F j) = []
    split
    · rfl
    · exact S.out j (by simpa using hj)
  · try dsimp only at hj hk
    split at hj
    · simp at hj
    · split at hk
      · simp at hk
      · exact S.nd j k b hj hk
  · try dsimp only at hj
    split at hj
    · simp at hj
    · exact S.dis j b hj
  · try dsimp only at hj
    split at hj
    · simp at hj
    · rename_i hne
      exact hne (S.nd j i b hj hb)
theorem evs_cons {e : E} {r : List E} {ds : List D} (h : evs L (e :: r) v = some (ds, v')) : ∃ d dr v1, evv L e v = some (d, v1) ∧ evs L r v1 = some (dr, v') ∧ ds = d :: dr := by
  simp only [evs] at h
  cases z : evv L e v with
  | none => rw [z] at h; cases h
  | some p =>
    obtain ⟨d, v1⟩ := p
    rw [z] at h
    dsimp only at h
    cases y : evs L r v1 with
    | none => rw [y] at h; cases h
    | some q =>
      obtain ⟨dr, v2⟩ := q
      rw [y] at h
      cases h
      exact ⟨d, dr, v1, rfl, y, rfl⟩
/-- two in a row -/
theorem two {a b : E} {ds : List D} {R : V → V → Hp → Prop} (S : SV K ent σ v H1 H F) (e : evs L [a, b] v = some (ds, v'))
    (q : ∀ x y u w H1' H' F', ds = [x, y] → Tr (OF F) H1 H H1' H' (OF F') → SV K ent σ v' H1' H' F' → Rp K H1' u x → Rp K H1' w y → R u w H') :
    tV K ent L a σ H fun u H2 => tV K ent L b σ H2 fun w H3 => R u w H3 := by
  obtain ⟨d, dr, v1, e1, e2, rfl⟩ := evs_cons e
  obtain ⟨d2, dr2, v2, e3, e4, rfl⟩ := evs_cons e2
  cases e4
  refine ⟨v, H1, F, d, v1, S, e1, fun u Ha Hb Fa p => ⟨v1, Ha, Fa, d2, v', p.sv, e3, fun w Hc Hd Fc p' => ?_⟩⟩
  exact q d d2 u w Hc Hd Fc rfl (p.tr.trans p'.tr) p'.sv (p.rp.mono p'.tr.mono) p'.rp
theorem tV_of {e : E} {d : D} {Q : VK} (S : SV K ent σ v H1 H F) (h : evv L e v = some (d, v')) (q : ∀ u H1' H' F', Tr (OF F) H1 H H1' H' (OF F') → SV K ent σ v' H1' H' F' → Rp K H1' u d → Q u H') : tV K ent L e σ H Q :=
  ⟨v, H1, F, d, v', S, h, fun u a b c p => q u a b c p.tr p.sv p.rp⟩
theorem tA_nil {Q : List V → Hp → Prop} (h : tA K ent L [] σ H Q) : tNil σ H Q := by
  obtain ⟨v, H1, F, ds, v', S, e, q⟩ := h
  cases e
  exact q [] H1 H F ⟨Tr.refl fun _ h => h, S, .nil⟩
theorem tA_cons {e : E} {r : List E} {Q : List V → Hp → Prop} (h : tA K ent L (e :: r) σ H Q) : tCons (tV K ent L e) (tA K ent L r) σ H Q := by
  obtain ⟨v, H1, F, ds, v', S, ev, q⟩ := h
  obtain ⟨d, dr, v1, e1, e2, rfl⟩ := evs_cons ev
  refine tV_of S e1 fun u Ha Hb Fa t S1 ru => ⟨v1, Ha, Fa, dr, v', S1, e2, fun us Hc Hd Fc p => ?_⟩
  exact q (u :: us) Hc Hd Fc ⟨t.trans p.tr, p.sv, .cons (ru.mono p.tr.mono) p.rp⟩
end

/-- the parts of an expression at X -/
abbrev GoE (Φ : Tab) (N : List Str) (n : Nat) : Prop := ∀ (c : Sx) (x : Expr) (e : E), ckE N n c x e = true → ∀ X, Cn Φ X → At X N c → ∀ ent, PE X x (tE X.K ent (lev Φ n).e e) ∧ (tst e = true → PT X x (tB X.K ent (lev Φ n).e e))
section
variable {Φ : Tab} {N : List Str} {n : Nat} {c : Sx} {X : Cx} {ent : Nat → Option V}
theorem GoE.v (g : GoE Φ N n) {x : Expr} {e : E} (h : ckE N n c x e = true) (C : Cn Φ X) (A : At X N c) : PE X x (tV X.K ent (lev Φ n).e e) := pe_v (g c x e h X C A ent).1
theorem GoE.all (g : GoE Φ N n) (C : Cn Φ X) (A : At X N c) : ∀ {xs : List Expr} {es : List E}, all2 (ckE N n c) xs es = true → PA X xs (tA X.K ent (lev Φ n).e es)
  | [], [], _ => PA.mono pa_nil fun _ _ _ h => tA_nil h
  | x :: r, e :: es, h => by
    have h' := Bool.and_eq_true_iff.mp h
    exact PA.mono (pa_cons (g.v h'.1 C A) (GoE.all g C A h'.2) (star_cons (ckE_noStar h'.1))) fun _ _ _ q => tA_cons q
  | [], _ :: _, h => by cases h
  | _ :: _, [], h => by cases h

/-! ### targets -/
def tG (K : PySem.W.Frag) (ent : Nat → Option V) (t : Tg) : TG := fun u σ H Q => ∃ v H1 F d v', SV K ent σ v H1 H F ∧ Rp K H1 u d ∧ asgT t d v = some v' ∧ ∀ σ' F', (∀ b, OF F' b → OF F b) → SV K ent σ' v' H1 H F' → (∀ vs : List Nat, (∀ i ∈ t.slots, i ∈ vs) → wipe σ' vs = wipe σ vs) → Q σ' H
def tGs (K : PySem.W.Frag) (ent : Nat → Option V) (ts : List Tg) : TGs := fun us σ H Q => ∃ v H1 F ds v', SV K ent σ v H1 H F ∧ Rps K H1 us ds ∧ asgTs ts ds v = some v' ∧ ∀ σ' F', (∀ b, OF F' b → OF F b) → SV K ent σ' v' H1 H F' → (∀ vs : List Nat, (∀ i ∈ Tg.slotsL ts, i ∈ vs) → wipe σ' vs = wipe σ vs) → Q σ' H
theorem wipe_get {σ : L2.St} {j : Nat} : ∀ {vs : List Nat}, (wipe σ vs)[j]? = if j ∈ vs ∧ j < σ.length then some none else σ[j]?
  | [] => by simp [wipe]
  | i :: r => by
    unfold wipe
    by_cases hj : i = j
    · subst hj
      by_cases hl : i < σ.length
      · rw [List.getElem?_set_self (by rw [wipe_length]; exact hl), if_pos ⟨by simp, hl⟩]
      · rw [List.getElem?_eq_none (by rw [List.length_set, wipe_length]; omega), if_neg (fun z => hl z.2), List.getElem?_eq_none (by omega)]
    · rw [List.getElem?_set_ne hj, wipe_get]
      simp only [List.mem_cons, show (j = i) = False from eq_false (Ne.symm hj), false_or]
theorem wipe_set {σ : L2.St} {i : Nat} {x : Option V} {vs : List Nat} (h : i ∈ vs) : wipe (σ.set i x) vs = wipe σ vs := by
  apply List.ext_getElem?
  intro j
  rw [wipe_get, wipe_get, List.length_set]
  by_cases hj : j ∈ vs ∧ j < σ.length
  · rw [if_pos hj, if_pos hj]
  · rw [if_neg hj, if_neg hj]
    by_cases hi : i = j
    · subst hi
      have hl : ¬ i < σ.length := fun z => hj ⟨h, z⟩
      rw [List.getElem?_eq_none (by rw [List.length_set]; omega), List.getElem?_eq_none (by omega)]
    · rw [List.getElem?_set_ne hi]
theorem wipe_wipe {σ : L2.St} {vs : List Nat} : wipe (wipe σ vs) vs = wipe σ vs := by
  apply List.ext_getElem?
  intro j
  rw [wipe_get, wipe_length]
  split
  · rename_i h; rw [wipe_get, if_pos h]
  · rfl
theorem PG.mono {X : Cx} {e : Expr} {t t' : TG} (h : PG X e t) (m : ∀ u σ H Q, t' u σ H Q → t u σ H Q) : PG X e t' := ⟨fun pins s σ H v u Q I r q => h.run pins s σ H v u Q I r (m v σ H Q q)⟩
theorem PG.or {X : Cx} {e : Expr} {t t' : TG} (h : PG X e t) (h' : PG X e t') : PG X e (fun u σ H Q => t u σ H Q ∨ t' u σ H Q) := ⟨fun pins s σ H v u Q I r q => by
  rcases q with q | q
  · exact h.run pins s σ H v u Q I r q
  · exact h'.run pins s σ H v u Q I r q⟩
theorem PGs.mono {X : Cx} {e : List Expr} {t t' : TGs} (h : PGs X e t) (m : ∀ u σ H Q, t' u σ H Q → t u σ H Q) : PGs X e t' := ⟨fun pins s σ H v u Q I r q => h.run pins s σ H v u Q I r (m v σ H Q q)⟩
/-- a name takes a value -/
theorem SV.setN {K : PySem.W.Frag} {σ : L2.St} {v v' : Ev} {H1 H : Hp} {F : Nat → List Addr} {i : Nat} {s : Sh} {d : D} {u : V} {f : List Addr} (S : SV K ent σ v H1 H F) (r : RS K H1 H s u d f) (ap : ∀ b ∈ f, ¬ OF F b) (dj : ∀ b ∈ f, H1 b = none) (e : R.setN v i s d = some v') :
    SV K ent (σ.set i (some u)) v' H1 H (fun j => if j = i then f else F j) ∧ i < v.length := by
  have key : v' = v.set i (.at false s d) ∧ i < v.length := by
    unfold R.setN at e
    split at e
    · rename_i z; cases e; exact ⟨rfl, (List.getElem?_eq_some_iff.mp z).1⟩
    · rename_i z; cases e; exact ⟨rfl, (List.getElem?_eq_some_iff.mp z).1⟩
    · cases e
  obtain ⟨rfl, hi⟩ := key
  refine ⟨⟨S.sub, by simpa using S.len, fun j sl ej => ?_, fun j hj => ?_, fun j k b hj hk => ?_, fun j b hj => ?_⟩, hi⟩
  · by_cases hj : j = i
    · subst hj
      rw [List.getElem?_set_self hi] at ej
      cases ej
      refine ⟨u, List.getElem?_set_self (by rw [← S.len]; exact hi), ?_, fun z => by cases z⟩
      rw [if_pos rfl]; exact r
    · rw [List.getElem?_set_ne (Ne.symm hj)] at ej
      have q := S.slot j sl ej
      rw [if_neg hj]
      cases sl with
      | no => exact q
      | «at» io sh d' =>
        obtain ⟨w, h1, h2, h3⟩ := q
        exact ⟨w, by rw [List.getElem?_set_ne (Ne.symm hj)]; exact h1, h2, h3⟩
  · have hj' : v.length ≤ j := by simpa using hj
    rw [if_neg (by omega)]
    exact S.out j hj'
  · try dsimp only at hj hk
    split at hj
    · rename_i e1
      split at hk
      · rename_i e2; rw [e1, e2]
      · exact absurd ⟨k, hk⟩ (ap b hj)
    · split at hk
      · exact absurd ⟨j, hj⟩ (ap b hk)
      · exact S.nd j k b hj hk
  · try dsimp only at hj
    split at hj
    · exact dj b hj
    · exact S.dis j b hj
theorem asgEach_len {env : Env} : ∀ xs : List Expr, (assignEach xs env).length = xs.length
  | [] => rfl
  | x :: r => by cases x <;> (show (assignEach r env).length + 1 = r.length + 1; rw [asgEach_len r])
theorem ckT_noStar {n : Nat} {x : Expr} {t : Tg} (h : ckT N c n x t = true) : NoStar x := by
  cases x with
  | Starred y p =>
    exfalso
    cases n with
    | zero => cases h
    | succ n => cases t <;> cases h
  | _ => trivial
theorem asg_cons {x : Expr} {r : List Expr} {env : Env} (h : NoStar x) : assignEach (x :: r) env = (false, assign x env) :: assignEach r env := by
  cases x <;> first | rfl | exact h.elim
theorem asg_find {env : Env} : ∀ {xs : List Expr}, (∀ x ∈ xs, NoStar x) → (assignEach xs env).findIdx? (·.1) = none
  | [], _ => rfl
  | x :: r, h => by
    have ih := asg_find (env := env) (xs := r) fun y hy => h y (List.mem_cons_of_mem _ hy)
    rw [asg_cons (h x List.mem_cons_self), List.findIdx?_cons, ih]
    rfl
theorem all2T_noStar {n : Nat} : ∀ {xs : List Expr} {ts : List Tg}, all2 (ckT N c n) xs ts = true → ∀ x ∈ xs, NoStar x
  | [], _, _, x, hx => by cases hx
  | y :: r, e :: es, h, x, hx => by
    have h' := Bool.and_eq_true_iff.mp h
    rcases List.mem_cons.mp hx with rfl | hx
    · exact ckT_noStar h'.1
    · exact all2T_noStar h'.2 x hx
  | _ :: _, [], h, _, _ => by cases h
theorem asgTs_len : ∀ {ts : List Tg} {ds : List D} {v v' : Ev}, asgTs ts ds v = some v' → ts.length = ds.length
  | [], [], _, _, _ => rfl
  | t :: ts, d :: ds, v, v', h => by
    simp only [asgTs] at h
    cases z : asgT t d v with
    | none => rw [z] at h; cases h
    | some w => rw [z] at h; simp [asgTs_len h]
  | [], _ :: _, _, _, h => by cases h
  | _ :: _, [], _, _, h => by cases h
theorem go_tg : ∀ (n : Nat) (x : Expr) (t : Tg), ckT N c n x t = true → ∀ X, Cn Φ X → At X N c → PG X x (tG X.K ent t)
  | 0, _, _, h, _, _, _ => by cases h
  | n + 1, x, .nm i, h, X, C, A => by
    simp only [ckT] at h
    split at h
    · rename_i y pos
      obtain ⟨h1, h2⟩ := Bool.and_eq_true_iff.mp h
      obtain ⟨l1, l2⟩ := loc_of A h2
      refine PG.mono (pg_name (i := i) C.nd (by rw [A.n]; exact of_decide_eq_true h1) l1 l2) fun u σ H Q q => ?_
      obtain ⟨v, H1, F, d, v', S, r, e, q⟩ := q
      simp only [asgT] at e
      obtain ⟨S', _⟩ := S.setN (f := []) (u := u) (s := .sh) ⟨r, rfl⟩ (fun b hb => by simp at hb) (fun b hb => by simp at hb) e
      refine q _ _ (fun b hb => ?_) S' (fun vs hv => wipe_set (hv i (by simp [Tg.slots])))
      obtain ⟨j, hj⟩ := hb
      try dsimp only at hj
      split at hj
      · simp at hj
      · exact ⟨j, hj⟩
    · cases h
  | n + 1, x, .tp ts, h, X, C, A => by
    simp only [ckT] at h
    split at h
    · rename_i xs k pos
      have hl := all2_len h
      have gs : ∀ (xs : List Expr) (ts : List Tg), all2 (ckT N c n) xs ts = true → PGs X xs (tGs X.K ent ts) := by
        intro xs
        induction xs with
        | nil =>
          intro ts h
          cases ts with
          | nil =>
            refine PGs.mono pgs_nil fun us σ H Q q => ?_
            obtain ⟨v, H1, F, ds, v', S, r, e, q⟩ := q
            cases ds with
            | nil => cases r; cases e; exact ⟨rfl, q σ F (fun _ h => h) S fun _ _ => rfl⟩
            | cons _ _ => cases e
          | cons _ _ => cases h
        | cons x r ih =>
          intro ts h
          cases ts with
          | nil => cases h
          | cons t ts =>
            have h' := Bool.and_eq_true_iff.mp h
            refine PGs.mono (pgs_cons (go_tg n x t h'.1 X C A) (ih ts h'.2) (by rw [asg_cons (ckT_noStar h'.1)]; rfl)) fun us σ H Q q => ?_
            obtain ⟨v, H1, F, ds, v', S, rs, e, q⟩ := q
            cases ds with
            | nil => cases e
            | cons d ds =>
              cases rs with
              | cons r1 rt =>
                simp only [asgTs] at e
                cases z : asgT t d v with
                | none => rw [z] at e; cases e
                | some v1 =>
                  rw [z] at e
                  refine ⟨_, _, rfl, v, H1, F, d, v1, S, r1, z, fun σ1 F1 h1 S1 w1 => ⟨v1, H1, F1, ds, v', S1, rt, e, fun σ2 F2 h2 S2 w2 => q σ2 F2 (fun b hb => h1 b (h2 b hb)) S2 fun vs hv => ?_⟩⟩
                  rw [w2 vs fun i hi => hv i (by simp [Tg.slotsL, hi]), w1 vs fun i hi => hv i (by simp [Tg.slotsL, hi])]
      refine PG.mono (PG.or (pg_tup C.calm (gs xs ts h) (asgEach_len xs) (asg_find (all2T_noStar h))) (pg_unl C.calm (gs xs ts h) (asgEach_len xs) (asg_find (all2T_noStar h)))) fun u σ H Q q => ?_
      obtain ⟨v, H1, F, d, v', S, r, e, q⟩ := q
      cases r with
      | tup hq z rs =>
        simp only [asgT] at e
        exact .inl ⟨_, _, rfl, same_seqT S.sub hq, by rw [rs.length, ← asgTs_len e, ← hl], v, H1, F, _, v', S, rs, e, q⟩
      | lst hq z rs =>
        simp only [asgT] at e
        exact .inr ⟨_, _, rfl, SqL.of (S.sub _ _ hq), by rw [rs.length, ← asgTs_len e, ← hl], v, H1, F, _, v', S, rs, e, q⟩
      | _ => simp only [asgT] at e; cases e
    · cases h
end
end R

set_option Elab.async false
set_option linter.all false
set_option maxRecDepth 100000
set_option maxHeartbeats 4000000
/-! R6: what is walked; comprehensions; calls of defs. -/
namespace R
open PySem L2

/-! ### iterators -/
structure Wk (K : PySem.W.Frag) (J : L2.It) (H1 : Hp) (xs : List D) : Prop where
  go : ∀ i H, Same H1 H → i < xs.length → J.go i H
  stop : ∀ H, Same H1 H → J.stop xs.length H
  yld : ∀ i H u H' d, Same H1 H → xs[i]? = some d → J.yld i H u H' → (H' = H ∧ Rp K H1 u d) ∨ (∃ T ws ds, u = .ref T ∧ H T = none ∧ H' = upd H T (.tup ws) ∧ d = .tup ds ∧ Rps K H1 ws ds ∧ ds.length ≤ sizeLine)
def tI (K : PySem.W.Frag) (ent : Nat → Option V) (L : LE) (it : It) : TI := fun σ H R => ∃ v H1 F xs v', SV K ent σ v H1 H F ∧ evi L it v = some (xs, v') ∧
  ∀ J H1' H' F', Tr (OF F) H1 H H1' H' (OF F') → SV K ent σ v' H1' H' F' → Wk K J H1' xs → xs.length ≤ sizeLine → R J H'
theorem PI.mono {X : Cx} {tg x : Expr} {t t' : TI} (h : PI X tg x t) (m : ∀ σ H R, t' σ H R → t σ H R) : PI X tg x t' := ⟨fun pins s σ H R I q => h.run pins s σ H R I (m σ H R q)⟩
theorem PI.or {X : Cx} {tg x : Expr} {t t' : TI} (h : PI X tg x t) (h' : PI X tg x t') : PI X tg x (fun σ H R => t σ H R ∨ t' σ H R) := ⟨fun pins s σ H R I q => by
  rcases q with q | q
  · exact h.run pins s σ H R I q
  · exact h'.run pins s σ H R I q⟩
section
variable {K : PySem.W.Frag} {H1 : Hp} {a b : Addr} {vs ws : List V} {xs ys : List D}
theorem wk_list (h : H1 a = some (.lst vs)) (r : Rps K H1 vs xs) : Wk K (Itl K a) H1 xs := by
  refine ⟨fun i H s hi => ?_, fun H s => ⟨vs, SqL.of (s _ _ h), by rw [r.length]; exact Nat.le_refl _⟩, fun i H u H' d s e y => ?_⟩
  · obtain ⟨v, hv, _⟩ := r.get' (i := i) (d := xs[i]) (by simp [hi])
    exact ⟨vs, v, SqL.of (s _ _ h), hv⟩
  · obtain ⟨e1, y⟩ := y
    obtain ⟨v, hv, rv⟩ := r.get' e
    have z := y vs (SqL.of (s _ _ h))
    rw [hv] at z; cases z
    exact .inl ⟨e1, rv⟩
theorem wk_tup (h : SqT K H1 a vs) (r : Rps K H1 vs xs) : Wk K (Itt K a) H1 xs := by
  refine ⟨fun i H s hi => ?_, fun H s => ⟨vs, same_seqT s h, by rw [r.length]; exact Nat.le_refl _⟩, fun i H u H' d s e y => ?_⟩
  · obtain ⟨v, hv, _⟩ := r.get' (i := i) (d := xs[i]) (by simp [hi])
    exact ⟨vs, v, same_seqT s h, hv⟩
  · obtain ⟨e1, y⟩ := y
    obtain ⟨v, hv, rv⟩ := r.get' e
    have z := y vs (same_seqT s h)
    rw [hv] at z; cases z
    exact .inl ⟨e1, rv⟩
theorem rngOf_len (a b : Int) : (rngOf a b).length = (b - a).toNat := by simp [rngOf]
theorem wk_rng (lo hi : Int) : Wk K (Itr lo (hi - lo).toNat) H1 (rngOf lo hi) := by
  refine ⟨fun i H s h => by rw [rngOf_len] at h; exact h, fun H s => by rw [rngOf_len]; exact Nat.le_refl _, fun i H u H' d s e y => ?_⟩
  obtain ⟨e1, rfl⟩ := y
  refine .inl ⟨e1, ?_⟩
  have hi' : i < (rngOf lo hi).length := (List.getElem?_eq_some_iff.mp e).1
  rw [rngOf_len] at hi'
  unfold rngOf at e
  rw [List.getElem?_map, List.getElem?_range hi'] at e
  cases e
  exact .int _
theorem zip_get {α β γ : Type} {f : α → β → γ} {xs : List α} {ys : List β} {i : Nat} {d : γ} (e : (List.zipWith f xs ys)[i]? = some d) : ∃ x y, xs[i]? = some x ∧ ys[i]? = some y ∧ d = f x y := by
  rw [List.getElem?_zipWith] at e
  cases ex : xs[i]? with
  | none => rw [ex] at e; cases e
  | some x =>
    cases ey : ys[i]? with
    | none => rw [ex, ey] at e; cases e
    | some y => rw [ex, ey] at e; cases e; exact ⟨x, y, rfl, rfl, rfl⟩
theorem two_le : 2 ≤ sizeLine := by rw [sizeLine_eq]; decide
theorem wk_zipL (h : H1 a = some (.lst vs)) (h' : H1 b = some (.lst ws)) (r : Rps K H1 vs xs) (r' : Rps K H1 ws ys) : Wk K (Itz K a b) H1 (List.zipWith (fun x y => D.tup [x, y]) xs ys) := by
  have l1 := r.length
  have l2 := r'.length
  refine ⟨fun i H s hi => ?_, fun H s => ⟨vs, ws, SqL.of (s _ _ h), SqL.of (s _ _ h'), by rw [List.length_zipWith, l1, l2]; omega⟩, fun i H u H' d s e y => ?_⟩
  · rw [List.length_zipWith] at hi
    exact ⟨vs, ws, vs[i]'(by omega), ws[i]'(by omega), SqL.of (s _ _ h), SqL.of (s _ _ h'), by simp, by simp⟩
  · obtain ⟨x, z, e1, e2, rfl⟩ := zip_get e
    obtain ⟨T, p, q, rfl, hT, rfl, y1, y2⟩ := y
    obtain ⟨v, hv, rv⟩ := r.get' e1
    obtain ⟨w, hw, rw'⟩ := r'.get' e2
    have z1 := y1 vs (SqL.of (s _ _ h))
    have z2 := y2 ws (SqL.of (s _ _ h'))
    rw [hv] at z1; cases z1
    rw [hw] at z2; cases z2
    exact .inr ⟨T, _, _, rfl, hT, rfl, rfl, .cons rv (.cons rw' .nil), two_le⟩
theorem wk_zipT (h : SqT K H1 a vs) (h' : SqT K H1 b ws) (r : Rps K H1 vs xs) (r' : Rps K H1 ws ys) : Wk K (RZ.ItzT K a b) H1 (List.zipWith (fun x y => D.tup [x, y]) xs ys) := by
  have l1 := r.length
  have l2 := r'.length
  refine ⟨fun i H s hi => ?_, fun H s => ⟨vs, ws, same_seqT s h, same_seqT s h', by rw [List.length_zipWith, l1, l2]; omega⟩, fun i H u H' d s e y => ?_⟩
  · rw [List.length_zipWith] at hi
    exact ⟨vs, ws, vs[i]'(by omega), ws[i]'(by omega), same_seqT s h, same_seqT s h', by simp, by simp⟩
  · obtain ⟨x, z, e1, e2, rfl⟩ := zip_get e
    obtain ⟨T, p, q, rfl, hT, rfl, y1, y2⟩ := y
    obtain ⟨v, hv, rv⟩ := r.get' e1
    obtain ⟨w, hw, rw'⟩ := r'.get' e2
    have z1 := y1 vs (same_seqT s h)
    have z2 := y2 ws (same_seqT s h')
    rw [hv] at z1; cases z1
    rw [hw] at z2; cases z2
    exact .inr ⟨T, _, _, rfl, hT, rfl, rfl, .cons rv (.cons rw' .nil), two_le⟩
theorem wk_enum (h : H1 a = some (.lst vs)) (r : Rps K H1 vs xs) : Wk K (Ite K a) H1 (xs.zipIdx.map fun p => D.tup [.int p.2, p.1]) := by
  have l1 := r.length
  refine ⟨fun i H s hi => ?_, fun H s => ⟨vs, SqL.of (s _ _ h), by rw [List.length_map, List.length_zipIdx, l1]; exact Nat.le_refl _⟩, fun i H u H' d s e y => ?_⟩
  · rw [List.length_map, List.length_zipIdx] at hi
    exact ⟨vs, vs[i]'(by omega), SqL.of (s _ _ h), by simp⟩
  · rw [List.getElem?_map, List.getElem?_zipIdx] at e
    cases ex : xs[i]? with
    | none => rw [ex] at e; cases e
    | some x =>
      rw [ex] at e
      cases e
      obtain ⟨T, p, rfl, hT, rfl, y1⟩ := y
      obtain ⟨v, hv, rv⟩ := r.get' ex
      have z1 := y1 vs (SqL.of (s _ _ h))
      rw [hv] at z1; cases z1
      exact .inr ⟨T, _, _, rfl, hT, rfl, rfl, .cons (by simpa using Rp.int (i : Int)) (.cons rv .nil), two_le⟩
end
section
variable {Φ : Tab} {N : List Str} {n : Nat} {c : Sx} {X : Cx} {ent : Nat → Option V}
theorem blt_mem {C : Cn Φ X} {y : Str} (h : y ∈ bltNames) : X.mg y = none := C.blt y h
theorem go_it (g : GoE Φ N n) (C : Cn Φ X) (A : At X N c) {tg x : Expr} : ∀ {it : It}, ckI (ckE N n c) c tg x it = true → PI X tg x (tI X.K ent (lev Φ n).e it)
  | .seq e, h => by
    have p := g.v (ent := ent) (show ckE N n c x e = true from h) C A
    refine PI.mono (R.PI.or (pi_list p) (pi_tup p)) fun σ H R q => ?_
    obtain ⟨v, H1, F, xs, v', S, ev, q⟩ := q
    simp only [evi] at ev
    split at ev
    · rename_i z
      cases ev
      refine .inl (tV_of S z fun u H1' H' F' t S' r => ?_)
      cases r with
      | lst hl hz rs => exact ⟨_, rfl, ⟨_, SqL.of (S'.sub _ _ hl)⟩, q _ _ _ _ t S' (wk_list hl rs) hz⟩
    · rename_i z
      cases ev
      refine .inr (tV_of S z fun u H1' H' F' t S' r => ?_)
      cases r with
      | tup hl hz rs => exact ⟨_, rfl, ⟨_, same_seqT S'.sub hl⟩, q _ _ _ _ t S' (wk_tup hl rs) hz⟩
    · cases ev
  | .rng es, h => by
    simp only [ckI] at h
    split at h
    · rename_i y p1 xs pos
      obtain ⟨h0, h3⟩ := Bool.and_eq_true_iff.mp h
      obtain ⟨h1, h2⟩ := Bool.and_eq_true_iff.mp h0
      have ey := of_decide_eq_true h1
      subst ey
      obtain ⟨hg, _, _⟩ := gl_of A h2
      have pa := g.all (ent := ent) C A h3
      have ns := all2_noStar h3
      have hl := all2_len h3
      match xs, es, pa, ns, hl with
      | [a], [e], pa, ns, _ =>
        refine PI.mono (pi_range1 hg (C.blt _ (by decide)) pa (by rw [star_cons (ns a (by simp))]; rfl)) fun σ H R q => ?_
        obtain ⟨v, H1, F, xs, v', S, ev, q⟩ := q
        simp only [evi] at ev
        split at ev
        · rename_i b v1 z
          split at ev
          · rename_i hb
            cases ev
            refine ⟨v, H1, F, _, _, S, z, fun us H1' H' F' p => ?_⟩
            have r := p.rp
            cases r with
            | cons r1 rt =>
              cases rt
              cases r1
              refine ⟨b, rfl, hb.1, by omega, ?_⟩
              have w := wk_rng (K := X.K) (H1 := H1') 0 b
              rw [Int.sub_zero] at w
              exact q _ _ _ _ p.tr p.sv w (by rw [rngOf_len, sizeLine_eq]; omega)
          · cases ev
        · rename_i z
          obtain ⟨d, dr, v1, e1, e2, ed⟩ := evs_cons z
          cases e2
          cases ed
        · cases ev
      | [a, b], [e, e'], pa, ns, _ =>
        refine PI.mono (pi_range2 hg (C.blt _ (by decide)) pa (by rw [star_cons (ns a (by simp)), star_cons (ns b (by simp))]; rfl) (by rw [star_cons (ns b (by simp))]; rfl)) fun σ H R q => ?_
        obtain ⟨v, H1, F, xs, v', S, ev, q⟩ := q
        simp only [evi] at ev
        split at ev
        · rename_i z
          obtain ⟨d, dr, v1, e1, e2, ed⟩ := evs_cons z
          obtain ⟨d', dr', v2, e3, e4, ed'⟩ := evs_cons e2
          subst ed'
          cases ed
        · rename_i i j v1 z
          split at ev
          · rename_i hb
            cases ev
            refine ⟨v, H1, F, _, _, S, z, fun us H1' H' F' p => ?_⟩
            have r := p.rp
            cases r with
            | cons r1 rt =>
              cases rt with
              | cons r2 rt =>
                cases rt
                cases r1
                cases r2
                exact ⟨i, j, rfl, ⟨hb.1, hb.2.1, hb.2.2.1, hb.2.2.2.1⟩, q _ _ _ _ p.tr p.sv (wk_rng i j) (by rw [rngOf_len, sizeLine_eq]; omega)⟩
          · cases ev
        · cases ev
      | [], [], _, _, _ =>
        refine ⟨fun pins s σ H R I q => ?_⟩
        obtain ⟨v, H1, F, xs, v', S, ev, q⟩ := q
        simp only [evi, evs] at ev
        cases ev
      | _ :: _ :: _ :: _, _ :: _ :: _ :: _, _, _, _ =>
        refine ⟨fun pins s σ H R I q => ?_⟩
        obtain ⟨v, H1, F, xs, v', S, ev, q⟩ := q
        simp only [evi] at ev
        split at ev
        · rename_i z
          obtain ⟨d, dr, v1, e1, e2, ed⟩ := evs_cons z
          obtain ⟨d', dr', v2, e3, e4, ed'⟩ := evs_cons e2
          subst ed'
          cases ed
        · rename_i z
          obtain ⟨d, dr, v1, e1, e2, ed⟩ := evs_cons z
          obtain ⟨d', dr', v2, e3, e4, ed'⟩ := evs_cons e2
          obtain ⟨d'', dr'', v3, e5, e6, ed''⟩ := evs_cons e4
          subst ed'' ed'
          cases ed
        · cases ev
    · cases h
  | .zip a b, h => by
    simp only [ckI] at h
    split at h
    · rename_i y p1 x1 x2 pos
      simp only [Bool.and_eq_true] at h
      obtain ⟨⟨⟨⟨h1, h2⟩, h3⟩, h4⟩, h5⟩ := h
      have ey := of_decide_eq_true h1
      subst ey
      obtain ⟨hg, _, _⟩ := gl_of A h2
      have h34 : all2 (ckE N n c) [x1, x2] [a, b] = true := by simp [all2, h3, h4]
      have pa := g.all (ent := ent) C A h34
      have ns := all2_noStar h34
      cases tg with
      | Tuple elts kk tpos =>
        refine PI.mono (RZ.pi_zipA hg (C.blt _ (by decide)) pa (star_cons (ns x1 (by simp))) (backTo_plain fun w hw => ns w (by simp at hw; simp [hw]))) fun σ H R q => ?_
        obtain ⟨v, H1, F, xs, v', S, ev, q⟩ := q
        simp only [evi] at ev
        split at ev
        · rename_i l1 l2 v1 z
          cases ev
          refine ⟨v, H1, F, _, _, S, z, fun us H1' H' F' p => ?_⟩
          have r := p.rp
          cases r with
          | cons r1 rt =>
            cases rt with
            | cons r2 rt =>
              cases rt
              cases r1 with
              | lst hl hz rs =>
                cases r2 with
                | lst hl' hz' rs' =>
                  exact ⟨_, _, _, _, rfl, .inl ⟨SqL.of (p.sv.sub _ _ hl), SqL.of (p.sv.sub _ _ hl'), q _ _ _ _ p.tr p.sv (wk_zipL hl hl' rs rs') (by rw [List.length_zipWith]; omega)⟩⟩
        · rename_i l1 l2 v1 z
          cases ev
          refine ⟨v, H1, F, _, _, S, z, fun us H1' H' F' p => ?_⟩
          have r := p.rp
          cases r with
          | cons r1 rt =>
            cases rt with
            | cons r2 rt =>
              cases rt
              cases r1 with
              | tup hl hz rs =>
                cases r2 with
                | tup hl' hz' rs' =>
                  exact ⟨_, _, _, _, rfl, .inr ⟨same_seqT p.sv.sub hl, same_seqT p.sv.sub hl', q _ _ _ _ p.tr p.sv (wk_zipT hl hl' rs rs') (by rw [List.length_zipWith]; omega)⟩⟩
        · cases ev
      | _ => cases h5
    · cases h
  | .enum e, h => by
    simp only [ckI] at h
    split at h
    · rename_i y p1 x1 pos
      simp only [Bool.and_eq_true] at h
      obtain ⟨⟨⟨h1, h2⟩, h3⟩, h5⟩ := h
      have ey := of_decide_eq_true h1
      subst ey
      obtain ⟨hg, _, _⟩ := gl_of A h2
      have h34 : all2 (ckE N n c) [x1] [e] = true := by simp [all2, h3]
      have pa := g.all (ent := ent) C A h34
      cases tg with
      | Tuple elts kk tpos =>
        refine PI.mono (pi_enum hg (C.blt _ (by decide)) pa (by rw [star_cons (ckE_noStar h3)]; rfl)) fun σ H R q => ?_
        obtain ⟨v, H1, F, xs, v', S, ev, q⟩ := q
        simp only [evi] at ev
        split at ev
        · rename_i l1 v1 z
          cases ev
          refine ⟨v, H1, F, [.lst l1], v', S, by simp only [evs, z], fun us H1' H' F' p => ?_⟩
          have r := p.rp
          cases r with
          | cons r1 rt =>
            cases rt
            cases r1 with
            | lst hl hz rs =>
              exact ⟨_, _, rfl, SqL.of (p.sv.sub _ _ hl), q _ _ _ _ p.tr p.sv (wk_enum hl rs) (by rw [List.length_map, List.length_zipIdx]; exact hz)⟩
        · cases ev
      | _ => cases h5
    · cases h
end
end R

set_option Elab.async false
set_option linter.all false
set_option maxRecDepth 100000
set_option maxHeartbeats 4000000
/-! R7: comprehensions; calls of defs. -/
namespace R
open PySem L2
section
variable {K : PySem.W.Frag} {ent : Nat → Option V} {σ : L2.St} {v v' : Ev} {H1 H H1' H' : Hp} {F F' : Nat → List Addr} {L : LE}
theorem wipeE_len (v : Ev) : ∀ vs : List Nat, (wipeE v vs).length = v.length
  | [] => rfl
  | i :: r => by unfold wipeE; rw [List.length_set, wipeE_len v r]
theorem wipeE_get {j : Nat} : ∀ {vs : List Nat}, (wipeE v vs)[j]? = if j ∈ vs ∧ j < v.length then some .no else v[j]?
  | [] => by simp [wipeE]
  | i :: r => by
    unfold wipeE
    by_cases hj : i = j
    · subst hj
      by_cases hl : i < v.length
      · rw [List.getElem?_set_self (by rw [wipeE_len]; exact hl), if_pos ⟨by simp, hl⟩]
      · rw [List.getElem?_eq_none (by rw [List.length_set, wipeE_len]; omega), if_neg (fun z => hl z.2), List.getElem?_eq_none (by omega)]
    · rw [List.getElem?_set_ne hj, wipeE_get]
      simp only [List.mem_cons, show (j = i) = False from eq_false (Ne.symm hj), false_or]
theorem SV.wipe (S : SV K ent σ v H1 H F) (vs : List Nat) : ∃ F', (∀ b, OF F' b → OF F b) ∧ SV K ent (L2.wipe σ vs) (wipeE v vs) H1 H F' := by
  refine ⟨fun i => if i ∈ vs then [] else F i, fun b ⟨i, hi⟩ => ?_, S.sub, by rw [wipeE_len, wipe_length]; exact S.len, fun j sl e => ?_, fun j hj => ?_, fun i j b hi hj => ?_, fun i b hi => ?_⟩
  · try dsimp only at hi
    split at hi
    · simp at hi
    · exact ⟨i, hi⟩
  · rw [wipeE_get] at e
    split at e
    · rename_i h
      cases e
      show (if j ∈ vs then [] else F j) = []
      rw [if_pos h.1]
    · rename_i h
      have hl : j < v.length := (List.getElem?_eq_some_iff.mp e).1
      have hj : j ∉ vs := fun z => h ⟨z, hl⟩
      rw [if_neg hj]
      have q := S.slot j sl e
      cases sl with
      | no => exact q
      | «at» io sh d =>
        obtain ⟨u, h1, h2, h3⟩ := q
        refine ⟨u, ?_, h2, h3⟩
        rw [wipe_get, if_neg (fun z => hj z.1)]
        exact h1
  · rw [wipeE_len] at hj
    show (if j ∈ vs then [] else F j) = []
    split
    · rfl
    · exact S.out j hj
  · try dsimp only at hi hj
    split at hi
    · simp at hi
    · split at hj
      · simp at hj
      · exact S.nd i j b hi hj
  · try dsimp only at hi
    split at hi
    · simp at hi
    · exact S.dis i b hi
theorem SV.unwipe {vs : List Nat} (S : SV K ent (L2.wipe σ vs) v H1 H F) : SV K ent σ v H1 H F := by
  refine ⟨S.sub, by rw [S.len, wipe_length], fun j sl e => ?_, S.out, S.nd, S.dis⟩
  have q := S.slot j sl e
  cases sl with
  | no => exact q
  | «at» io sh d =>
    obtain ⟨u, h1, h2, h3⟩ := q
    exact ⟨u, (wipe_some h1).1, h2, h3⟩
theorem SV.write (S : SV K ent σ v H1 H F) {p : Addr} {o : HO} (hp : ¬ OF F p) (h1 : H1 p = none) : SV K ent σ v H1 (upd H p o) F := by
  refine S.keep (fun _ _ e => e) (fun b u e => ?_) (fun b u hb e => ?_) fun b ⟨i, hb⟩ => S.dis i b hb
  · rw [upd_ne (ne_of_none e h1)]; exact S.sub b u e
  · have ne : b ≠ p := fun z => hp (by rw [← z]; exact hb)
    rw [upd_ne ne]; exact e
theorem Tr.write {O : Addr → Prop} {p : Addr} {o : HO} (h : O p) : Tr O H1 H H1 (upd H p o) O :=
  ⟨fun _ _ e => e, fun b u e n => by
    have ne : b ≠ p := fun z => n (by rw [z]; exact h)
    rw [upd_ne ne]; exact e, fun _ e => .inl e, fun _ e => .inr e⟩
theorem SV.less {G : Nat → List Addr} (S : SV K ent σ v H1 H F) : True := trivial

/-- what a clause's test asks -/
def tCond (K : PySem.W.Frag) (ent : Nat → Option V) (L : LE) : Option E → TT
  | none => tYes
  | some c => tB K ent L c
theorem tCond_of {cond : Option E} {b : Bool} {Q : Bool → Hp → Prop} (S : SV K ent σ v H1 H F) (e : evc L cond v = some (b, v'))
    (q : ∀ H1' H' F', Tr (OF F) H1 H H1' H' (OF F') → SV K ent σ v' H1' H' F' → Q b H') : tCond K ent L cond σ H Q := by
  cases cond with
  | none => cases e; exact q H1 H F (Tr.refl fun _ h => h) S
  | some c => exact ⟨v, H1, F, b, v', S, e, q⟩
theorem lcGo_cons {vs : List Nat} {t : Tg} {cond : Option E} {e : E} {x : D} {r acc ds : List D} (h : lcGo L vs t cond e (x :: r) acc v = some (ds, v')) :
    ∃ v1 b v2, asgT t x v = some v1 ∧ evc L cond v1 = some (b, v2) ∧
      ((b = false ∧ lcGo L vs t cond e r acc (wipeE v2 vs) = some (ds, v')) ∨ (b = true ∧ ∃ d v3, evv L e v2 = some (d, v3) ∧ lcGo L vs t cond e r (acc ++ [d]) (wipeE v3 vs) = some (ds, v'))) := by
  simp only [lcGo] at h
  cases z : asgT t x v with
  | none => rw [z] at h; cases h
  | some v1 =>
    rw [z] at h
    dsimp only at h
    cases y : evc L cond v1 with
    | none => rw [y] at h; cases h
    | some p =>
      obtain ⟨b, v2⟩ := p
      rw [y] at h
      refine ⟨v1, b, v2, rfl, y, ?_⟩
      cases b with
      | false => exact .inl ⟨rfl, h⟩
      | true =>
        dsimp only at h
        cases w : evv L e v2 with
        | none => rw [w] at h; cases h
        | some p => rw [w] at h; exact .inr ⟨rfl, _, _, rfl, h⟩
theorem tLc_of {vs : List Nat} {t : Tg} {it : It} {cond : Option E} {e : E} {Q : VK} (hs : ∀ i ∈ t.slots, i ∈ vs) {xs ds : List D} {v1 : Ev} (S : SV K ent σ v H1 H F) (e1 : evi L it v = some (xs, v1)) (e2 : lcGo L vs t cond e xs [] (wipeE v1 vs) = some (ds, v'))
    (q : ∀ u H1' H' F' f, Post K ent σ F H1 H .lst (.lst ds) v' u H1' H' F' f → Q u H') : tLc (tI K ent L it) (tG K ent t) (tCond K ent L cond) (tV K ent L e) vs σ H Q := by
  refine ⟨v, H1, F, xs, v1, S, e1, fun J Ha Hb Fa ta Sa wk hz A hA => ?_⟩
  have hA1 : Ha A = none := Sa.sub.free hA
  obtain ⟨Fb, hFb, Sb⟩ := Sa.wipe vs
  refine ⟨fun i m Hc => ∃ (accs : List V) (acc : List D) (vc : Ev) (H1c : Hp) (Fc : Nat → List Addr), i ≤ xs.length ∧ m = xs.length - i ∧ Same Ha H1c ∧ Hc A = some (.lst accs) ∧ H1c A = none ∧ ¬ OF Fc A ∧ Rps K H1c accs acc ∧ acc.length ≤ i ∧ SV K ent (L2.wipe σ vs) vc H1c Hc Fc ∧
      Tr (OF Fa) Ha Hb H1c Hc (fun b => OF Fc b ∨ b = A) ∧ lcGo L vs t cond e (xs.drop i) acc vc = some (ds, v'),
    ⟨xs.length, [], [], _, Ha, Fb, Nat.zero_le _, by simp, fun _ _ h => h, upd_same, hA1, fun z => Sa.new hA (hFb _ z), .nil, Nat.le_refl _, Sb.laidO hA, ?_, by simpa using e2⟩, ?_⟩
  · exact (Tr.laidO hA).weak (fun _ h => h) fun b h => by
      rcases h with h | h
      · exact .inr (hFb b h)
      · exact .inl (.inr h)
  · rintro i m Hc ⟨accs, acc, vc, H1c, Fc, hi, rfl, sm, hAc, hA1c, nF, ra, la, Sc, tc, go⟩
    have sc : Same Ha Hc := fun b o h => Sc.sub b o (sm b o h)
    by_cases hlt : i < xs.length
    · refine .inr ⟨wk.go i Hc sc hlt, fun Hn => ∃ (accs : List V) (acc : List D) (vc : Ev) (H1c : Hp) (Fc : Nat → List Addr), i + 1 ≤ xs.length ∧ Same Ha H1c ∧ Hn A = some (.lst accs) ∧ H1c A = none ∧ ¬ OF Fc A ∧ Rps K H1c accs acc ∧ acc.length ≤ i + 1 ∧ SV K ent (L2.wipe σ vs) vc H1c Hn Fc ∧
        Tr (OF Fa) Ha Hb H1c Hn (fun b => OF Fc b ∨ b = A) ∧ lcGo L vs t cond e (xs.drop (i + 1)) acc vc = some (ds, v'), fun Hn ⟨a1, a2, a3, a4, a5, b1, b2, b3, b4, b5, b6, b7, b8, b9, b10⟩ => ⟨xs.length - (i + 1), by omega, a1, a2, a3, a4, a5, b1, rfl, b2, b3, b4, b5, b6, b7, b8, b9, b10⟩, fun x Hx y => ?_⟩
      have ex : xs[i]? = some xs[i] := by simp [hlt]
      rw [List.drop_eq_getElem_cons hlt] at go
      obtain ⟨v1', b, v2, g1, g2, g3⟩ := lcGo_cons go
      -- the item: its state
      have key : ∃ H1x, Same H1c H1x ∧ Hx A = some (.lst accs) ∧ H1x A = none ∧ SV K ent (L2.wipe σ vs) vc H1x Hx Fc ∧ Rp K H1x x xs[i] ∧ Tr (OF Fa) Ha Hb H1x Hx (fun b => OF Fc b ∨ b = A) := by
        rcases wk.yld i Hc x Hx _ sc ex y with ⟨rfl, r⟩ | ⟨T, ws, ds', rfl, hT, rfl, ed, r, z⟩
        · exact ⟨H1c, fun _ _ h => h, hAc, hA1c, Sc, r.mono sm, tc⟩
        · have hT1 : H1c T = none := Sc.sub.free hT
          have hne : A ≠ T := ne_of_none hAc hT
          refine ⟨upd H1c T (.tup ws), same_new hT1, by rw [upd_ne hne]; exact hAc, by rw [upd_ne hne]; exact hA1c, Sc.laidS hT trivial, ?_, tc.trans (Tr.laidS hT Sc.sub)⟩
          rw [ed]
          exact .tup (SqT.of upd_same) z (r.mono fun b o h => by
            rw [upd_ne (ne_of_none (sm b o h) hT1)]; exact sm b o h)
      obtain ⟨H1x, smx, hAx, hA1x, Sx, rx, tx⟩ := key
      refine ⟨vc, H1x, Fc, xs[i], v1', Sx, rx, g1, fun σ2 F2 h2 S2 w2 => ⟨by rw [w2 vs hs, wipe_wipe], ?_⟩⟩
      have nF2 : ¬ OF F2 A := fun z => nF (h2 _ z)
      have ew : L2.wipe σ2 vs = L2.wipe σ vs := by rw [w2 vs hs, wipe_wipe]
      refine tCond_of S2 g2 fun H1d Hd Fd td Sd => ?_
      have hAd : Hd A = some (.lst accs) := td.frame A _ hAx nF2
      have nFd : ¬ OF Fd A := fun z => by
        rcases td.own A z with q | q
        · rw [hAx] at q; cases q
        · exact nF2 q
      have hA1d : H1d A = none := by
        cases q : H1d A with
        | none => rfl
        | some o =>
          rcases td.new A (by rw [q]; simp) with z | z | z
          · exact absurd hA1x z
          · rw [hAx] at z; cases z
          · exact absurd z nF2
      have tAll : Tr (OF Fa) Ha Hb H1d Hd (fun b => OF Fd b ∨ b = A) := by
        refine tx.trans (td.weak (fun b h => .inl (h2 b h)) fun b h => ?_)
        rcases h with h | h
        · exact .inl h
        · exact .inr (.inr h)
      rcases g3 with ⟨rfl, g⟩ | ⟨rfl, d, v3, g4, g⟩
      · rw [if_neg Bool.false_ne_true]
        obtain ⟨Fw, hFw, Sw⟩ := Sd.wipe vs
        rw [ew] at Sw
        refine ⟨accs, acc, _, H1d, Fw, hlt, fun b o h => td.mono b o (smx b o (sm b o h)), hAd, hA1d, fun z => nFd (hFw _ z), ra.mono fun b o h => td.mono b o (smx b o h), by omega, Sw, tAll.weak (fun _ h => h) fun b h => ?_, g⟩
        rcases h with h | h
        · exact .inl (.inl (hFw b h))
        · exact .inl (.inr h)
      · rw [if_pos rfl]
        refine tV_of Sd g4 fun u H1e He Fe te Se ru => ?_
        have hAe : He A = some (.lst accs) := te.frame A _ hAd nFd
        have nFe : ¬ OF Fe A := fun z => by
          rcases te.own A z with q | q
          · rw [hAd] at q; cases q
          · exact nFd q
        have hA1e : H1e A = none := by
          cases q : H1e A with
          | none => rfl
          | some o =>
            rcases te.new A (by rw [q]; simp) with z | z | z
            · exact absurd hA1d z
            · rw [hAd] at z; cases z
            · exact absurd z nFd
        have lacc := ra.length
        refine ⟨accs, hAe, by omega, ?_⟩
        obtain ⟨Fw, hFw, Sw⟩ := (Se.write (o := .lst (accs ++ [u])) nFe hA1e).wipe vs
        rw [ew] at Sw
        have mono1 : Same H1c H1e := fun b o h => te.mono b o (td.mono b o (smx b o h))
        refine ⟨accs ++ [u], acc ++ [d], _, H1e, Fw, hlt, fun b o h => mono1 b o (sm b o h), upd_same, hA1e, fun z => nFe (hFw _ z), (ra.mono mono1).append (.cons ru .nil), by rw [List.length_append, List.length_singleton]; omega, Sw, ?_, g⟩
        have t3 : Tr (OF Fa) Ha Hb H1e He (fun b => OF Fe b ∨ b = A) := by
          refine tAll.trans (te.weak (fun b h => .inl h) fun b h => ?_)
          rcases h with h | h
          · exact .inl h
          · exact .inr (.inr h)
        refine (t3.trans (Tr.write (O := fun b => OF Fe b ∨ b = A) (.inr rfl))).weak (fun _ h => h) fun b h => ?_
        rcases h with h | h
        · exact .inl (.inl (hFw b h))
        · exact .inl (.inr h)
    · have ei : i = xs.length := by omega
      subst ei
      refine .inl ⟨wk.stop Hc sc, ?_⟩
      rw [List.drop_length] at go
      cases go
      refine q (.ref A) H1c Hc Fc [A] ⟨ta.trans (tc.weak (fun _ h => h) fun b h => ?_), Sc.unwipe, ⟨A, accs, _, rfl, rfl, rfl, hAc, ra, by omega⟩, fun b hb => ?_, fun b hb => ?_⟩
      · rcases h with h | h
        · exact .inl (.inl h)
        · exact .inl (.inr (by simpa using h))
      · have e : b = A := by simpa using hb
        rw [e]; exact nF
      · have e : b = A := by simpa using hb
        rw [e]; exact hA1c
end
end R

set_option Elab.async false
set_option linter.all false
set_option maxRecDepth 100000
set_option maxHeartbeats 4000000
/-! R8: calls of defs. -/
namespace R
open PySem L2
inductive RA (K : PySem.W.Frag) (σ : L2.St) (H1 : Hp) : List Ar → List (Option D) → List V → Prop
  | nil : RA K σ H1 [] [] []
  | v {e : E} {u : V} {d : D} {as : List Ar} {ds : List (Option D)} {us : List V} : Rp K H1 u d → RA K σ H1 as ds us → RA K σ H1 (.v e :: as) (some d :: ds) (u :: us)
  | io {i : Nat} {u : V} {as : List Ar} {ds : List (Option D)} {us : List V} : σ[i]? = some (some u) → RA K σ H1 as ds us → RA K σ H1 (.io i :: as) (none :: ds) (u :: us)
def tAr (K : PySem.W.Frag) (ent : Nat → Option V) (L : LE) (as : List Ar) : TA := fun σ H Q => ∃ v H1 F ds v', SV K ent σ v H1 H F ∧ evas L as v = some (ds, v') ∧
  ∀ us H1' H' F', Tr (OF F) H1 H H1' H' (OF F') → SV K ent σ v' H1' H' F' → RA K σ H1' as ds us → Q us H'
inductive W3 (R : Nat → D → List Addr → Prop) : List Nat → List D → List (List Addr) → Prop
  | nil : W3 R [] [] []
  | cons {i : Nat} {d : D} {f : List Addr} {is : List Nat} {ds : List D} {fs : List (List Addr)} : R i d f → W3 R is ds fs → W3 R (i :: is) (d :: ds) (f :: fs)
section
variable {K : PySem.W.Frag} {ent : Nat → Option V} {σ : L2.St} {v v' v1 v2 : Ev} {H1 H H1' H' H1'' H'' : Hp} {F F' : Nat → List Addr} {L : LE} {as : List Ar} {ds : List (Option D)} {us : List V} {ps : List (Sh × D)} {new : List D} {fs fs' : List (List Addr)}
theorem setIo_len (v : Ev) (i : Nat) (d : D) : (setIo v i d).length = v.length := by
  unfold setIo
  split <;> simp
theorem setIo_self {i : Nat} {d d0 : D} {io : Bool} {s : Sh} (e : v[i]? = some (.at io s d0)) : (setIo v i d)[i]? = some (.at io s d) := by
  unfold setIo
  rw [e]
  exact List.getElem?_set_self (List.getElem?_eq_some_iff.mp e).1
theorem setIo_ne {i j : Nat} {d : D} (h : j ≠ i) : (setIo v i d)[j]? = v[j]? := by
  unfold setIo
  split
  · exact List.getElem?_set_ne (Ne.symm h)
  · rfl
theorem back_get {R : Nat → D → List Addr → Prop} : ∀ {is : List Nat} {new : List D} {fs : List (List Addr)} {v v2 : Ev}, W3 R is new fs → is.Nodup → back v is new = some v2 →
    v2.length = v.length ∧ (∀ i, i ∈ is → ∃ d f, (is.zip fs).lookup i = some f ∧ R i d f ∧ ∀ io s d0, v[i]? = some (.at io s d0) → v2[i]? = some (.at io s d)) ∧ ∀ i, i ∉ is → (is.zip fs).lookup i = none ∧ v2[i]? = v[i]?
  | _, _, _, v, v2, .nil, _, h => by
    cases h
    exact ⟨rfl, fun i hi => by simp at hi, fun i _ => ⟨rfl, rfl⟩⟩
  | _, _, _, v, v2, @W3.cons _ i d f is ds fs r w, nd, h => by
    have nd' := List.nodup_cons.mp nd
    obtain ⟨h1, h2, h3⟩ := back_get w nd'.2 h
    refine ⟨by rw [h1, setIo_len], fun j hj => ?_, fun j hj => ?_⟩
    · by_cases e : j = i
      · subst e
        refine ⟨d, f, by simp [List.lookup], r, fun io s d0 e => ?_⟩
        rw [(h3 j nd'.1).2]
        exact setIo_self e
      · have hj' : j ∈ is := by
          rcases List.mem_cons.mp hj with z | z
          · exact absurd z e
          · exact z
        obtain ⟨d', f', a, b, c⟩ := h2 j hj'
        refine ⟨d', f', ?_, b, fun io s d0 q => c io s d0 (by rw [setIo_ne e]; exact q)⟩
        rw [List.zip_cons_cons, List.lookup_cons]
        have : (j == i) = false := by simpa using e
        rw [this]; exact a
    · have hj1 : j ≠ i := fun z => hj (by simp [z])
      have hj2 : j ∉ is := fun z => hj (by simp [z])
      obtain ⟨a, b⟩ := h3 j hj2
      refine ⟨?_, by rw [b, setIo_ne hj1]⟩
      rw [List.zip_cons_cons, List.lookup_cons]
      have : (j == i) = false := by simpa using hj1
      rw [this]; exact a
theorem lookup_pos : ∀ {is : List Nat} {fs : List (List Addr)} {i : Nat} {f : List Addr}, (is.zip fs).lookup i = some f → ∃ k : Nat, is[k]? = some i ∧ fs[k]? = some f
  | [], _, _, _, h => by cases h
  | _ :: _, [], _, _, h => by cases h
  | j :: is, g :: fs, i, f, h => by
    rw [List.zip_cons_cons, List.lookup_cons] at h
    cases e : i == j with
    | true =>
      rw [e] at h
      cases h
      exact ⟨0, by simp at e; simp [e], rfl⟩
    | false =>
      rw [e] at h
      obtain ⟨k, a, b⟩ := lookup_pos h
      exact ⟨k + 1, by simpa using a, by simpa using b⟩
/-- the parameters at the call -/
theorem io_of (S : SV K ent σ v H1 H F) : ∀ {as : List Ar} {ds : List (Option D)} {us : List V} {ps : List (Sh × D)}, RA K σ H1 as ds us → params v as ds = some ps → Io K H1 H ps us ((ioOf as).map F)
  | _, _, _, ps, .nil, h => by cases h; exact .nil
  | _, _, _, ps, @RA.v _ _ _ e0 u d as ds us r ra, h => by
    simp only [params] at h
    cases z : params v as ds with
    | none => rw [z] at h; cases h
    | some qs =>
      rw [z] at h; cases h
      have ih := io_of S ra z
      exact .sh r ih
  | _, _, _, ps, @RA.io _ _ _ i u as ds us r ra, h => by
    simp only [params] at h
    split at h
    · cases h
    · rename_i io s d hs e
      cases z : params v as ds with
      | none => rw [z] at h; cases h
      | some qs =>
        rw [z] at h; cases h
        obtain ⟨u', h1, h2, _⟩ := S.slot i _ e
        rw [r] at h1; cases h1
        exact .io hs h2 (io_of S ra z)
    · cases h
theorem w3_of (S : SV K ent σ v H1 H F) : ∀ {as : List Ar} {ds : List (Option D)} {us : List V} {ps : List (Sh × D)} {new : List D} {fs : List (List Addr)}, RA K σ H1 as ds us → params v as ds = some ps → No K H1'' H'' ps us new fs →
    W3 (fun i d f => ∃ io s d0 u, v[i]? = some (.at io s d0) ∧ σ[i]? = some (some u) ∧ RS K H1'' H'' s u d f) (ioOf as) new fs
  | _, _, _, ps, _, _, .nil, h, no => by cases h; cases no; exact .nil
  | _, _, _, ps, _, _, @RA.v _ _ _ e0 u d as ds us r ra, h, no => by
    simp only [params] at h
    cases z : params v as ds with
    | none => rw [z] at h; cases h
    | some qs =>
      rw [z] at h; cases h
      cases no with
      | sh no =>
        have ih := w3_of S ra z no
        exact ih
      | io hs _ _ => exact absurd rfl hs
  | _, _, _, ps, _, _, @RA.io _ _ _ i u as ds us r ra, h, no => by
    simp only [params] at h
    split at h
    · cases h
    · rename_i io s d hs e
      cases z : params v as ds with
      | none => rw [z] at h; cases h
      | some qs =>
        rw [z] at h; cases h
        cases no with
        | sh no => exact absurd rfl hs
        | io hs' r' no => exact .cons ⟨io, s, d, u, e, r, r'⟩ (w3_of S ra z no)
    · cases h
theorem SV.called {is : List Nat} (S : SV K ent σ v H1' H' F') (nd : is.Nodup) (w : W3 (fun i d f => ∃ io s d0 u, v[i]? = some (.at io s d0) ∧ σ[i]? = some (some u) ∧ RS K H1'' H'' s u d f) is new fs') (hb : back v is new = some v2) {f : List Addr}
    (t : Tr (MF (is.map F')) H1' H' H1'' H'' (fun b => MF fs' b ∨ b ∈ f)) (sub : Same H1'' H'') (sep : Sep fs') (ap : ∀ b, MF fs' b → b ∉ f) (dj : ∀ b, MF fs' b ∨ b ∈ f → H1'' b = none) :
    ∃ F2, SV K ent σ v2 H1'' H'' F2 ∧ (∀ b, OF F2 b → MF fs' b ∨ OF F' b) ∧ ∀ b ∈ f, ¬ OF F2 b := by
  obtain ⟨bl, b1, b2⟩ := back_get w nd hb
  have mfO : ∀ b, MF (is.map F') b → OF F' b := fun b ⟨g, hg, hbg⟩ => by
    obtain ⟨i, hi, rfl⟩ := List.mem_map.mp hg
    exact ⟨i, hbg⟩
  have mfI : ∀ b j, MF (is.map F') b → b ∈ F' j → j ∈ is := fun b j ⟨g, hg, hbg⟩ hj => by
    obtain ⟨i, hi, rfl⟩ := List.mem_map.mp hg
    rw [S.nd j i b hj hbg]; exact hi
  -- what is new is not another slot's
  have apart : ∀ b j, MF fs' b ∨ b ∈ f → b ∈ F' j → j ∈ is := fun b j h hj => by
    rcases t.own b h with z | z
    · exact absurd z (S.there ⟨j, hj⟩)
    · exact mfI b j z hj
  have look : ∀ {i g}, (is.zip fs').lookup i = some g → g ∈ fs' := fun {i g} h => by
    obtain ⟨k, _, e⟩ := lookup_pos h
    exact List.mem_of_getElem? e
  refine ⟨fun i => ((is.zip fs').lookup i).getD (F' i), ⟨sub, by rw [bl]; exact S.len, fun j sl e => ?_, fun j hj => ?_, fun i j b hi hj => ?_, fun i b hi => ?_⟩, fun b ⟨i, hi⟩ => ?_, fun b hbf ⟨i, hi⟩ => ?_⟩
  · by_cases hj : j ∈ is
    · obtain ⟨d, g, l, ⟨io, s, d0, u, e0, eu, r⟩, hv⟩ := b1 j hj
      rw [hv io s d0 e0] at e
      cases e
      obtain ⟨u', h1, h2, h3⟩ := S.slot j _ e0
      rw [eu] at h1; cases h1
      refine ⟨u, eu, ?_, h3⟩
      rw [l]; exact r
    · obtain ⟨l, hv⟩ := b2 j hj
      rw [hv] at e
      have q := S.slot j sl e
      rw [l]
      show SlotOk K ent σ H1'' H'' j (F' j) sl
      cases sl with
      | no => exact q
      | «at» io s d =>
        obtain ⟨u, h1, h2, h3⟩ := q
        exact ⟨u, h1, h2.step t.mono fun b o hbj hbo => t.frame b o hbo fun z => hj (mfI b j z hbj), h3⟩
  · have hj' : v.length ≤ j := by rw [← bl]; exact hj
    have hn : j ∉ is := fun z => by
      obtain ⟨d, g, l, ⟨io, s, d0, u, e0, _⟩, _⟩ := b1 j z
      exact absurd (List.getElem?_eq_some_iff.mp e0).1 (by omega)
    show ((is.zip fs').lookup j).getD (F' j) = []
    rw [(b2 j hn).1]
    exact S.out j hj'
  · try dsimp only at hi hj
    by_cases h1 : i ∈ is
    · obtain ⟨d, g, l, _⟩ := b1 i h1
      rw [l] at hi
      have hi : b ∈ g := hi
      by_cases h2 : j ∈ is
      · obtain ⟨d', g', l', _⟩ := b1 j h2
        rw [l'] at hj
        have hj : b ∈ g' := hj
        obtain ⟨k, k1, k2⟩ := lookup_pos l
        obtain ⟨k', k1', k2'⟩ := lookup_pos l'
        have := sep k k' g g' b k2 k2' hi hj
        subst this
        rw [k1] at k1'; cases k1'; rfl
      · rw [(b2 j h2).1] at hj
        have hj : b ∈ F' j := hj
        exact absurd (apart b j (.inl ⟨g, look l, hi⟩) hj) h2
    · rw [(b2 i h1).1] at hi
      have hi : b ∈ F' i := hi
      by_cases h2 : j ∈ is
      · obtain ⟨d', g', l', _⟩ := b1 j h2
        rw [l'] at hj
        have hj : b ∈ g' := hj
        exact absurd (apart b i (.inl ⟨g', look l', hj⟩) hi) h1
      · rw [(b2 j h2).1] at hj
        exact S.nd i j b hi hj
  · try dsimp only at hi
    by_cases h1 : i ∈ is
    · obtain ⟨d, g, l, _⟩ := b1 i h1
      rw [l] at hi
      exact dj b (.inl ⟨g, look l, hi⟩)
    · rw [(b2 i h1).1] at hi
      have hi : b ∈ F' i := hi
      cases q : H1'' b with
      | none => rfl
      | some o =>
        rcases t.new b (by rw [q]; simp) with z | z | z
        · exact absurd (S.dis i b hi) z
        · exact absurd z (S.there ⟨i, hi⟩)
        · exact absurd (mfI b i z hi) h1
  · try dsimp only at hi
    by_cases h1 : i ∈ is
    · obtain ⟨d, g, l, _⟩ := b1 i h1
      rw [l] at hi
      exact .inl ⟨g, look l, hi⟩
    · rw [(b2 i h1).1] at hi
      exact .inr ⟨i, hi⟩
  · try dsimp only at hi
    by_cases h1 : i ∈ is
    · obtain ⟨d, g, l, _⟩ := b1 i h1
      rw [l] at hi
      exact ap b ⟨g, look l, hi⟩ hbf
    · rw [(b2 i h1).1] at hi
      exact h1 (apart b i (.inr hbf) hi)
theorem sep_map {is : List Nat} (S : SV K ent σ v H1 H F) (nd : is.Nodup) : Sep (is.map F) := by
  intro i j f g b hi hj hf hg
  rw [List.getElem?_map] at hi hj
  cases a : is[i]? with
  | none => rw [a] at hi; cases hi
  | some k =>
    cases a' : is[j]? with
    | none => rw [a'] at hj; cases hj
    | some l =>
      rw [a] at hi; rw [a'] at hj
      cases hi; cases hj
      have e := S.nd k l b hf hg
      subst e
      obtain ⟨h1, e1⟩ := List.getElem?_eq_some_iff.mp a
      obtain ⟨h2, e2⟩ := List.getElem?_eq_some_iff.mp a'
      exact (List.getElem_inj nd).mp (e1.trans e2.symm)
theorem tCall_of {Fm : Fn} {s : Sh} {d : D} {Q : VK} (S : SV K ent σ v H1 H F) (e1 : evas L as v = some (ds, v1)) (nd : (ioOf as).Nodup) (e2 : params v1 as ds = some ps) (e3 : Fm ps = some (s, d, new)) (e4 : back v1 (ioOf as) new = some v2)
    (q : ∀ u H1' H' F' f, Post K ent σ F H1 H s d v2 u H1' H' F' f → Q u H') : tCall (spOf K Fm) [] E0 (tAr K ent L as) σ H Q := by
  refine ⟨v, H1, F, ds, v1, S, e1, fun us Ha Hb Fa ta Sa ra => ?_⟩
  show spOf K Fm (us ++ []) Hb Q E0
  rw [List.append_nil]
  refine ⟨ps, s, d, new, Ha, (ioOf as).map Fa, Sa.sub, io_of Sa ra e2, sep_map Sa nd, fun b ⟨g, hg, hb⟩ => ?_, e3, fun u Hc Hd fs' f t sub no rs sep ap dj => ?_⟩
  · obtain ⟨i, _, rfl⟩ := List.mem_map.mp hg
    exact Sa.dis i b hb
  · obtain ⟨F2, S2, o2, a2⟩ := Sa.called nd (w3_of Sa ra e2 no) e4 t sub sep ap dj
    refine q u Hc Hd F2 f ⟨ta.trans (t.weak (fun b ⟨g, hg, hb⟩ => ?_) fun b h => ?_), S2, rs, a2, fun b hb => dj b (.inr hb)⟩
    · obtain ⟨i, _, rfl⟩ := List.mem_map.mp hg
      exact ⟨i, hb⟩
    · rcases h with h | h
      · rcases o2 b h with h | h
        · exact .inl (.inl h)
        · exact .inr h
      · exact .inl (.inr h)
end
end R

set_option Elab.async false
set_option linter.all false
set_option maxRecDepth 100000
set_option maxHeartbeats 8000000
/-! R9: expressions are sound. -/
namespace R
open PySem L2
section
variable {Φ : Tab} {N : List Str} {n : Nat} {c : Sx} {X : Cx} {ent : Nat → Option V}
/-! ### small facts -/
theorem size1000 {k : Nat} (h : k < 1000) : k ≤ sizeLine := by rw [sizeLine_eq]; omega
theorem ckE_noSet {op : CmpOp} {z : Expr} {e : E} (h : ckE N n c z e = true) : behindInMarks op z = false := by
  cases z with
  | Set a b d =>
    exfalso
    cases n with
    | zero => cases h
    | succ n => cases e <;> cases h
  | _ => rfl
theorem plainIx {z : Expr} (h : notSlice z = true) : PlainIx z := by
  intro o i
  cases z <;> first | rfl | cases h
theorem evs_len {L : LE} : ∀ {es : List E} {v v' : Ev} {ds : List D}, evs L es v = some (ds, v') → ds.length = es.length
  | [], _, _, _, h => by cases h; rfl
  | e :: r, v, v', ds, h => by
    obtain ⟨d, dr, v1, _, h2, rfl⟩ := evs_cons h
    rw [List.length_cons, List.length_cons, evs_len h2]
theorem tyName_ok {y : Str} {s : String} (h : tyName y = some s) : bootBuiltins y = some (.type s) ∧ s ∈ ["int", "bool", "str", "list", "tuple", "dict"] ∧ y ∈ bltNames := by
  unfold tyName at h
  repeat' split at h
  all_goals first
    | (cases h; done)
    | (cases h; subst_vars; exact ⟨by decide +kernel, by decide, by decide +kernel⟩)
def tyAll : List String := ["NoneType", "bool", "int", "str", "list", "tuple", "dict"]
theorem kitB_all : (tyAll.all fun a => (["int", "bool", "str", "list", "tuple", "dict"] : List String).all fun b => decide (kitB a b = some (isiOne a b))) = true := by decide +kernel
theorem kit_at {K : PySem.W.Frag} {a b : String} (ha : a ∈ tyAll) (hb : b ∈ (["int", "bool", "str", "list", "tuple", "dict"] : List String)) : PySem.W.kitOne K (.type a) (.type b) = some (isiOne a b) :=
  kit_ty (of_decide_eq_true (List.all_eq_true.mp (List.all_eq_true.mp kitB_all a ha) b hb))
theorem kit_any {K : PySem.W.Frag} {a : String} (ha : a ∈ tyAll) : ∀ {ts : List String}, (∀ t ∈ ts, t ∈ (["int", "bool", "str", "list", "tuple", "dict"] : List String)) → PySem.W.kitAny K (.type a) (ts.map Value.type) = some (ts.any fun t => isiOne a t)
  | [], _ => rfl
  | t :: r, h => by
    refine kitAny_cons (kit_at ha (h t (by simp))) (fun e => ?_) fun e => ?_
    · rw [kit_any ha fun t' ht => h t' (by simp [ht]), List.any_cons, e, Bool.false_or]
    · rw [List.any_cons, e, Bool.true_or]
theorem Rp.ty {K : PySem.W.Frag} {H : Hp} {u : V} {d : D} (r : Rp K H u d) : TyX K H u (.type (tyOf d)) ∧ tyOf d ∈ tyAll := by
  cases r with
  | non => exact ⟨.base .non, by simp [tyOf, tyAll]⟩
  | bl b => exact ⟨.base (.bl b), by simp [tyOf, tyAll]⟩
  | int i => exact ⟨.base (.int i), by simp [tyOf, tyAll]⟩
  | str x => exact ⟨.base (.str x), by simp [tyOf, tyAll]⟩
  | lst h _ _ => exact ⟨.base (.lst h), by simp [tyOf, tyAll]⟩
  | tup h _ _ =>
    refine ⟨?_, by simp [tyOf, tyAll]⟩
    rcases h with (h | ⟨o, h⟩) | ⟨o, its, m, h1, h2, _⟩
    · exact .base (.tup h)
    · exact .fTuple h
    · exact .kTuple h1 h2
/-- the classes of an isinstance -/
theorem go_tys (C : Cn Φ X) (A : At X N c) : ∀ {xs : List Expr} {ts : List String}, tyNames c xs ts = true → PA X xs (fun σ H Q => Q (ts.map V.ty) H) ∧ (∀ t ∈ ts, t ∈ (["int", "bool", "str", "list", "tuple", "dict"] : List String)) ∧ xs.length = ts.length ∧ ∀ x ∈ xs, NoStar x
  | [], [], _ => ⟨PA.mono pa_nil fun _ _ _ h => h, fun t h => by simp at h, rfl, fun x h => by simp at h⟩
  | x :: r, t :: ts, h => by
    cases x with
    | Name y pos =>
      simp only [tyNames, Bool.and_eq_true] at h
      obtain ⟨⟨h1, h2⟩, h3⟩ := h
      obtain ⟨hg, hd, hn⟩ := gl_of A h1
      obtain ⟨k1, k2, k3⟩ := tyName_ok (of_decide_eq_true h2)
      obtain ⟨p, q1, q2, q3⟩ := go_tys C A h3
      refine ⟨PA.mono (pa_cons (pe_bltn (v := .ty t) hg (C.blt y k3) k1 rfl hn hd) p (star_cons trivial)) fun σ H Q q => q, fun t' ht => ?_, by simp [q2], fun x hx => ?_⟩
      · rcases List.mem_cons.mp ht with rfl | ht
        · exact k2
        · exact q1 t' ht
      · rcases List.mem_cons.mp hx with rfl | hx
        · trivial
        · exact q3 x hx
    | _ => simp [tyNames] at h
  | [], _ :: _, h => by simp [tyNames] at h
  | x :: _, [], h => by cases x <;> simp [tyNames] at h
theorem cls_all : ∀ ts : List String, Paired ClsV (ts.map V.ty) (ts.map Value.type)
  | [] => .nil
  | t :: r => .cons (.ty t) (cls_all r)
theorem thnR {K : PySem.W.Frag} {σ : L2.St} {v : Ev} {H1 H : Hp} {F F' : Nat → List Addr} {Ha Hb : Hp} {v' : Ev} {d : D} {u : V} (t : Tr (OF F) H1 H Ha Hb (OF F')) (S : SV K ent σ v' Ha Hb F') (r : Rp K Ha u d) : Post K ent σ F H1 H .sh d v' u Ha Hb F' [] :=
  (NewR.old S.sub r).post S t

/-! ### and, or -/
def tAn (K : PySem.W.Frag) (ent : Nat → Option V) (L : LE) (f : LE → E → List E → Ev → Option (D × Ev)) (a : E) (es : List E) : TE := fun σ H Q => ∃ v H1 F d v', SV K ent σ v H1 H F ∧ f L a es v = some (d, v') ∧ ∀ u H1' H' F', PostV K ent σ F H1 H d v' u H1' H' F' → Q u H'
def tAb (K : PySem.W.Frag) (ent : Nat → Option V) (L : LE) (f : LE → E → List E → Ev → Option (D × Ev)) (a : E) (es : List E) : TT := fun σ H Q => ∃ v H1 F b v', SV K ent σ v H1 H F ∧ f L a es v = some (.bl b, v') ∧ ∀ H1' H' F', Tr (OF F) H1 H H1' H' (OF F') → SV K ent σ v' H1' H' F' → Q b H'
theorem evt_v {L : LE} {e : E} {v v' : Ev} {b : Bool} (h : evt L e v = some (b, v')) : evv L e v = some (.bl b, v') := by
  unfold evt at h
  split at h
  · rename_i z; cases h; exact z
  · cases h
theorem evAnd_cons {L : LE} {a b : E} {r : List E} {v v' : Ev} {d : D} (h : evAnd L a (b :: r) v = some (d, v')) : ∃ v1, (evt L a v = some (true, v1) ∧ evAnd L b r v1 = some (d, v')) ∨ (evt L a v = some (false, v') ∧ d = .bl false) := by
  simp only [evAnd] at h
  cases z : evt L a v with
  | none => rw [z] at h; cases h
  | some p =>
    obtain ⟨k, v1⟩ := p
    rw [z] at h
    cases k with
    | true => exact ⟨v1, .inl ⟨rfl, h⟩⟩
    | false => cases h; exact ⟨v, .inr ⟨rfl, rfl⟩⟩
theorem evOr_cons {L : LE} {a b : E} {r : List E} {v v' : Ev} {d : D} (h : evOr L a (b :: r) v = some (d, v')) : ∃ v1, (evt L a v = some (false, v1) ∧ evOr L b r v1 = some (d, v')) ∨ (evt L a v = some (true, v') ∧ d = .bl true) := by
  simp only [evOr] at h
  cases z : evt L a v with
  | none => rw [z] at h; cases h
  | some p =>
    obtain ⟨k, v1⟩ := p
    rw [z] at h
    cases k with
    | false => exact ⟨v1, .inl ⟨rfl, h⟩⟩
    | true => cases h; exact ⟨v, .inr ⟨rfl, rfl⟩⟩
theorem go_and (g : GoE Φ N n) (C : Cn Φ X) (A : At X N c) {pos : Pos} : ∀ {ys : List Expr} {y : Expr} {a : E} {es : List E}, ckE N n c y a = true → all2 (ckE N n c) ys es = true → PE X (.BoolOp .And (y :: ys) pos) (tAn X.K ent (lev Φ n).e evAnd a es)
  | [], y, a, [], h, _ => by
    refine PE.mono (pe_one (g.v (ent := ent) h C A)) fun σ H Q q => ?_
    obtain ⟨v, H1, F, d, v', S, e, q⟩ := q
    exact ⟨v, H1, F, d, v', S, e, q⟩
  | z :: zs, y, a, b :: es, h, h2 => by
    have h2' := Bool.and_eq_true_iff.mp h2
    refine PE.mono (pe_and (g.v (ent := ent) h C A) (go_and g C A h2'.1 h2'.2)) fun σ H Q q => ?_
    obtain ⟨v, H1, F, d, v', S, e, q⟩ := q
    obtain ⟨v1, ⟨e1, e2⟩ | ⟨e1, rfl⟩⟩ := evAnd_cons e
    · refine tV_of S (evt_v e1) fun u Ha Hb Fa t Sa r => ?_
      cases r
      refine ⟨true, rfl, ?_⟩
      rw [if_pos rfl]
      exact ⟨v1, Ha, Fa, d, v', Sa, e2, fun u H1' H' F' p => q u H1' H' F' ⟨t.trans p.tr, p.sv, p.rp⟩⟩
    · refine tV_of S (evt_v e1) fun u Ha Hb Fa t Sa r => ?_
      cases r
      refine ⟨false, rfl, ?_⟩
      rw [if_neg Bool.false_ne_true]
      exact q _ Ha Hb Fa ⟨t, Sa, .bl false⟩
  | [], _, _, _ :: _, _, h => by cases h
  | _ :: _, _, _, [], _, h => by cases h
theorem go_or (g : GoE Φ N n) (C : Cn Φ X) (A : At X N c) {pos : Pos} : ∀ {ys : List Expr} {y : Expr} {a : E} {es : List E}, ckE N n c y a = true → all2 (ckE N n c) ys es = true → PE X (.BoolOp .Or (y :: ys) pos) (tAn X.K ent (lev Φ n).e evOr a es)
  | [], y, a, [], h, _ => by
    refine PE.mono (pe_one (g.v (ent := ent) h C A)) fun σ H Q q => ?_
    obtain ⟨v, H1, F, d, v', S, e, q⟩ := q
    exact ⟨v, H1, F, d, v', S, e, q⟩
  | z :: zs, y, a, b :: es, h, h2 => by
    have h2' := Bool.and_eq_true_iff.mp h2
    refine PE.mono (pe_or (g.v (ent := ent) h C A) (go_or g C A h2'.1 h2'.2)) fun σ H Q q => ?_
    obtain ⟨v, H1, F, d, v', S, e, q⟩ := q
    obtain ⟨v1, ⟨e1, e2⟩ | ⟨e1, rfl⟩⟩ := evOr_cons e
    · refine tV_of S (evt_v e1) fun u Ha Hb Fa t Sa r => ?_
      cases r
      refine ⟨false, rfl, ?_⟩
      rw [if_neg Bool.false_ne_true]
      exact ⟨v1, Ha, Fa, d, v', Sa, e2, fun u H1' H' F' p => q u H1' H' F' ⟨t.trans p.tr, p.sv, p.rp⟩⟩
    · refine tV_of S (evt_v e1) fun u Ha Hb Fa t Sa r => ?_
      cases r
      refine ⟨true, rfl, ?_⟩
      rw [if_pos rfl]
      exact q _ Ha Hb Fa ⟨t, Sa, .bl true⟩
  | [], _, _, _ :: _, _, h => by cases h
  | _ :: _, _, _, [], _, h => by cases h
theorem PW.mono {X : Cx} {e : Expr} {t t' : TT} (h : PW X e t) (m : ∀ σ H Q, t' σ H Q → t σ H Q) : PW X e t' := ⟨fun wh pins s σ H Q I q => h.run wh pins s σ H Q I (m σ H Q q)⟩
theorem tB_of {K : PySem.W.Frag} {σ : L2.St} {v v' : Ev} {H1 H : Hp} {F : Nat → List Addr} {L : LE} {e : E} {b : Bool} {Q : Bool → Hp → Prop} (S : SV K ent σ v H1 H F) (h : evt L e v = some (b, v')) (q : ∀ H1' H' F', Tr (OF F) H1 H H1' H' (OF F') → SV K ent σ v' H1' H' F' → Q b H') : tB K ent L e σ H Q := ⟨v, H1, F, b, v', S, h, q⟩
theorem evt_of {L : LE} {e : E} {v v' : Ev} {b : Bool} (h : evv L e v = some (.bl b, v')) : evt L e v = some (b, v') := by
  unfold evt; rw [h]
theorem go_andT (g : GoE Φ N n) (C : Cn Φ X) (A : At X N c) {pos : Pos} : ∀ {ys : List Expr} {y : Expr} {a : E} {es : List E}, ckE N n c y a = true → tst a = true → all2 (ckE N n c) ys es = true → es.all tst = true → PW X (.BoolOp .And (y :: ys) pos) (tAb X.K ent (lev Φ n).e evAnd a es)
  | [], y, a, [], h, ht, _, _ => by
    refine PW.mono (pw_and1 ((g c y a h X C A ent).2 ht)) fun σ H Q q => ?_
    obtain ⟨v, H1, F, b, v', S, e, q⟩ := q
    exact tB_of S (evt_of e) q
  | z :: zs, y, a, b :: es, h, ht, h2, h3 => by
    have h2' := Bool.and_eq_true_iff.mp h2
    have h3' := Bool.and_eq_true_iff.mp h3
    refine PW.mono (pw_and ((g c y a h X C A ent).2 ht) (go_andT g C A h2'.1 h3'.1 h2'.2 h3'.2)) fun σ H Q q => ?_
    obtain ⟨v, H1, F, b, v', S, e, q⟩ := q
    obtain ⟨v1, ⟨e1, e2⟩ | ⟨e1, eb⟩⟩ := evAnd_cons e
    · refine tB_of S e1 fun Ha Hb Fa t Sa => ?_
      rw [if_pos rfl]
      exact ⟨v1, Ha, Fa, b, v', Sa, e2, fun H1' H' F' t' S' => q H1' H' F' (t.trans t') S'⟩
    · cases eb
      refine tB_of S e1 fun Ha Hb Fa t Sa => ?_
      rw [if_neg Bool.false_ne_true]
      exact q Ha Hb Fa t Sa
  | [], _, _, _ :: _, _, _, h, _ => by cases h
  | _ :: _, _, _, [], _, _, h, _ => by cases h
theorem go_orT (g : GoE Φ N n) (C : Cn Φ X) (A : At X N c) {pos : Pos} : ∀ {ys : List Expr} {y : Expr} {a : E} {es : List E}, ckE N n c y a = true → tst a = true → all2 (ckE N n c) ys es = true → es.all tst = true → PW X (.BoolOp .Or (y :: ys) pos) (tAb X.K ent (lev Φ n).e evOr a es)
  | [], y, a, [], h, ht, _, _ => by
    refine PW.mono (pw_or1 ((g c y a h X C A ent).2 ht)) fun σ H Q q => ?_
    obtain ⟨v, H1, F, b, v', S, e, q⟩ := q
    exact tB_of S (evt_of e) q
  | z :: zs, y, a, b :: es, h, ht, h2, h3 => by
    have h2' := Bool.and_eq_true_iff.mp h2
    have h3' := Bool.and_eq_true_iff.mp h3
    refine PW.mono (pw_or ((g c y a h X C A ent).2 ht) (go_orT g C A h2'.1 h3'.1 h2'.2 h3'.2)) fun σ H Q q => ?_
    obtain ⟨v, H1, F, b, v', S, e, q⟩ := q
    obtain ⟨v1, ⟨e1, e2⟩ | ⟨e1, eb⟩⟩ := evOr_cons e
    · refine tB_of S e1 fun Ha Hb Fa t Sa => ?_
      rw [if_neg Bool.false_ne_true]
      exact ⟨v1, Ha, Fa, b, v', Sa, e2, fun H1' H' F' t' S' => q H1' H' F' (t.trans t') S'⟩
    · cases eb
      refine tB_of S e1 fun Ha Hb Fa t Sa => ?_
      rw [if_pos rfl]
      exact q Ha Hb Fa t Sa
  | [], _, _, _ :: _, _, _, h, _ => by cases h
  | _ :: _, _, _, [], _, _, h, _ => by cases h

/-! ### arguments of a call -/
abbrev ckA (N : List Str) (n : Nat) (c : Sx) : Expr → Ar → Bool := ckAr (ckE N n c) N c
theorem ckA_io {x : Expr} {i : Nat} (h : ckA N n c x (.io i) = true) : ∃ y pos, x = .Name y pos ∧ N[i]? = some y ∧ visN c y = true ∧ okName y = true := by
  cases x with
  | Name y pos =>
    have h' : (decide (N[i]? = some y) && visN c y && okName y) = true := h
    simp only [Bool.and_eq_true] at h'
    exact ⟨y, pos, rfl, of_decide_eq_true h'.1.1, h'.1.2, h'.2⟩
  | _ => cases h
theorem ckA_noStar {x : Expr} {a : Ar} (h : ckA N n c x a = true) : NoStar x := by
  cases a with
  | v e => exact ckE_noStar h
  | io i => cases x <;> first | trivial | cases h
theorem all2A_noStar : ∀ {xs : List Expr} {as : List Ar}, all2 (ckA N n c) xs as = true → ∀ x ∈ xs, NoStar x
  | [], _, _, x, hx => by cases hx
  | y :: r, e :: es, h, x, hx => by
    have h' := Bool.and_eq_true_iff.mp h
    rcases List.mem_cons.mp hx with rfl | hx
    · exact ckA_noStar h'.1
    · exact all2A_noStar h'.2 x hx
  | _ :: _, [], h, _, _ => by cases h
theorem go_args (g : GoE Φ N n) (C : Cn Φ X) (A : At X N c) : ∀ {xs : List Expr} {as : List Ar}, all2 (ckA N n c) xs as = true → PA X xs (tAr X.K ent (lev Φ n).e as)
  | [], [], _ => PA.mono pa_nil fun σ H Q q => by
    obtain ⟨v, H1, F, ds, v', S, e, q⟩ := q
    cases e
    exact q [] H1 H F (Tr.refl fun _ h => h) S .nil
  | x :: r, .v e :: as, h => by
    have h' := Bool.and_eq_true_iff.mp h
    refine PA.mono (pa_cons (g.v (ent := ent) (show ckE N n c x e = true from h'.1) C A) (go_args g C A h'.2) (star_cons (ckA_noStar h'.1))) fun σ H Q q => ?_
    obtain ⟨v, H1, F, ds, v', S, ev, q⟩ := q
    simp only [evas] at ev
    split at ev
    · rename_i d v1 z
      split at ev
      · rename_i ds' v2 z2
        cases ev
        refine tV_of S z fun u Ha Hb Fa t Sa ru => ⟨v1, Ha, Fa, ds', _, Sa, z2, fun us Hc Hd Fc tc Sc ra => ?_⟩
        exact q (u :: us) Hc Hd Fc (t.trans tc) Sc (.v (ru.mono tc.mono) ra)
      · cases ev
    · cases ev
  | x :: r, .io i :: as, h => by
    have h' := Bool.and_eq_true_iff.mp h
    obtain ⟨y, pos, rfl, k1, k2, k3⟩ := ckA_io h'.1
    · have kn := okName_of k3
      refine PA.mono (pa_cons (pe_var (i := i) (by rw [A.n]; exact k1) (vis_of A k2) kn.1 kn.2.1) (go_args g C A h'.2) (star_cons trivial)) fun σ H Q q => ?_
      obtain ⟨v, H1, F, ds, v', S, ev, q⟩ := q
      simp only [evas] at ev
      split at ev
      · cases ev
      · rename_i io s d hs e
        split at ev
        · rename_i ds' v2 z2
          cases ev
          obtain ⟨u, hu, _, _⟩ := S.slot i _ e
          exact ⟨u, hu, v, H1, F, ds', _, S, z2, fun us Hc Hd Fc tc Sc ra => q (u :: us) Hc Hd Fc tc Sc (.io hu ra)⟩
        · cases ev
      · cases ev
  | [], _ :: _, h => by cases h
  | _ :: _, [], h => by cases h
end
end R

set_option Elab.async false
set_option linter.all false
set_option maxRecDepth 100000
set_option maxHeartbeats 8000000
/-! R10: every expression. -/
namespace R
open PySem L2
theorem own_of {N : List Str} : ∀ {vs : List Nat} {own : List (Str × Nat)}, (vs.mapM fun i => (N[i]?).map fun y => (y, i)) = some own → own.map (·.2) = vs
  | [], own, h => by
    cases h; rfl
  | i :: r, own, h => by
    rw [List.mapM_cons] at h
    cases e : N[i]? with
    | none => rw [e] at h; cases h
    | some y =>
      rw [e] at h
      cases e2 : (r.mapM fun i => (N[i]?).map fun y => (y, i)) with
      | none => rw [e2] at h; cases h
      | some o =>
        rw [e2] at h
        cases h
        rw [List.map_cons, own_of e2]
theorem go_o {Φ : Tab} {N : List Str} {n : Nat} {c : Sx} {X : Cx} {ent : Nat → Option V} (g : GoE Φ N n) (C : Cn Φ X) (A : At X N c) : ∀ {lx : Option Expr} {le : Option E}, ckO (ckE N n c) lx le = true →
    PO X lx (fun σ H Q => ∃ v H1 F o v', SV X.K ent σ v H1 H F ∧ evo (lev Φ n).e le v = some (o, v') ∧ ∀ H1' H' F', Tr (OF F) H1 H H1' H' (OF F') → SV X.K ent σ v' H1' H' F' → Q o H')
  | none, none, _ => ⟨fun pins s σ H Q I q => by
    obtain ⟨v, H1, F, o, v', S, e, q⟩ := q
    cases e
    exact po_none.run pins s σ H Q I (q H1 H F (Tr.refl fun _ h => h) S)⟩
  | some x, some e, h => ⟨fun pins s σ H Q I q => by
    obtain ⟨v, H1, F, o, v', S, ev, q⟩ := q
    refine (po_some (g.v (ent := ent) h C A)).run pins s σ H Q I ?_
    simp only [evo] at ev
    split at ev
    · rename_i i v1 z
      cases ev
      refine tV_of S z fun u Ha Hb Fa t Sa r => ?_
      cases r
      exact ⟨i, rfl, q Ha Hb Fa t Sa⟩
    · cases ev⟩
  | none, some _, h => by cases h
  | some _, none, h => by cases h
theorem ckE_set {N : List Str} {n : Nat} {c : Sx} {a : List Expr} {b : Nat} {d : Pos} {e : E} (h : ckE N n c (.Set a b d) e = true) : False := by
  cases n with
  | zero => cases h
  | succ n => cases e <;> cases h
theorem ckI_noSet {N : List Str} {n : Nat} {c : Sx} {tg x : Expr} {it : It} (h : ckI (ckE N n c) c tg x it = true) (env : Env) (y : Value) : foldedSetIterable x env y = pure y := by
  cases x with
  | Set a b d =>
    exfalso
    cases it with
    | seq e => exact ckE_set h
    | _ => cases h
  | _ => rfl
set_option maxHeartbeats 0 in
theorem goE (Φ : Tab) (N : List Str) : ∀ n, GoE Φ N n
  | 0 => fun c x e h => by cases h
  | n + 1 => fun c x e h X C A ent => by
    have g := goE Φ N n
    cases e with
    | c d =>
      simp only [ckE] at h
      split at h
      · rename_i k j pos
        have p : PE X (.Constant k j pos) (tE X.K ent (lev Φ (n + 1)).e (.c d)) := by
          have fin : ∀ {u : V}, (∀ H, Rp X.K H u d) → PE X (.Constant k j pos) (tC u) → PE X (.Constant k j pos) (tE X.K ent (lev Φ (n + 1)).e (.c d)) := fun {u} r p => PE.mono p fun σ H Q q => by
            obtain ⟨v, H1, F, s, d', v', S, ev, q⟩ := q
            change (if leaf d then some (Sh.sh, d, v) else none) = _ at ev
            split at ev
            · cases ev; exact q _ _ _ _ _ (S.post (r _))
            · cases ev
          cases k with
          | none => cases d <;> first | (cases h; done) | exact fin (fun _ => .non) pe_non
          | bool b => cases d <;> first | (cases h; done) | (have e := eq_of_beq h; subst e; exact fin (fun _ => .bl _) pe_bl)
          | int i => cases d <;> first | (cases h; done) | (have e := of_decide_eq_true h; subst e; exact fin (fun _ => .int _) pe_int)
          | str i => cases d <;> first | (cases h; done) | (have e := of_decide_eq_true h; subst e; exact fin (fun _ => .str _) pe_str)
          | _ => cases d <;> cases h
        exact ⟨p, fun _ => pt_b p (by intro _; rfl)⟩
      · cases h
    | var i =>
      simp only [ckE] at h
      split at h
      · rename_i y pos
        simp only [Bool.and_eq_true] at h
        obtain ⟨⟨k1, k2⟩, k3⟩ := h
        have kn := okName_of k3
        have p : PE X (.Name y pos) (tE X.K ent (lev Φ (n + 1)).e (.var i)) := PE.mono (pe_var (i := i) (by rw [A.n]; exact of_decide_eq_true k1) (vis_of A k2) kn.1 kn.2.1) fun σ H Q q => by
          obtain ⟨v, H1, F, s, d', v', S, ev, q⟩ := q
          change stepE Φ (lev Φ n).e (.var i) v = _ at ev
          simp only [stepE] at ev
          split at ev
          · rename_i io d e
            cases ev
            obtain ⟨u, hu, r⟩ := S.var e
            exact ⟨u, hu, q _ _ _ _ _ (S.post r)⟩
          · cases ev
        exact ⟨p, fun _ => pt_b p (by intro _; rfl)⟩
      · cases h
    | mv i =>
      simp only [ckE] at h
      split at h
      · rename_i y pos
        simp only [Bool.and_eq_true] at h
        obtain ⟨⟨k1, k2⟩, k3⟩ := h
        have kn := okName_of k3
        have p : PE X (.Name y pos) (tE X.K ent (lev Φ (n + 1)).e (.mv i)) := PE.mono (pe_var (i := i) (by rw [A.n]; exact of_decide_eq_true k1) (vis_of A k2) kn.1 kn.2.1) fun σ H Q q => by
          obtain ⟨v, H1, F, s, d', v', S, ev, q⟩ := q
          change stepE Φ (lev Φ n).e (.mv i) v = _ at ev
          simp only [stepE] at ev
          split at ev
          · rename_i s d e
            cases ev
            obtain ⟨u, hu, p⟩ := S.take e
            exact ⟨u, hu, q _ _ _ _ _ p⟩
          · cases ev
        exact ⟨p, fun _ => pt_b p (by intro _; rfl)⟩
      · cases h
    | glob z =>
      simp only [ckE] at h
      split at h
      · rename_i y pos
        simp only [Bool.and_eq_true] at h
        obtain ⟨k1, k2⟩ := h
        have e := of_decide_eq_true k1
        subst e
        obtain ⟨hg, hd, hn⟩ := gl_of A k2
        have p : PE X (.Name y pos) (tE X.K ent (lev Φ (n + 1)).e (.glob y)) := by
          cases zd : Φ.gl y with
          | none =>
            refine ⟨fun pins s σ H Q I q => ?_⟩
            obtain ⟨v, H1, F, s, d', v', S, ev, q⟩ := q
            change stepE Φ (lev Φ n).e (.glob y) v = _ at ev
            simp only [stepE] at ev
            rw [zd] at ev
            cases ev
          | some d =>
            obtain ⟨v0, u0, m0, r0, p0⟩ := C.gl y d zd
            refine PE.mono (pe_glob hg m0 r0 hd) fun σ H Q q => ?_
            obtain ⟨v, H1, F, s, d', v', S, ev, q⟩ := q
            change stepE Φ (lev Φ n).e (.glob y) v = _ at ev
            simp only [stepE] at ev
            rw [zd] at ev
            cases ev
            exact q _ _ _ _ _ (S.post (p0 _))
        exact ⟨p, fun _ => pt_b p (by intro _; rfl)⟩
      · cases h
    | tup es =>
      simp only [ckE] at h
      split at h
      · rename_i xs k pos
        obtain ⟨k1, k2⟩ := Bool.and_eq_true_iff.mp h
        have hl := all2_len k2
        have p : PE X (.Tuple xs k pos) (tE X.K ent (lev Φ (n + 1)).e (.tup es)) := PE.mono (pe_tup (g.all (ent := ent) C A k2)) fun σ H Q q => by
          obtain ⟨v, H1, F, s, d', v', S, ev, q⟩ := q
          change stepE Φ (lev Φ n).e (.tup es) v = _ at ev
          simp only [stepE] at ev
          split at ev
          · rename_i ds v1 z
            cases ev
            have zl := evs_len z
            have z5 : ds.length ≤ sizeLine := size1000 (by rw [zl, ← hl]; exact of_decide_eq_true k1)
            refine ⟨v, H1, F, ds, _, S, z, fun us Ha Hb Fa p => ⟨by rw [p.rp.length]; exact z5, fun a ha => ?_⟩⟩
            exact q _ _ _ _ _ ((NewR.tup p.sv.sub ha p.rp z5).post p.sv p.tr)
          · cases ev
        exact ⟨p, fun _ => pt_b p (by intro _; rfl)⟩
      · cases h
    | lst es =>
      simp only [ckE] at h
      split at h
      · rename_i xs pos
        obtain ⟨k1, k2⟩ := Bool.and_eq_true_iff.mp h
        have hl := all2_len k2
        have p : PE X (.List xs pos) (tE X.K ent (lev Φ (n + 1)).e (.lst es)) := PE.mono (pe_lst (g.all (ent := ent) C A k2)) fun σ H Q q => by
          obtain ⟨v, H1, F, s, d', v', S, ev, q⟩ := q
          change stepE Φ (lev Φ n).e (.lst es) v = _ at ev
          simp only [stepE] at ev
          split at ev
          · rename_i ds v1 z
            cases ev
            have zl := evs_len z
            have z5 : ds.length ≤ sizeLine := size1000 (by rw [zl, ← hl]; exact of_decide_eq_true k1)
            refine ⟨v, H1, F, ds, _, S, z, fun us Ha Hb Fa p => ⟨by rw [p.rp.length]; exact z5, fun a ha => ?_⟩⟩
            exact q _ _ _ _ _ ((NewR.lst p.sv.sub ha p.rp z5).post p.sv p.tr)
          · cases ev
        exact ⟨p, fun _ => pt_b p (by intro _; rfl)⟩
      · cases h
    | bin o a b =>
      simp only [ckE] at h
      split at h
      · rename_i y op z pos
        simp only [Bool.and_eq_true] at h
        obtain ⟨⟨k1, k2⟩, k3⟩ := h
        have e := of_decide_eq_true k1
        subst e
        have p : PE X (.BinOp y (opOf o) z pos) (tE X.K ent (lev Φ (n + 1)).e (.bin o a b)) := PE.mono (pe_op (op_bin o) (g.v (ent := ent) k2 C A) (g.v (ent := ent) k3 C A)) fun σ H Q q => by
          obtain ⟨v, H1, F, s, d', v', S, ev, q⟩ := q
          change stepE Φ (lev Φ n).e (.bin o a b) v = _ at ev
          simp only [stepE] at ev
          split at ev
          · rename_i x y v1 ee
            cases zb : bin o x y with
            | none => rw [zb] at ev; cases ev
            | some r =>
              rw [zb] at ev; cases ev
              refine two S ee fun x' y' u w Ha Hb Fa ed t Sa rx ry => ?_
              cases ed
              exact ⟨Ha, _, _, _, _, Sa.sub, rx, ry, zb, fun u Hc Hd f nr => q _ _ _ _ _ (nr.post Sa t)⟩
          · cases ev
        exact ⟨p, fun _ => pt_b p (by intro _; rfl)⟩
      · cases h
    | neg a =>
      simp only [ckE] at h
      split at h
      · rename_i op y pos
        obtain ⟨k1, k2⟩ := Bool.and_eq_true_iff.mp h
        have e := of_decide_eq_true k1
        subst e
        have p : PE X (.UnaryOp .USub y pos) (tE X.K ent (lev Φ (n + 1)).e (.neg a)) := PE.mono (pe_un un_neg (g.v (ent := ent) k2 C A)) fun σ H Q q => by
          obtain ⟨v, H1, F, s, d', v', S, ev, q⟩ := q
          change stepE Φ (lev Φ n).e (.neg a) v = _ at ev
          simp only [stepE] at ev
          split at ev
          · rename_i i v1 z
            cases ev
            refine tV_of S z fun u Ha Hb Fa t Sa r => ?_
            cases r
            exact ⟨i, rfl, q _ _ _ _ _ (thnR (v := v) t Sa (.int _))⟩
          · cases ev
        exact ⟨p, fun _ => pt_b p (by intro _; rfl)⟩
      · cases h
    | not a =>
      simp only [ckE] at h
      split at h
      · rename_i op y pos
        simp only [Bool.and_eq_true] at h
        obtain ⟨⟨k1, kt⟩, k2⟩ := h
        have e := of_decide_eq_true k1
        subst e
        refine ⟨PE.mono (pe_not (g.v (ent := ent) k2 C A)) fun σ H Q q => ?_, fun _ => PT.mono (pt_not ((g c y a k2 X C A ent).2 kt)) fun σ H Q q => ?_⟩
        · obtain ⟨v, H1, F, s, d', v', S, ev, q⟩ := q
          change stepE Φ (lev Φ n).e (.not a) v = _ at ev
          simp only [stepE] at ev
          split at ev
          · rename_i b v1 z
            cases ev
            refine tV_of S (evt_v z) fun u Ha Hb Fa t Sa r => ?_
            cases r
            exact ⟨b, rfl, q _ _ _ _ _ (thnR (v := v) t Sa (.bl _))⟩
          · cases ev
        · obtain ⟨v, H1, F, b, v', S, ev, q⟩ := q
          have ev' := evt_v ev
          obtain ⟨s, ev2, hs⟩ := evv_some ev'
          change stepE Φ (lev Φ n).e (.not a) v = _ at ev2
          simp only [stepE] at ev2
          split at ev2
          · rename_i b' v1 z
            cases ev2
            exact tB_of S z q
          · cases ev2
      · cases h
    | and a es =>
      simp only [ckE] at h
      split at h
      · rename_i op y ys pos
        simp only [Bool.and_eq_true] at h
        obtain ⟨⟨⟨⟨k1, kt⟩, kts⟩, k2⟩, k3⟩ := h
        have e := of_decide_eq_true k1
        subst e
        refine ⟨PE.mono (go_and (ent := ent) g C A k2 k3) fun σ H Q q => ?_, fun _ => (PW.mono (go_andT (ent := ent) g C A k2 kt k3 kts) fun σ H Q q => ?_).pt⟩
        · obtain ⟨v, H1, F, s, d', v', S, ev, q⟩ := q
          change stepE Φ (lev Φ n).e (.and a es) v = _ at ev
          simp only [stepE] at ev
          split at ev
          · rename_i d v1 z
            cases ev
            exact ⟨v, H1, F, d', v', S, z, fun u H1' H' F' p => q _ _ _ _ _ p.post⟩
          · cases ev
        · obtain ⟨v, H1, F, b, v', S, ev, q⟩ := q
          obtain ⟨s, ev2, hs⟩ := evv_some (evt_v ev)
          change stepE Φ (lev Φ n).e (.and a es) v = _ at ev2
          simp only [stepE] at ev2
          split at ev2
          · rename_i d v1 z
            cases ev2
            exact ⟨v, H1, F, b, v', S, z, q⟩
          · cases ev2
      · cases h
    | or a es =>
      simp only [ckE] at h
      split at h
      · rename_i op y ys pos
        simp only [Bool.and_eq_true] at h
        obtain ⟨⟨⟨⟨k1, kt⟩, kts⟩, k2⟩, k3⟩ := h
        have e := of_decide_eq_true k1
        subst e
        refine ⟨PE.mono (go_or (ent := ent) g C A k2 k3) fun σ H Q q => ?_, fun _ => (PW.mono (go_orT (ent := ent) g C A k2 kt k3 kts) fun σ H Q q => ?_).pt⟩
        · obtain ⟨v, H1, F, s, d', v', S, ev, q⟩ := q
          change stepE Φ (lev Φ n).e (.or a es) v = _ at ev
          simp only [stepE] at ev
          split at ev
          · rename_i d v1 z
            cases ev
            exact ⟨v, H1, F, d', v', S, z, fun u H1' H' F' p => q _ _ _ _ _ p.post⟩
          · cases ev
        · obtain ⟨v, H1, F, b, v', S, ev, q⟩ := q
          obtain ⟨s, ev2, hs⟩ := evv_some (evt_v ev)
          change stepE Φ (lev Φ n).e (.or a es) v = _ at ev2
          simp only [stepE] at ev2
          split at ev2
          · rename_i d v1 z
            cases ev2
            exact ⟨v, H1, F, b, v', S, z, q⟩
          · cases ev2
      · cases h
    | cmp o a b =>
      simp only [ckE] at h
      split at h
      · rename_i y op z pos
        simp only [Bool.and_eq_true] at h
        obtain ⟨⟨k1, k2⟩, k3⟩ := h
        have e := of_decide_eq_true k1
        subst e
        refine ⟨PE.mono (pe_cmpR (op_cmp C.room o) (g.v (ent := ent) k2 C A) (g.v (ent := ent) k3 C A) (ckE_noSet k3)) fun σ H Q q => ?_, fun _ => PT.mono (pt_cmpR (op_cmp C.room o) (g.v (ent := ent) k2 C A) (g.v (ent := ent) k3 C A) (ckE_noSet k3)) fun σ H Q q => ?_⟩
        · obtain ⟨v, H1, F, s, d', v', S, ev, q⟩ := q
          change stepE Φ (lev Φ n).e (.cmp o a b) v = _ at ev
          simp only [stepE] at ev
          split at ev
          · rename_i x y v1 ee
            cases zb : cmp o x y with
            | none => rw [zb] at ev; cases ev
            | some r =>
              rw [zb] at ev; cases ev
              refine two S ee fun x' y' u w Ha Hb Fa ed t Sa rx ry => ?_
              cases ed
              exact ⟨Ha, _, _, _, Sa.sub, rx, ry, zb, q _ _ _ _ _ (thnR (v := v) t Sa (.bl _))⟩
          · cases ev
        · obtain ⟨v, H1, F, b', v', S, ev, q⟩ := q
          obtain ⟨s, ev2, hs⟩ := evv_some (evt_v ev)
          change stepE Φ (lev Φ n).e (.cmp o a b) v = _ at ev2
          simp only [stepE] at ev2
          split at ev2
          · rename_i x y v1 ee
            cases zb : cmp o x y with
            | none => rw [zb] at ev2; cases ev2
            | some r =>
              rw [zb] at ev2; cases ev2
              refine two S ee fun x' y' u w Ha Hb Fa ed t Sa rx ry => ?_
              cases ed
              exact ⟨Ha, _, _, _, Sa.sub, rx, ry, zb, _, rfl, q Ha Hb Fa t Sa⟩
          · cases ev2
      · cases h
    | chain o p a b d =>
      simp only [ckE] at h
      split at h
      · rename_i y op op' z w pos
        simp only [Bool.and_eq_true] at h
        obtain ⟨⟨⟨⟨k1, k2⟩, k3⟩, k4⟩, k5⟩ := h
        have e := of_decide_eq_true k1
        subst e
        have e := of_decide_eq_true k2
        subst e
        have hm : lastMarks [cmpOf o, cmpOf p] [z, w] = false := ckE_noSet (op := cmpOf p) k5
        have key : ∀ (σ : L2.St) (H : Hp) (Q : VK) (v : Ev) (H1 : Hp) (F : Nat → List Addr) (r : Bool) (v' : Ev), SV X.K ent σ v H1 H F → stepE Φ (lev Φ n).e (.chain o p a b d) v = some (.sh, .bl r, v') →
            (∀ H1' H' F', Tr (OF F) H1 H H1' H' (OF F') → SV X.K ent σ v' H1' H' F' → Q (.bl r) H') → tChain (rCmp X.K o) (rCmp X.K p) (tV X.K ent (lev Φ n).e a) (tV X.K ent (lev Φ n).e b) (tV X.K ent (lev Φ n).e d) σ H Q := by
          intro σ H Q v H1 F r v' S ev q
          simp only [stepE] at ev
          split at ev
          · rename_i x y v1 ee
            refine two S ee fun x' y' u w' Ha Hb Fa ed t Sa rx ry => ?_
            cases ed
            cases zb : cmp o x y with
            | none => rw [zb] at ev; cases ev
            | some k =>
              rw [zb] at ev
              refine ⟨Ha, _, _, _, Sa.sub, rx, ry, zb, k, rfl, ?_⟩
              cases k with
              | true =>
                rw [if_pos rfl]
                dsimp only at ev
                split at ev
                · rename_i z2 v2 e2
                  cases zb2 : cmp p y z2 with
                  | none => rw [zb2] at ev; cases ev
                  | some k2 =>
                    rw [zb2] at ev; cases ev
                    refine tV_of Sa e2 fun u2 Hc Hd Fc t2 Sc r2 => ?_
                    exact ⟨Hc, _, _, _, Sc.sub, ry.mono t2.mono, r2, zb2, q Hc Hd Fc (t.trans t2) Sc⟩
                · cases ev
              | false =>
                rw [if_neg Bool.false_ne_true]
                cases ev
                exact q Ha Hb Fa t Sa
          · cases ev
        have isb : ∀ {v v' : Ev} {s : Sh} {d' : D}, stepE Φ (lev Φ n).e (.chain o p a b d) v = some (s, d', v') → ∃ r, s = .sh ∧ d' = .bl r := by
          intro v v' s d' ev
          simp only [stepE] at ev
          split at ev
          · split at ev
            · split at ev
              · rename_i z2 v2 e2
                cases zb2 : cmp p _ z2 with
                | none => rw [zb2] at ev; cases ev
                | some k2 => rw [zb2] at ev; cases ev; exact ⟨_, rfl, rfl⟩
              · cases ev
            · cases ev; exact ⟨_, rfl, rfl⟩
            · cases ev
          · cases ev
        refine ⟨PE.mono (pe_chain (op_cmp C.room o) (op_cmp C.room p) (g.v (ent := ent) k3 C A) (g.v (ent := ent) k4 C A) (g.v (ent := ent) k5 C A) hm) fun σ H Q q => ?_,
          fun _ => PT.mono (pt_chain (op_cmp C.room o) (op_cmp C.room p) (g.v (ent := ent) k3 C A) (g.v (ent := ent) k4 C A) (g.v (ent := ent) k5 C A) hm) fun σ H Q q => ?_⟩
        · obtain ⟨v, H1, F, s, d', v', S, ev, q⟩ := q
          obtain ⟨r, rfl, rfl⟩ := isb ev
          exact key σ H Q v H1 F r v' S ev fun Ha Hb Fa t Sa => q _ _ _ _ _ (thnR (v := v) t Sa (.bl _))
        · obtain ⟨v, H1, F, b', v', S, ev, q⟩ := q
          obtain ⟨s, ev2, hs⟩ := evv_some (evt_v ev)
          obtain ⟨r, rfl, e2⟩ := isb ev2
          cases e2
          exact key σ H _ v H1 F b' v' S ev2 fun Ha Hb Fa t Sa => ⟨b', rfl, q Ha Hb Fa t Sa⟩
      · cases h
    | ite t a b =>
      simp only [ckE] at h
      split at h
      · rename_i y z w pos
        simp only [Bool.and_eq_true] at h
        obtain ⟨⟨⟨kt, k1⟩, k2⟩, k3⟩ := h
        refine ⟨PE.mono (pe_ifExp ((g c y t k1 X C A ent).2 kt) (g c z a k2 X C A ent).1 (g c w b k3 X C A ent).1) fun σ H Q q => ?_, fun z => by cases z⟩
        obtain ⟨v, H1, F, s, d', v', S, ev, q⟩ := q
        change stepE Φ (lev Φ n).e (.ite t a b) v = _ at ev
        simp only [stepE] at ev
        split at ev
        · rename_i v1 z
          refine tB_of S z fun Ha Hb Fa tr Sa => ?_
          rw [if_pos rfl]
          exact ⟨v1, Ha, Fa, s, d', v', Sa, ev, fun u H1' H' F' f p => q u H1' H' F' f ⟨tr.trans p.tr, p.sv, p.rs, p.ap, p.dj⟩⟩
        · rename_i v1 z
          refine tB_of S z fun Ha Hb Fa tr Sa => ?_
          rw [if_neg Bool.false_ne_true]
          exact ⟨v1, Ha, Fa, s, d', v', Sa, ev, fun u H1' H' F' f p => q u H1' H' F' f ⟨tr.trans p.tr, p.sv, p.rs, p.ap, p.dj⟩⟩
        · cases ev
      · cases h
    | idx a i =>
      simp only [ckE] at h
      split at h
      · rename_i y z pos
        simp only [Bool.and_eq_true] at h
        obtain ⟨⟨k0, k1⟩, k2⟩ := h
        have p : PE X (.Subscript y z pos) (tE X.K ent (lev Φ (n + 1)).e (.idx a i)) := PE.mono (pe_ix ix_idx (g.v (ent := ent) k1 C A) (g.v (ent := ent) k2 C A) (plainIx k0)) fun σ H Q q => by
          obtain ⟨v, H1, F, s, d', v', S, ev, q⟩ := q
          change stepE Φ (lev Φ n).e (.idx a i) v = _ at ev
          simp only [stepE] at ev
          split at ev
          · rename_i x y v1 ee
            cases zb : idx x y with
            | none => rw [zb] at ev; cases ev
            | some r =>
              rw [zb] at ev; cases ev
              refine two S ee fun x' y' u w Ha Hb Fa ed t Sa rx ry => ?_
              cases ed
              exact ⟨Ha, _, _, _, Sa.sub, rx, ry, zb, fun u r => q _ _ _ _ _ (thnR (v := v) t Sa r)⟩
          · cases ev
        exact ⟨p, fun _ => pt_b p (by intro _; rfl)⟩
      · cases h
    | oidx i e =>
      simp only [ckE] at h
      split at h
      · rename_i y py z pos
        simp only [Bool.and_eq_true] at h
        obtain ⟨⟨⟨⟨k0, k1⟩, k2⟩, k3⟩, k4⟩ := h
        have kn := okName_of k3
        have p : PE X (.Subscript (.Name y py) z pos) (tE X.K ent (lev Φ (n + 1)).e (.oidx i e)) := PE.mono (pe_ix ix_seq (pe_var (i := i) (by rw [A.n]; exact of_decide_eq_true k1) (vis_of A k2) kn.1 kn.2.1) (g.v (ent := ent) k4 C A) (plainIx k0)) fun σ H Q q => by
          obtain ⟨v, H1, F, s, d', v', S, ev, q⟩ := q
          change stepE Φ (lev Φ n).e (.oidx i e) v = _ at ev
          simp only [stepE] at ev
          split at ev
          · rename_i io0 s0 d0 e0
            obtain ⟨u0, hu0, _, _⟩ := S.slot i _ e0
            refine ⟨u0, hu0, ?_⟩
            split at ev
            · rename_i yv v1 z
              refine tV_of S z fun w Ha Hb Fa t Sa rw' => ?_
              have fin : ∀ (x : D) (sh : Sh) (io : Bool), v1[i]? = some (.at io sh x) → sh = .lst ∨ sh = .fro → ∀ r, idx x yv = some r → (∀ u, Rp X.K Ha u r → Q u Hb) → rIx X.K u0 w Hb Q := by
                intro x sh io e1 hsh r er qq
                obtain ⟨u1, hu1, rs, _⟩ := Sa.slot i _ e1
                rw [hu0] at hu1; cases hu1
                have key : ∃ al vs ds, u0 = .ref al ∧ x = .lst ds ∧ SqL X.K Hb al vs ∧ Rps X.K Ha vs ds := by
                  rcases hsh with rfl | rfl
                  · obtain ⟨al, vs, ds, e1, e2, _, e3, e4, _⟩ := rs
                    exact ⟨al, vs, ds, e1, e2, SqL.of e3, e4⟩
                  · obtain ⟨al, vs, ds, e1, e2, _, e3, e4, _⟩ := rs
                    exact ⟨al, vs, ds, e1, e2, Sa.sub.seq e3, e4⟩
                obtain ⟨al, vs, ds, rfl, rfl, hq, rps⟩ := key
                cases rw' with
                | int j =>
                  obtain ⟨w2, h1, h2⟩ := rps.at (show atI ds j = some r from er)
                  exact .inl ⟨_, _, _, _, rfl, rfl, hq, h1, qq _ h2⟩
                | _ => cases er
              split at ev
              · rename_i io x e1
                cases zb : idx x yv with
                | none => rw [zb] at ev; cases ev
                | some r =>
                  rw [zb] at ev; cases ev
                  exact fin x _ _ e1 (.inl rfl) _ zb fun u r => q _ _ _ _ _ (thnR (v := v) t Sa r)
              · rename_i io x e1
                cases zb : idx x yv with
                | none => rw [zb] at ev; cases ev
                | some r =>
                  rw [zb] at ev; cases ev
                  exact fin x _ _ e1 (.inr rfl) _ zb fun u r => q _ _ _ _ _ (thnR (v := v) t Sa r)
              · cases ev
            · cases ev
          · cases ev
        exact ⟨p, fun _ => pt_b p (by intro _; rfl)⟩
      · cases h
    | olen i =>
      simp only [ckE] at h
      split at h
      · rename_i f pf y py pos
        simp only [Bool.and_eq_true] at h
        obtain ⟨⟨⟨⟨k0, k1⟩, k2⟩, k3⟩, k4⟩ := h
        have e := of_decide_eq_true k0
        subst e
        obtain ⟨hg, hd, hn⟩ := gl_of A k1
        have kn := okName_of k4
        have p : PE X (.Call (.Name "len" pf) [.Name y py] [] pos) (tE X.K ent (lev Φ (n + 1)).e (.olen i)) := PE.mono (pe_callB call_len hg (C.blt _ (by decide)) PySem.boot_len (pa_cons (pe_var (i := i) (by rw [A.n]; exact of_decide_eq_true k2) (vis_of A k3) kn.1 kn.2.1) pa_nil) hn hd) fun σ H Q q => by
          obtain ⟨v, H1, F, s, d', v', S, ev, q⟩ := q
          change stepE Φ (lev Φ n).e (.olen i) v = _ at ev
          simp only [stepE] at ev
          split at ev
          · rename_i io xs e0
            cases ev
            obtain ⟨u0, hu0, rs, _⟩ := S.slot i _ e0
            obtain ⟨al, vs, ds, rfl, e2, _, e3, e4, _⟩ := rs
            cases e2
            refine ⟨_, hu0, _, _, rfl, .inl ⟨_, SqL.of e3, rfl⟩, ?_⟩
            rw [e4.length]
            exact q _ _ _ _ _ (S.post (.int _))
          · rename_i io xs e0
            cases ev
            obtain ⟨u0, hu0, rs, _⟩ := S.slot i _ e0
            obtain ⟨al, vs, ds, rfl, e2, _, e3, e4, _⟩ := rs
            cases e2
            refine ⟨_, hu0, _, _, rfl, .inl ⟨_, S.sub.seq e3, rfl⟩, ?_⟩
            rw [e4.length]
            exact q _ _ _ _ _ (S.post (.int _))
          · cases ev
        exact ⟨p, fun _ => pt_b p (by intro _; rfl)⟩
      · cases h
    | slc a lo hi =>
      simp only [ckE] at h
      split at h
      · rename_i y l hx ps pos
        simp only [Bool.and_eq_true] at h
        obtain ⟨⟨k1, k2⟩, k3⟩ := h
        have p : PE X (.Subscript y (.Slice l hx none ps) pos) (tE X.K ent (lev Φ (n + 1)).e (.slc a lo hi)) := PE.mono (pe_slice sl_cut (g.v (ent := ent) k1 C A) (go_o (ent := ent) g C A k2) (go_o (ent := ent) g C A k3)) fun σ H Q q => by
          obtain ⟨v, H1, F, s, d', v', S, ev, q⟩ := q
          change stepE Φ (lev Φ n).e (.slc a lo hi) v = _ at ev
          simp only [stepE] at ev
          split at ev
          · rename_i x v1 e1
            split at ev
            · rename_i lv v2 e2
              split at ev
              · rename_i hv v3 e3
                cases zb : slc x lv hv with
                | none => rw [zb] at ev; cases ev
                | some r =>
                  rw [zb] at ev; cases ev
                  refine tV_of S e1 fun u Ha Hb Fa t Sa rx => ⟨v1, Ha, Fa, lv, v2, Sa, e2, fun Hc Hd Fc t2 Sc => ⟨v2, Hc, Fc, hv, _, Sc, e3, fun He Hf Fe t3 Se => ?_⟩⟩
                  exact ⟨He, _, _, _, Se.sub, (rx.mono t2.mono).mono t3.mono, zb, fun u Hg Hh f nr => q _ _ _ _ _ (nr.post Se ((t.trans t2).trans t3))⟩
              · cases ev
            · cases ev
          · cases ev
        exact ⟨p, fun _ => pt_b p (by intro _; rfl)⟩
      · cases h
    | call f as =>
      simp only [ckE] at h
      split at h
      · rename_i y py xs pos
        simp only [Bool.and_eq_true] at h
        obtain ⟨⟨k0, k1⟩, k2⟩ := h
        have e := of_decide_eq_true k0
        subst e
        obtain ⟨hg, hd, hn⟩ := gl_of A k1
        have p : PE X (.Call (.Name y py) xs [] pos) (tE X.K ent (lev Φ (n + 1)).e (.call y as)) := by
          cases zf : Φ.fn y with
          | none =>
            refine ⟨fun pins s σ H Q I q => ?_⟩
            obtain ⟨v, H1, F, s, d', v', S, ev, q⟩ := q
            change stepE Φ (lev Φ n).e (.call y as) v = _ at ev
            simp only [stepE] at ev
            rw [zf] at ev
            cases ev
          | some Fm =>
            obtain ⟨af, fd, ps, k, ok, hr, hm, hk, hb⟩ := C.fn y Fm zf
            have pa := go_args (ent := ent) g C A k2
            have ns := all2A_noStar k2
            have pc : PE X (.Call (.Name y py) xs [] pos) (tCall (spOf X.K Fm) [] E0 (tAr X.K ent (lev Φ n).e as)) := by
              cases xs with
              | nil =>
                cases as with
                | nil =>
                  refine PE.mono (pe_call0 ok hr hg hm hk hb .nil pass0 hd) fun σ H Q q => ?_
                  obtain ⟨v, H1, F, ds, v', S, e, q⟩ := q
                  cases e
                  exact q [] H1 H F (Tr.refl fun _ h => h) S .nil
                | cons _ _ => cases k2
              | cons x r => exact pe_call ok hr hg hm hk hb .nil pass0 pa hd (star_cons (ns x (by simp))) (backTo_plain fun w hw => ns w (by simp [hw]))
            refine PE.mono pc fun σ H Q q => ?_
            obtain ⟨v, H1, F, s, d', v', S, ev, q⟩ := q
            change stepE Φ (lev Φ n).e (.call y as) v = _ at ev
            simp only [stepE] at ev
            rw [zf] at ev
            split at ev
            · rename_i F0 ds v1 e0 e1
              cases e0
              split at ev
              · rename_i nd
                split at ev
                · rename_i prs e2
                  split at ev
                  · rename_i s2 d2 new e3
                    cases e4 : back v1 (ioOf as) new with
                    | none => rw [e4] at ev; cases ev
                    | some v2 =>
                      rw [e4] at ev; cases ev
                      exact tCall_of S e1 nd e2 e3 e4 q
                  · cases ev
                · cases ev
              · cases ev
            · cases ev
        exact ⟨p, fun _ => pt_b p (by intro _; rfl)⟩
      · cases h
    | blt f es =>
      simp only [ckE] at h
      split at h
      · rename_i y py xs pos
        simp only [Bool.and_eq_true] at h
        obtain ⟨⟨⟨k0, k1⟩, k2⟩, k3⟩ := h
        have e := of_decide_eq_true k0
        subst e
        obtain ⟨hg, hd, hn⟩ := gl_of A k1
        have pa := g.all (ent := ent) C A k3
        have ns := all2_noStar k3
        have p : PE X (.Call (.Name f.nm py) xs [] pos) (tE X.K ent (lev Φ (n + 1)).e (.blt f es)) := by
          cases xs with
          | nil => exact absurd (of_decide_eq_true k2) (by simp)
          | cons x r =>
            have s1 : starEach (x :: r) X.env = (false, eval x X.env) :: starEach r X.env := star_cons (ns x (by simp))
            have s2 : (backTo pos (starEach r X.env)).any (·.1) = false := backTo_plain fun w hw => ns w (by simp [hw])
            have pc : PE X (.Call (.Name f.nm py) (x :: r) [] pos) (tCB (rBlt X.K f) (tA X.K ent (lev Φ n).e es)) := by
              cases f with
              | len => exact pe_callB (call_blt C.calm .len) hg (C.blt _ (by decide)) (by decide +kernel) pa hn hd s1 s2
              | int => exact pe_callTy (call_blt C.calm .int) hg (C.blt _ (by decide)) (by decide +kernel) pa hn hd s1 s2
              | min => exact pe_callB (call_blt C.calm .min) hg (C.blt _ (by decide)) (by decide +kernel) pa hn hd s1 s2
              | max => exact pe_callB (call_blt C.calm .max) hg (C.blt _ (by decide)) (by decide +kernel) pa hn hd s1 s2
              | abs => exact pe_callB (call_blt C.calm .abs) hg (C.blt _ (by decide)) (by decide +kernel) pa hn hd s1 s2
              | list => exact pe_callTy (call_blt C.calm .list) hg (C.blt _ (by decide)) (by decide +kernel) pa hn hd s1 s2
              | tuple => exact pe_callTy (call_blt C.calm .tuple) hg (C.blt _ (by decide)) (by decide +kernel) pa hn hd s1 s2
              | all => exact pe_callB (call_blt C.calm .all) hg (C.blt _ (by decide)) (by decide +kernel) pa hn hd s1 s2
              | any => exact pe_callB (call_blt C.calm .any) hg (C.blt _ (by decide)) (by decide +kernel) pa hn hd s1 s2
              | sum => exact pe_callB (call_blt C.calm .sum) hg (C.blt _ (by decide)) (by decide +kernel) pa hn hd s1 s2
              | sorted => exact pe_callB (call_blt C.calm .sorted) hg (C.blt _ (by decide)) (by decide +kernel) pa hn hd s1 s2
            refine PE.mono pc fun σ H Q q => ?_
            obtain ⟨v, H1, F, s, d', v', S, ev, q⟩ := q
            change stepE Φ (lev Φ n).e (.blt f es) v = _ at ev
            simp only [stepE] at ev
            split at ev
            · rename_i ds v1 z
              cases zb : blt f ds with
              | none => rw [zb] at ev; cases ev
              | some r =>
                rw [zb] at ev; cases ev
                exact ⟨v, H1, F, ds, _, S, z, fun us Ha Hb Fa p => ⟨Ha, ds, _, _, p.sv.sub, p.rp, zb, fun u Hc Hd f nr => q _ _ _ _ _ (nr.post p.sv p.tr)⟩⟩
            · cases ev
        exact ⟨p, fun _ => pt_b p (by intro _; rfl)⟩
      · cases h
    | isi a ts =>
      simp only [ckE] at h
      split at h
      · rename_i y py z t pt pos
        simp only [Bool.and_eq_true] at h
        obtain ⟨⟨⟨k0, k1⟩, k2⟩, k3⟩ := h
        have e := of_decide_eq_true k0
        subst e
        obtain ⟨hg, hd, hn⟩ := gl_of A k1
        obtain ⟨pt1, ht, hl, nst⟩ := go_tys C A k3
        have p : PE X (.Call (.Name "isinstance" py) [z, .Name t pt] [] pos) (tE X.K ent (lev Φ (n + 1)).e (.isi a ts)) := PE.mono (pe_callB call_isi hg (C.blt _ (by decide)) (by decide +kernel) (pa_cons (g.v (ent := ent) k2 C A) pt1 (star_cons (ckE_noStar k2))) hn hd (star_cons (ckE_noStar k2)) (backTo_plain nst)) fun σ H Q q => by
          obtain ⟨v, H1, F, s, d', v', S, ev, q⟩ := q
          change stepE Φ (lev Φ n).e (.isi a ts) v = _ at ev
          simp only [stepE] at ev
          split at ev
          · rename_i d v1 ee
            refine tV_of S ee fun u Ha Hb Fa t Sa r => ?_
            have ty := (r.mono Sa.sub).ty
            match ts, hl with
            | [t1], _ =>
              refine ⟨u, .ty t1, _, _, _, rfl, .ty t1, ty.1, kit_at ty.2 (ht t1 (by simp)), ?_⟩
              have ev2 : some (Sh.sh, D.bl ([t1].any fun t => isiOne (tyOf d) t), v1) = some (s, d', v') := by
                cases r <;> exact ev
              cases ev2
              have z : ([t1].any fun t => isiOne (tyOf d) t) = isiOne (tyOf d) t1 := by simp
              rw [z] at q
              exact q _ _ _ _ _ (thnR (v := v) t Sa (.bl _))
          · cases ev
        exact ⟨p, fun _ => pt_b p (by intro _; rfl)⟩
      · rename_i y py z xs kx pt pos
        simp only [Bool.and_eq_true] at h
        obtain ⟨⟨⟨⟨k0, k1⟩, k2⟩, k3⟩, k4⟩ := h
        have e := of_decide_eq_true k0
        subst e
        obtain ⟨hg, hd, hn⟩ := gl_of A k1
        obtain ⟨pt1, ht, hl, nst⟩ := go_tys C A k3
        have p : PE X (.Call (.Name "isinstance" py) [z, .Tuple xs kx pt] [] pos) (tE X.K ent (lev Φ (n + 1)).e (.isi a ts)) := PE.mono (pe_callB call_isiT hg (C.blt _ (by decide)) (by decide +kernel) (pa_cons (g.v (ent := ent) k2 C A) (pa_cons (pe_tup pt1) pa_nil) (star_cons (ckE_noStar k2))) hn hd (star_cons (ckE_noStar k2)) rfl) fun σ H Q q => by
          obtain ⟨v, H1, F, s, d', v', S, ev, q⟩ := q
          change stepE Φ (lev Φ n).e (.isi a ts) v = _ at ev
          simp only [stepE] at ev
          split at ev
          · rename_i d v1 ee
            refine tV_of S ee fun u Ha Hb Fa t Sa r => ?_
            refine ⟨by rw [List.length_map, ← hl]; exact size1000 (of_decide_eq_true k4), fun tp htp => ?_⟩
            have ty := ((r.mono Sa.sub).mono (same_new (o := .tup (ts.map V.ty)) htp)).ty
            refine ⟨u, tp, _, _, _, _, rfl, upd_same, cls_all ts, ty.1, kit_any ty.2 ht, ?_⟩
            have ev2 : some (Sh.sh, D.bl (ts.any fun t => isiOne (tyOf d) t), v1) = some (s, d', v') := by
              cases r <;> exact ev
            cases ev2
            have Sb := Sa.laidO (o := .tup (ts.map V.ty)) htp
            exact q _ _ _ _ _ (thnR (v := v) (t.trans ((Tr.laidO htp).weak (fun _ h => h) fun b h => .inr h)) Sb (.bl _))
          · cases ev
        exact ⟨p, fun _ => pt_b p (by intro _; rfl)⟩
      · cases h
    | lrng es =>
      simp only [ckE] at h
      split at h
      · rename_i y py z pz xs p2 pos
        simp only [Bool.and_eq_true] at h
        obtain ⟨⟨⟨⟨k0, k1⟩, k2⟩, k3⟩, k4⟩ := h
        have e := of_decide_eq_true k0
        subst e
        have e := of_decide_eq_true k2
        subst e
        obtain ⟨hg, hd, hn⟩ := gl_of A k1
        obtain ⟨hg2, hd2, hn2⟩ := gl_of A k3
        have ns := all2_noStar k4
        have hl := all2_len k4
        have rg : ∀ (lo hi : Int) {K : PySem.W.Frag} {H1 : Hp}, Rps K H1 (rgV lo hi) (rngOf lo hi) := by
          intro lo hi K H1
          unfold rgV rngOf
          generalize (hi - lo).toNat = m
          generalize List.range m = l
          induction l with
          | nil => exact .nil
          | cons k r ih => exact .cons (.int _) ih
        have p : PE X (.Call (.Name "list" py) [.Call (.Name "range" pz) xs [] p2] [] pos) (tE X.K ent (lev Φ (n + 1)).e (.lrng es)) := by
          match xs, es, hl, k4, ns with
          | [x1], [e1], _, k4, ns =>
            have k5 := (Bool.and_eq_true_iff.mp k4).1
            refine PE.mono (pe_listRg C.calm hg (C.blt _ (by decide)) (prg_1 hg2 (C.blt _ (by decide)) (g.v (ent := ent) k5 C A) (star_cons (ns x1 (by simp))))) fun σ H Q q => ?_
            obtain ⟨v, H1, F, s, d', v', S, ev, q⟩ := q
            change stepE Φ (lev Φ n).e (.lrng [e1]) v = _ at ev
            simp only [stepE] at ev
            split at ev
            · rename_i b v1 zz
              obtain ⟨d, dr, v2, ee1, ee2, ed⟩ := evs_cons zz
              cases ee2
              cases ed
              split at ev
              · rename_i hb
                cases ev
                refine tV_of S ee1 fun u Ha Hb Fa t Sa r => ?_
                cases r
                refine ⟨b, rfl, ⟨by omega, by omega, hb.1, by omega, by omega⟩, fun a ha => q _ _ _ _ _ ((NewR.lst Sa.sub ha (rg 0 b) (by rw [rngOf_len, sizeLine_eq]; omega)).post Sa t)⟩
              · cases ev
            · rename_i zz
              obtain ⟨d, dr, v2, ee1, ee2, ed⟩ := evs_cons zz
              cases ee2
              cases ed
            · cases ev
          | [x1, x2], [e1, e2], _, k4, ns =>
            have k5 := (Bool.and_eq_true_iff.mp k4).1
            have k6 := (Bool.and_eq_true_iff.mp (Bool.and_eq_true_iff.mp k4).2).1
            refine PE.mono (pe_listRg C.calm hg (C.blt _ (by decide)) (prg_2 hg2 (C.blt _ (by decide)) (g.v (ent := ent) k5 C A) (g.v (ent := ent) k6 C A) (star_cons (ns x1 (by simp))) (star_cons (ns x2 (by simp))) (backTo_plain fun w hw => ns w (by simp at hw; simp [hw])))) fun σ H Q q => ?_
            obtain ⟨v, H1, F, s, d', v', S, ev, q⟩ := q
            change stepE Φ (lev Φ n).e (.lrng [e1, e2]) v = _ at ev
            simp only [stepE] at ev
            split at ev
            · rename_i zz
              obtain ⟨d, dr, v1, ee1, ee2, ed⟩ := evs_cons zz
              obtain ⟨d', dr', v2, ee3, ee4, ed'⟩ := evs_cons ee2
              subst ed'
              cases ed
            · rename_i a b v1 zz
              split at ev
              · rename_i hb
                cases ev
                refine two S zz fun x' y' u w Ha Hb Fa ed t Sa rx ry => ?_
                cases ed
                cases rx
                cases ry
                refine ⟨a, b, rfl, rfl, ⟨hb.1, hb.2.1, hb.2.2.1, hb.2.2.2.1, by omega⟩, fun p hp => q _ _ _ _ _ ((NewR.lst Sa.sub hp (rg a b) (by rw [rngOf_len, sizeLine_eq]; omega)).post Sa t)⟩
              · cases ev
            · cases ev
          | [], [], _, _, _ =>
            refine ⟨fun pins s σ H Q I q => ?_⟩
            obtain ⟨v, H1, F, s, d', v', S, ev, q⟩ := q
            change stepE Φ (lev Φ n).e (.lrng []) v = _ at ev
            simp only [stepE, evs] at ev
            cases ev
          | _ :: _ :: _ :: _, f1 :: f2 :: f3 :: fr, _, _, _ =>
            refine ⟨fun pins s σ H Q I q => ?_⟩
            obtain ⟨v, H1, F, s, d', v', S, ev, q⟩ := q
            change stepE Φ (lev Φ n).e (.lrng (f1 :: f2 :: f3 :: fr)) v = _ at ev
            simp only [stepE] at ev
            split at ev
            · rename_i zz
              obtain ⟨d, dr, v1, ee1, ee2, ed⟩ := evs_cons zz
              obtain ⟨d', dr', v2, ee3, ee4, ed'⟩ := evs_cons ee2
              subst ed'
              cases ed
            · rename_i zz
              obtain ⟨d, dr, v1, ee1, ee2, ed⟩ := evs_cons zz
              obtain ⟨d', dr', v2, ee3, ee4, ed'⟩ := evs_cons ee2
              obtain ⟨d'', dr'', v3, ee5, ee6, ed''⟩ := evs_cons ee4
              subst ed'' ed'
              cases ed
            · cases ev
        exact ⟨p, fun _ => pt_b p (by intro _; rfl)⟩
      · cases h
    | lc vs t it cond e =>
      simp only [ckE] at h
      split at h
      · rename_i elt tg iter ifs scope pos
        split at h
        · rename_i own eo
          simp only [Bool.and_eq_true] at h
          obtain ⟨⟨⟨⟨⟨k1, k2⟩, k3⟩, k4⟩, k5⟩, k6⟩ := h
          have hown := own_of eo
          have hs : ∀ i ∈ t.slots, i ∈ vs := fun i hi => by
            have := List.all_eq_true.mp k3 i hi
            simpa using this
          have ok : BlkOk X.N X.env.scope scope own := by rw [A.n, A.sc]; exact blkOk_by k1
          have ht : ∀ (s : Shared) (H : Hp) (Ca : Addr) (cl : List (Str × Addr)) (fp : List Addr), PTs (X.blk s H scope (compEnvC scope cl Ca X.env) fp) ifs (tCond X.K ent (lev Φ n).e cond) := by
            intro s H Ca cl fp
            cases cond with
            | none =>
              cases ifs with
              | nil => exact pts_nil
              | cons _ _ => cases k5
            | some ce =>
              cases ifs with
              | nil => cases k5
              | cons cx r =>
                cases r with
                | cons _ _ => cases k5
                | nil =>
                  have k9 := Bool.and_eq_true_iff.mp k5
                  exact pts_one ((g (c.blk scope) cx ce k9.2 (X.blk s H scope (compEnvC scope cl Ca X.env) fp) (C.blk ..) (A.blk ..) ent).2 k9.1)
          have p0 := pe_lc (X := X) (elt := elt) (tg := tg) (iter := iter) (ifs := ifs) (scope := scope) (pos := pos) (g := tG X.K ent t) (te := tV X.K ent (lev Φ n).e e) C.calm C.nd (go_it (ent := ent) g C A k4) ok
            (fun s H Ca cl fp => go_tg (Φ := Φ) (ent := ent) n tg t k2 (X.blk s H scope (compEnvC scope cl Ca X.env) fp) (C.blk ..) (A.blk ..)) ht
            (fun s H Ca cl fp => g.v (ent := ent) (X := X.blk s H scope (compEnvC scope cl Ca X.env) fp) k6 (C.blk ..) (A.blk ..))
            (fun x => ckI_noSet k4 _ x)
          have p : PE X (.ListComp elt [⟨tg, iter, ifs, 0⟩] scope pos) (tE X.K ent (lev Φ (n + 1)).e (.lc vs t it cond e)) := PE.mono p0 fun σ H Q qq => by
            obtain ⟨v, H1, F, s, d', v', S, ev, q⟩ := qq
            change stepE Φ (lev Φ n).e (.lc vs t it cond e) v = _ at ev
            simp only [stepE] at ev
            split at ev
            · rename_i xs v1 e1
              split at ev
              · rename_i ds v2 e2
                cases ev
                rw [hown]
                exact tLc_of hs S e1 e2 q
              · cases ev
            · cases ev
          exact ⟨p, fun _ => pt_b p (by intro _; rfl)⟩
        · cases h
      · cases h
end R

set_option Elab.async false
set_option linter.all false
set_option maxRecDepth 100000
set_option maxHeartbeats 8000000
/-! R11: the check of statements; assignments. -/
namespace R
open PySem L2
/-! ### the check -/
/-- the model's exchange of stores: none: unsupported -/
def swD (c : Sx) (ts vs : List Expr) : Option Bool :=
  let nm := ts.filterMap fun
    | .Name id pos => if c.sc.names.lookup id == some .local && pos.line == (ts.head?.map (·.pos.line)).getD 0 then some id else none
    | _ => none
  if (!(ts.length == 2 || ts.length == 3) || vs.length != ts.length) = true then some false
  else if (vs.any fun | .Starred .. => true | _ => false) = true then some false
  else if (nm.length != ts.length || nm.eraseDups.length != nm.length) = true then some false
  else if vs.all (foldedForSure 8) = true then some false
  else if vs.all (constantsAlone 8) = true then none
  else some true
def swB (c : Sx) (y : Str) (py : Pos) : Expr → Bool
  | .ListComp _ _ scope p => decide (c.sc.names.lookup y = some .local) && py.line == p.line && !(scope.names.any fun (n, k) => n == y && (k == .local || k == .cell))
  | _ => false
def ckN (N : List Str) (c : Sx) : Expr → Nat → Bool
  | .Name y _, i => decide (N[i]? = some y) && locN c y
  | _, _ => false
def allLocal (c : Sx) (ts : List Expr) : Bool := ts.all fun
  | .Name y _ => decide (c.sc.names.lookup y = some .local)
  | _ => false
def noComp : Expr → Bool
  | .ListComp _ _ _ _ => false
  | _ => true
def noTup : Expr → Bool
  | .Tuple _ _ _ => false
  | _ => true
def ckL (p : Stmt → S → Bool) : List Stmt → List S → Bool
  | [], [] => true
  | xs, .fz _ :: ss => ckL p xs ss
  | x :: xs, s :: ss => p x s && ckL p xs ss
  | _, _ => false
def ckS (N : List Str) : Nat → Sx → Stmt → S → Bool
  | 0, _, _, _ => false
  | n + 1, c, x, .asg t e => (match x with
    | .Assign [tg] val _ => ckT N c n tg t && ckE N n c val e && isTup tg && noTup val
    | _ => false)
  | n + 1, c, x, .set i e => (match x with
    | .Assign [.Name y py] val _ => decide (N[i]? = some y) && locN c y && ckE N n c val e && (!swB c y py val || (match e with
      | .lc _ _ _ _ _ => true
      | _ => false))
    | _ => false)
  | n + 1, c, x, .par ts es => (match x with
    | .Assign [.Tuple tgs _ _] (.Tuple vals _ _) _ => all2 (ckN N c) tgs ts && all2 (ckE N n c) vals es && decide (vals.length < 1000) && decide (ts.Nodup) && decide (tgs.length = vals.length) && (match swD c tgs vals with
      | some true => allLocal c tgs && (tgs.length == 2 || tgs.length == 3)
      | some false => true
      | none => false)
    | _ => false)
  | n + 1, c, x, .expr e => (match x with
    | .Expr val _ => noComp val && ckE N n c val e
    | _ => false)
  | n + 1, c, x, .ret e => (match x with
    | .Return (some val) _ => ckE N n c val e
    | _ => false)
  | _ + 1, _, x, .retN => (match x with
    | .Return none _ => true
    | _ => false)
  | n + 1, c, x, .ite t a b => (match x with
    | .If y z w _ => tst t && ckE N n c y t && ckL (ckS N n c) z a && ckL (ckS N n c) w b
    | _ => false)
  | n + 1, c, x, .for_ t it b => (match x with
    | .For tg iter body [] _ => ckT N c n tg t && ckI (ckE N n c) c tg iter it && ckL (ckS N n c) body b
    | _ => false)
  | n + 1, c, x, .while_ _ t b => (match x with
    | .While y body [] _ => tst t && ckE N n c y t && ckL (ckS N n c) body b
    | _ => false)
  | _ + 1, _, x, .pass => (match x with
    | .Pass _ => true
    | _ => false)
  | _ + 1, _, x, .brk => (match x with
    | .Break _ => true
    | _ => false)
  | _ + 1, _, x, .cont => (match x with
    | .Continue _ => true
    | _ => false)
  | n + 1, c, x, .app i e => (match x with
    | .Expr (.Call (.Attribute (.Name y _) m ap) [val] [] cp) _ => decide (m = "append") && decide (N[i]? = some y) && visN c y && okName y && ckE N n c val e && (ap.endLine == cp.line)
    | _ => false)
  | n + 1, c, x, .put i k e => (match x with
    | .Assign [.Subscript (.Name y _) ix _] val _ => decide (N[i]? = some y) && visN c y && okName y && notSlice ix && ckE N n c ix k && ckE N n c val e
    | _ => false)
  | _ + 1, _, _, .fz _ => false
  | _ + 1, _, x, .raise_ => (match x with
    | .Raise _ _ _ => true
    | _ => false)

/-! ### facts of assignments -/
section
variable {Φ : Tab} {N : List Str} {n : Nat} {c : Sx} {X : Cx} {ent : Nat → Option V}
theorem blockKind_of {env : Env} (h : env.scope.kind = .function) : env.blockKind = .function := by unfold Env.blockKind; rw [h]; rfl
theorem sw_false {env : Env} {y : Str} {py : Pos} {val : Expr} {l : Nat} {e : E} (hsc : env.scope = c.sc) (hk : env.scope.kind = .function) (h : ckE N n c val e = true) (hb : swB c y py val = false) : swapsWith val (some (.Name y py)) l env = pure false := by
  cases val with
  | ListComp elt gs scope p =>
    have hk' := blockKind_of hk
    unfold swB at hb
    unfold swapsWith
    show (pure (env.blockKind == .function && env.kindOf y == some .local && py.line == p.line && !(scope.names.any fun (n, k) => n == y && (k == .local || k == .cell))) : Sem Bool) = pure false
    rw [hk']
    have e1 : (env.kindOf y == some NameKind.local) = decide (c.sc.names.lookup y = some .local) := by
      unfold Env.kindOf; rw [hsc]
      exact Bool.beq_eq_decide_eq _ _
    rw [e1]
    have e2 : (ScopeKind.function == ScopeKind.function) = true := rfl
    rw [e2, Bool.true_and]
    exact congrArg (pure : Bool → Sem Bool) hb
  | SetComp a b d f => exfalso; cases n with
    | zero => cases h
    | succ n => cases e <;> cases h
  | DictComp a b d f g => exfalso; cases n with
    | zero => cases h
    | succ n => cases e <;> cases h
  | _ => rfl
theorem sw_other {env : Env} {val t : Expr} {l : Nat} (h : noComp val = true) (h2 : ∀ a b d f, val ≠ .SetComp a b d f) (h3 : ∀ a b d f g, val ≠ .DictComp a b d f g) (o : Option Expr) : swapsWith val o l env = pure false := by
  cases val with
  | ListComp _ _ _ _ => cases h
  | SetComp a b d f => exact absurd rfl (h2 a b d f)
  | DictComp a b d f g => exact absurd rfl (h3 a b d f g)
  | _ => rfl
theorem ckE_noSC {val : Expr} {e : E} (h : ckE N n c val e = true) : (∀ a b d f, val ≠ .SetComp a b d f) ∧ (∀ a b d f g, val ≠ .DictComp a b d f g) := by
  refine ⟨fun a b d f z => ?_, fun a b d f g z => ?_⟩ <;>
    (subst z
     cases n with
     | zero => cases h
     | succ n => cases e <;> cases h)
theorem sw_tupT {env : Env} {val : Expr} {xs : List Expr} {k : Nat} {p : Pos} {l : Nat} {e : E} (h : ckE N n c val e = true) : swapsWithSole [.Tuple xs k p] val l env = pure false := by
  show swapsWith val (some (.Tuple xs k p)) l env = pure false
  cases val <;> rfl
theorem sw_subT {env : Env} {val o i : Expr} {p : Pos} {l : Nat} : swapsWithSole [.Subscript o i p] val l env = pure false := by
  show swapsWith val (some (.Subscript o i p)) l env = pure false
  cases val <;> rfl
theorem sws_none {env : Env} {val : Expr} {xs : List Expr} {k : Nat} {p : Pos} (h : noTup val = true) : swappedStores [.Tuple xs k p] val env = pure none := by
  cases val with
  | Tuple _ _ _ => cases h
  | _ => rfl
theorem sws_of {env : Env} {ts vs : List Expr} {k k2 : Nat} {p p2 : Pos} (hsc : env.scope = c.sc) (hk : env.scope.kind = .function) {b : Bool} (h : swD c ts vs = some b) :
    swappedStores [.Tuple ts k p] (.Tuple vs k2 p2) env = pure (if b = true then some (ts.filterMap fun
    | .Name id pos => if c.sc.names.lookup id == some .local && pos.line == (ts.head?.map (·.pos.line)).getD 0 then some id else none
    | _ => none) else none) := by
  have hk' := blockKind_of hk
  have hkk : ∀ id, env.kindOf id = c.sc.names.lookup id := fun id => by unfold Env.kindOf; rw [hsc]
  have hne : (ScopeKind.function != ScopeKind.function) = false := rfl
  unfold swappedStores
  simp only [hk', hkk, hne, Bool.or_false]
  unfold swD at h
  simp only at h
  split at h
  · rename_i h1
    cases h
    refine (if_pos ?_).trans ?_
    · exact h1
    rfl
  · rename_i h1
    refine (if_neg ?_).trans ?_
    · exact h1
    split at h
    · rename_i h2
      cases h
      refine (if_pos ?_).trans ?_
      · exact h2
      rfl
    · rename_i h2
      refine (if_neg ?_).trans ?_
      · exact h2
      split at h
      · rename_i h3
        cases h
        refine (if_pos ?_).trans ?_
        · exact h3
        rfl
      · rename_i h3
        refine (if_neg ?_).trans ?_
        · exact h3
        split at h
        · rename_i h4
          cases h
          refine (if_pos ?_).trans ?_
          · exact h4
          rfl
        · rename_i h4
          refine (if_neg ?_).trans ?_
          · exact h4
          split at h
          · cases h
          · rename_i h5
            cases h
            refine (if_neg ?_).trans ?_
            · exact h5
            rfl
end
end R

set_option Elab.async false
set_option linter.all false
set_option maxRecDepth 100000
set_option maxHeartbeats 8000000
/-! R12: shaped values in a row; several names at once. -/
namespace R
open PySem L2
inductive RSl (K : PySem.W.Frag) (H1 H : Hp) : List (Sh × D) → List V → List (List Addr) → Prop
  | nil : RSl K H1 H [] [] []
  | cons {s : Sh} {d : D} {u : V} {f : List Addr} {sds : List (Sh × D)} {us : List V} {fs : List (List Addr)} : RS K H1 H s u d f → RSl K H1 H sds us fs → RSl K H1 H ((s, d) :: sds) (u :: us) (f :: fs)
def tAs (K : PySem.W.Frag) (ent : Nat → Option V) (L : LE) (es : List E) : TA := fun σ H Q => ∃ v H1 F sds v', SV K ent σ v H1 H F ∧ evss L es v = some (sds, v') ∧
  ∀ us H1' H' F' fs, Tr (OF F) H1 H H1' H' (fun b => OF F' b ∨ MF fs b) → SV K ent σ v' H1' H' F' → RSl K H1' H' sds us fs → Sep fs → (∀ b, MF fs b → ¬ OF F' b) → (∀ b, MF fs b → H1' b = none) → Q us H'
section
variable {K : PySem.W.Frag} {ent : Nat → Option V} {σ : L2.St} {v v' : Ev} {H1 H H1' H' : Hp} {F F' : Nat → List Addr} {L : LE} {sds : List (Sh × D)} {us : List V} {fs : List (List Addr)}
theorem mf_cons {f : List Addr} {fs : List (List Addr)} {b : Addr} : MF (f :: fs) b ↔ b ∈ f ∨ MF fs b := by
  constructor
  · rintro ⟨g, hg, hb⟩
    rcases List.mem_cons.mp hg with rfl | hg
    · exact .inl hb
    · exact .inr ⟨g, hg, hb⟩
  · rintro (h | ⟨g, hg, hb⟩)
    · exact ⟨f, by simp, h⟩
    · exact ⟨g, by simp [hg], hb⟩
theorem sep_cons {f : List Addr} {fs : List (List Addr)} (h : Sep fs) (d : ∀ b ∈ f, ¬ MF fs b) : Sep (f :: fs) := by
  intro i j a b x hi hj ha hb
  match i, j with
  | 0, 0 => rfl
  | 0, j + 1 =>
    exfalso
    cases hi
    exact d x ha ⟨b, List.mem_of_getElem? (by simpa using hj), hb⟩
  | i + 1, 0 =>
    exfalso
    cases hj
    exact d x hb ⟨a, List.mem_of_getElem? (by simpa using hi), ha⟩
  | i + 1, j + 1 =>
    have := h i j a b x (by simpa using hi) (by simpa using hj) ha hb
    omega
theorem sep_tail {f : List Addr} {fs : List (List Addr)} (h : Sep (f :: fs)) : Sep fs ∧ ∀ b ∈ f, ¬ MF fs b := by
  refine ⟨fun i j a b x hi hj ha hb => ?_, fun b hb ⟨g, hg, hbg⟩ => ?_⟩
  · have := h (i + 1) (j + 1) a b x (by simpa using hi) (by simpa using hj) ha hb
    omega
  · obtain ⟨k, hk⟩ := List.getElem?_of_mem hg
    have := h 0 (k + 1) f g b rfl (by simpa using hk) hb hbg
    omega
theorem evss_cons {e : E} {r : List E} (h : evss L (e :: r) v = some (sds, v')) : ∃ s d sr v1, L e v = some (s, d, v1) ∧ evss L r v1 = some (sr, v') ∧ sds = (s, d) :: sr := by
  simp only [evss] at h
  cases z : L e v with
  | none => rw [z] at h; cases h
  | some p =>
    obtain ⟨s, d, v1⟩ := p
    rw [z] at h
    dsimp only at h
    cases y : evss L r v1 with
    | none => rw [y] at h; cases h
    | some q =>
      rw [y] at h
      cases h
      exact ⟨s, d, _, v1, rfl, y, rfl⟩
theorem evss_len : ∀ {es : List E} {v v' : Ev} {sds : List (Sh × D)}, evss L es v = some (sds, v') → sds.length = es.length
  | [], _, _, _, h => by cases h; rfl
  | e :: r, v, v', ds, h => by
    obtain ⟨s, d, sr, v1, _, h2, rfl⟩ := evss_cons h
    rw [List.length_cons, List.length_cons, evss_len h2]
theorem RSl.len (h : RSl K H1 H sds us fs) : us.length = sds.length := by
  induction h with
  | nil => rfl
  | cons _ _ ih => simp [ih]
theorem tAs_cons {e : E} {r : List E} {Q : List V → Hp → Prop} (h : tAs K ent L (e :: r) σ H Q) : tCons (tE K ent L e) (tAs K ent L r) σ H Q := by
  obtain ⟨v, H1, F, sds, v', S, ev, q⟩ := h
  obtain ⟨s, d, sr, v1, e1, e2, rfl⟩ := evss_cons ev
  refine ⟨v, H1, F, s, d, v1, S, e1, fun u Ha Hb Fa f p => ⟨v1, Ha, Fa, sr, v', p.sv, e2, fun us Hc Hd Fc fs t Sc rl sp ap dj => ?_⟩⟩
  have there : ∀ b ∈ f, Hb b ≠ none := fun b hb hn => by
    cases s with
    | sh => rw [p.rs.2] at hb; simp at hb
    | lst =>
      obtain ⟨a, vs, ds, rfl, rfl, ef, ha, _, _⟩ := p.rs
      rw [ef] at hb
      have e : b = a := by simpa using hb
      rw [e, ha] at hn; cases hn
    | fro =>
      obtain ⟨a, vs, ds, rfl, rfl, ef, ha, _, _⟩ := p.rs
      rw [ef] at hb; simp at hb
  have apf : ∀ b ∈ f, ¬ (OF Fc b ∨ MF fs b) := fun b hb z => by
    rcases t.own b z with z | z
    · exact there b hb z
    · exact p.ap b hb z
  have djf : ∀ b ∈ f, Hc b = none := fun b hb => by
    cases zz : Hc b with
    | none => rfl
    | some o =>
      rcases t.new b (by rw [zz]; simp) with z | z | z
      · exact absurd (p.dj b hb) z
      · exact absurd z (there b hb)
      · exact absurd z (p.ap b hb)
  refine q (u :: us) Hc Hd Fc (f :: fs) (p.tr.trans (t.weak (fun b z => .inl z) fun b z => ?_)) Sc (.cons (p.rs.step t.mono fun b o hb e => t.frame b o e (p.ap b hb)) rl) (sep_cons sp fun b hb z => apf b hb (.inr z)) (fun b z => ?_) fun b z => ?_
  · rcases z with z | z
    · exact .inl (.inl z)
    · rcases mf_cons.mp z with z | z
      · exact .inr (.inr z)
      · exact .inl (.inr z)
  · rcases mf_cons.mp z with z | z
    · exact fun w => apf b z (.inl w)
    · exact ap b z
  · rcases mf_cons.mp z with z | z
    · exact djf b z
    · exact dj b z
/-- several names take values -/
theorem SV.setNs : ∀ {ts : List Nat} {sds : List (Sh × D)} {us : List V} {fs : List (List Addr)} {σ : L2.St} {v v' : Ev} {F : Nat → List Addr}, SV K ent σ v H1 H F → RSl K H1 H sds us fs → Sep fs → (∀ b, MF fs b → ¬ OF F b) → (∀ b, MF fs b → H1 b = none) → R.setNs ts sds v = some v' →
    ∃ F', SV K ent ((ts.zip us).foldl (fun σ p => σ.set p.1 (some p.2)) σ) v' H1 H F' ∧ ∀ b, OF F' b → OF F b ∨ MF fs b
  | [], _, _, _, σ, v, v', F, S, .nil, _, _, _, h => by cases h; exact ⟨F, S, fun b z => .inl z⟩
  | i :: is, _, _, _, σ, v, v', F, S, @RSl.cons _ _ _ s d u f sds us fs r rl, sp, ap, dj, h => by
    simp only [R.setNs] at h
    split at h
    · rename_i v1 z
      obtain ⟨sp1, sp2⟩ := sep_tail sp
      obtain ⟨S1, _⟩ := S.setN r (fun b hb => ap b (mf_cons.mpr (.inl hb))) (fun b hb => dj b (mf_cons.mpr (.inl hb))) z
      obtain ⟨F', S', hF⟩ := SV.setNs S1 rl sp1 (fun b hb ⟨j, hj⟩ => by
        try dsimp only at hj
        split at hj
        · exact sp2 b hj hb
        · exact ap b (mf_cons.mpr (.inr hb)) ⟨j, hj⟩) (fun b hb => dj b (mf_cons.mpr (.inr hb))) h
      refine ⟨F', S', fun b hb => ?_⟩
      rcases hF b hb with ⟨j, hj⟩ | hj
      · try dsimp only at hj
        split at hj
        · exact .inr (mf_cons.mpr (.inl hj))
        · exact .inl ⟨j, hj⟩
      · exact .inr (mf_cons.mpr (.inr hj))
    · cases h
  | [], _, _, _, _, _, _, _, _, .cons _ _, _, _, _, h => by cases h
  | _ :: _, _, _, _, _, _, _, _, _, .nil, _, _, _, h => by cases h
end
def tGn (K : PySem.W.Frag) (ent : Nat → Option V) (ts : List Nat) : TGs := fun us σ H Q => ∃ v H1 F sds fs v', SV K ent σ v H1 H F ∧ RSl K H1 H sds us fs ∧ Sep fs ∧ (∀ b, MF fs b → ¬ OF F b) ∧ (∀ b, MF fs b → H1 b = none) ∧ R.setNs ts sds v = some v' ∧
  ∀ σ' F', (∀ b, OF F' b → OF F b ∨ MF fs b) → SV K ent σ' v' H1 H F' → Q σ' H
section
variable {Φ : Tab} {N : List Str} {n : Nat} {c : Sx} {X : Cx} {ent : Nat → Option V}
theorem ckN_of {x : Expr} {i : Nat} (h : ckN N c x i = true) : ∃ y p, x = .Name y p ∧ N[i]? = some y ∧ locN c y = true := by
  cases x with
  | Name y p =>
    have h' := Bool.and_eq_true_iff.mp h
    exact ⟨y, p, rfl, of_decide_eq_true h'.1, h'.2⟩
  | _ => cases h
theorem go_gn (C : Cn Φ X) (A : At X N c) : ∀ {xs : List Expr} {ts : List Nat}, all2 (ckN N c) xs ts = true → PGs X xs (tGn X.K ent ts)
  | [], [], _ => PGs.mono pgs_nil fun us σ H Q q => by
    obtain ⟨v, H1, F, sds, fs, v', S, r, sp, ap, dj, e, q⟩ := q
    cases r with
    | nil => cases e; exact ⟨rfl, q σ F (fun b z => .inl z) S⟩
    | cons _ _ => cases e
  | x :: r, t :: ts, h => by
    have h' := Bool.and_eq_true_iff.mp h
    obtain ⟨y, p, rfl, k1, k2⟩ := ckN_of h'.1
    obtain ⟨l1, l2⟩ := loc_of A k2
    refine PGs.mono (pgs_cons (pg_name (i := t) C.nd (by rw [A.n]; exact k1) l1 l2) (go_gn C A h'.2) rfl) fun us σ H Q q => ?_
    obtain ⟨v, H1, F, sds, fs, v', S, rl, sp, ap, dj, e, q⟩ := q
    cases rl with
    | nil => cases e
    | @cons s d u f sds us fs r rl =>
      simp only [R.setNs] at e
      split at e
      · rename_i v1 z
        obtain ⟨sp1, sp2⟩ := sep_tail sp
        obtain ⟨S1, _⟩ := S.setN r (fun b hb => ap b (mf_cons.mpr (.inl hb))) (fun b hb => dj b (mf_cons.mpr (.inl hb))) z
        refine ⟨u, us, rfl, v1, H1, _, sds, fs, v', S1, rl, sp1, (fun b hb ⟨j, hj⟩ => ?_), (fun b hb => dj b (mf_cons.mpr (.inr hb))), e, fun σ' F' hF S' => q σ' F' (fun b hb => ?_) S'⟩
        · try dsimp only at hj
          split at hj
          · exact sp2 b hj hb
          · exact ap b (mf_cons.mpr (.inr hb)) ⟨j, hj⟩
        · rcases hF b hb with ⟨j, hj⟩ | hj
          · try dsimp only at hj
            split at hj
            · exact .inr (mf_cons.mpr (.inl hj))
            · exact .inl ⟨j, hj⟩
          · exact .inr (mf_cons.mpr (.inr hj))
      · cases e
  | [], _ :: _, h => by cases h
  | _ :: _, [], h => by cases h
theorem GoE.alls (g : GoE Φ N n) (C : Cn Φ X) (A : At X N c) : ∀ {xs : List Expr} {es : List E}, all2 (ckE N n c) xs es = true → PA X xs (tAs X.K ent (lev Φ n).e es)
  | [], [], _ => PA.mono pa_nil fun σ H Q q => by
    obtain ⟨v, H1, F, sds, v', S, e, q⟩ := q
    cases e
    exact q [] H1 H F [] (Tr.refl fun b z => by
      rcases z with z | ⟨f, hf, _⟩
      · exact z
      · simp at hf) S .nil (fun i j f g b hi => by simp at hi) (fun b ⟨f, hf, _⟩ => by simp at hf) (fun b ⟨f, hf, _⟩ => by simp at hf)
  | x :: r, e :: es, h => by
    have h' := Bool.and_eq_true_iff.mp h
    exact PA.mono (pa_cons (g c x e h'.1 X C A ent).1 (GoE.alls g C A h'.2) (star_cons (ckE_noStar h'.1))) fun _ _ _ q => tAs_cons q
  | [], _ :: _, h => by cases h
  | _ :: _, [], h => by cases h
/-- the parts of a comprehension -/
theorem lc_parts (g : GoE Φ N n) (C : Cn Φ X) (A : At X N c) {elt : Expr} {gs : List Comprehension} {scope : Scope} {pos : Pos} {vs : List Nat} {t : Tg} {it : It} {cond : Option E} {e : E} (h : ckE N (n + 1) c (.ListComp elt gs scope pos) (.lc vs t it cond e) = true) :
    ∃ tg iter ifs own, gs = [⟨tg, iter, ifs, 0⟩] ∧ own.map (·.2) = vs ∧ (∀ i ∈ t.slots, i ∈ vs) ∧ BlkOk X.N X.env.scope scope own ∧ PI X tg iter (tI X.K ent (lev Φ n).e it) ∧
      (∀ (s : Shared) (H : Hp) (Ca : Addr) (cl : List (Str × Addr)) (fp : List Addr), PG (X.blk s H scope (compEnvC scope cl Ca X.env) fp) tg (tG X.K ent t)) ∧
      (∀ (s : Shared) (H : Hp) (Ca : Addr) (cl : List (Str × Addr)) (fp : List Addr), PTs (X.blk s H scope (compEnvC scope cl Ca X.env) fp) ifs (tCond X.K ent (lev Φ n).e cond)) ∧
      (∀ (s : Shared) (H : Hp) (Ca : Addr) (cl : List (Str × Addr)) (fp : List Addr), PE (X.blk s H scope (compEnvC scope cl Ca X.env) fp) elt (tV X.K ent (lev Φ n).e e)) ∧ ∀ x, foldedSetIterable iter X.env x = pure x := by
  simp only [ckE] at h
  split at h
  · rename_i elt' tg iter ifs scope' pos' ex
    cases ex
    split at h
    · rename_i own eo
      simp only [Bool.and_eq_true] at h
      obtain ⟨⟨⟨⟨⟨k1, k2⟩, k3⟩, k4⟩, k5⟩, k6⟩ := h
      refine ⟨tg, iter, ifs, own, rfl, own_of eo, fun i hi => by simpa using List.all_eq_true.mp k3 i hi, by rw [A.n, A.sc]; exact blkOk_by k1, go_it (ent := ent) g C A k4,
        fun s H Ca cl fp => go_tg (Φ := Φ) (ent := ent) n tg t k2 (X.blk s H scope (compEnvC scope cl Ca X.env) fp) (C.blk ..) (A.blk ..), fun s H Ca cl fp => ?_,
        fun s H Ca cl fp => g.v (ent := ent) (X := X.blk s H scope (compEnvC scope cl Ca X.env) fp) k6 (C.blk ..) (A.blk ..), fun x => ckI_noSet k4 _ x⟩
      cases cond with
      | none =>
        cases ifs with
        | nil => exact pts_nil
        | cons _ _ => cases k5
      | some ce =>
        cases ifs with
        | nil => cases k5
        | cons cx r =>
          cases r with
          | cons _ _ => cases k5
          | nil =>
            have k9 := Bool.and_eq_true_iff.mp k5
            exact pts_one ((g (c.blk scope) cx ce k9.2 (X.blk s H scope (compEnvC scope cl Ca X.env) fp) (C.blk ..) (A.blk ..) ent).2 k9.1)
    · cases h
  · cases h
end
end R

set_option Elab.async false
set_option linter.all false
set_option maxRecDepth 100000
set_option maxHeartbeats 8000000
/-! R13: statements are sound. -/
namespace R
open PySem L2
def EndS (K : PySem.W.Frag) (ent : Nat → Option V) (F : Nat → List Addr) (H1 H : Hp) (Dn : Ends) : Out → Prop
  | .nx v' => ∀ σ' H1' H' F', Tr (OF F) H1 H H1' H' (OF F') → SV K ent σ' v' H1' H' F' → Dn.nx σ' H'
  | .bk v' => ∀ σ' H1' H' F', Tr (OF F) H1 H H1' H' (OF F') → SV K ent σ' v' H1' H' F' → Dn.bk σ' H'
  | .ct v' => ∀ σ' H1' H' F', Tr (OF F) H1 H H1' H' (OF F') → SV K ent σ' v' H1' H' F' → Dn.ct σ' H'
  | .rt s d v' => ∀ σ' u H1' H' F' f, Post K ent σ' F H1 H s d v' u H1' H' F' f → Dn.rt u H'
def tS (K : PySem.W.Frag) (ent : Nat → Option V) (LSt : LS) (s : S) : TS := fun Dn σ H => ∃ v H1 F o, SV K ent σ v H1 H F ∧ LSt s v = some o ∧ EndS K ent F H1 H Dn o
def tSs (K : PySem.W.Frag) (ent : Nat → Option V) (LSt : LS) (ss : List S) : TS := fun Dn σ H => ∃ v H1 F o, SV K ent σ v H1 H F ∧ ebs LSt ss v = some o ∧ EndS K ent F H1 H Dn o
section
variable {K : PySem.W.Frag} {ent : Nat → Option V} {σ : L2.St} {v v' : Ev} {H1 H H1' H' : Hp} {F F' : Nat → List Addr}
theorem EndS.step {Dn : Ends} {o : Out} (e : EndS K ent F H1 H Dn o) (t : Tr (OF F) H1 H H1' H' (OF F')) : EndS K ent F' H1' H' Dn o := by
  cases o with
  | nx v' => exact fun σ' a b c t' S' => e σ' a b c (t.trans t') S'
  | bk v' => exact fun σ' a b c t' S' => e σ' a b c (t.trans t') S'
  | ct v' => exact fun σ' a b c t' S' => e σ' a b c (t.trans t') S'
  | rt s d v' => exact fun σ' u a b c f p => e σ' u a b c f ⟨t.trans p.tr, p.sv, p.rs, p.ap, p.dj⟩
/-- an owned list is shared from now on -/
theorem SV.fz (S : SV K ent σ v H1 H F) {i : Nat} {d : D} (e : v[i]? = some (.at false .lst d)) :
    SV K ent σ (v.set i (.at false .sh d)) (join H1 H (F i)) H (fun j => if j = i then [] else F j) ∧ Tr (OF F) H1 H (join H1 H (F i)) H (OF fun j => if j = i then [] else F j) := by
  obtain ⟨u, h1, h2, _⟩ := S.slot i _ e
  have hi : i < v.length := (List.getElem?_eq_some_iff.mp e).1
  have dj : ∀ b ∈ F i, H1 b = none := fun b hb => S.dis i b hb
  have sub' : ∀ b, (OF fun j => if j = i then [] else F j) b → OF F b := fun b ⟨j, hj⟩ => by
    try dsimp only at hj
    split at hj
    · simp at hj
    · exact ⟨j, hj⟩
  refine ⟨⟨join_sub S.sub, by simpa using S.len, fun j sl ej => ?_, fun j hj => ?_, fun j k b hj hk => ?_, fun j b hj => ?_⟩, ⟨join_up dj, fun _ _ h _ => h, fun b h => ?_, fun b h => .inr (sub' b h)⟩⟩
  · by_cases hj : j = i
    · subst hj
      rw [List.getElem?_set_self hi] at ej
      cases ej
      exact ⟨u, h1, by rw [if_pos rfl]; exact ⟨h2.froze dj (by simp), rfl⟩, fun z => by cases z⟩
    · rw [List.getElem?_set_ne (Ne.symm hj)] at ej
      rw [if_neg hj]
      have q := S.slot j sl ej
      cases sl with
      | no => exact q
      | «at» io sh d' =>
        obtain ⟨w, a1, a2, a3⟩ := q
        exact ⟨w, a1, a2.step (join_up dj) fun b o _ h => h, a3⟩
  · have hj' : v.length ≤ j := by simpa using hj
    rw [if_neg (by omega)]
    exact S.out j hj'
  · try dsimp only at hj hk
    split at hj
    · simp at hj
    · split at hk
      · simp at hk
      · exact S.nd j k b hj hk
  · try dsimp only at hj
    split at hj
    · simp at hj
    · rename_i hne
      unfold join
      rw [if_neg (fun z => hne (S.nd j i b hj z))]
      exact S.dis j b hj
  · unfold join at h
    split at h
    · rename_i z
      exact .inr (.inr ⟨i, z⟩)
    · exact .inl h
/-- an owned list is changed -/
theorem SV.mut (S : SV K ent σ v H1 H F) {i : Nat} {io : Bool} {xs ys : List D} (e : v[i]? = some (.at io .lst (.lst xs))) :
    ∃ a vs, σ[i]? = some (some (.ref a)) ∧ H a = some (.lst vs) ∧ Rps K H1 vs xs ∧ xs.length ≤ sizeLine ∧
      ∀ ws, Rps K H1 ws ys → ys.length ≤ sizeLine → SV K ent σ (setIo v i (.lst ys)) H1 (upd H a (.lst ws)) F ∧ Tr (OF F) H1 H H1 (upd H a (.lst ws)) (OF F) := by
  obtain ⟨u, h1, ⟨a, vs, ds, rfl, ed, ef, ha, r, z⟩, h3⟩ := S.slot i _ e
  cases ed
  have oa : a ∈ F i := by rw [ef]; simp
  refine ⟨a, vs, h1, ha, r, z, fun ws rw' zw => ⟨⟨fun b o h => ?_, by rw [setIo_len]; exact S.len, fun j sl ej => ?_, fun j hj => S.out j (by rw [setIo_len] at hj; exact hj), S.nd, S.dis⟩, Tr.write ⟨i, oa⟩⟩⟩
  · have ne : b ≠ a := fun q => by rw [q, S.dis i a oa] at h; cases h
    rw [upd_ne ne]; exact S.sub b o h
  · by_cases hj : j = i
    · subst hj
      rw [setIo_self e] at ej
      cases ej
      exact ⟨_, h1, ⟨a, ws, ys, rfl, rfl, ef, upd_same, rw', zw⟩, h3⟩
    · rw [setIo_ne hj] at ej
      have q := S.slot j sl ej
      cases sl with
      | no => exact q
      | «at» io sh d' =>
        obtain ⟨w, a1, a2, a3⟩ := q
        refine ⟨w, a1, a2.step (fun _ _ h => h) fun b o hb h => ?_, a3⟩
        have ne : b ≠ a := fun q => hj (S.nd j i b hb (by rw [q]; exact oa))
        rw [upd_ne ne]; exact h
end
abbrev GoS (Φ : Tab) (N : List Str) (n : Nat) : Prop := ∀ (c : Sx) (x : Stmt) (s : S), c.sc.kind = .function → ckS N n c x s = true → ∀ X, Cn Φ X → At X N c → ∀ ent, PS X x (tS X.K ent (lev Φ n).s s)
section
variable {Φ : Tab} {N : List Str} {n : Nat} {c : Sx} {X : Cx} {ent : Nat → Option V}
theorem GoS.block (g : GoS Φ N n) (hk : c.sc.kind = .function) (C : Cn Φ X) (A : At X N c) : ∀ {ss : List S} {xs : List Stmt}, ckL (ckS N n c) xs ss = true → PSs X xs (tSs X.K ent (lev Φ n).s ss)
  | [], xs, h => by
    cases xs with
    | nil =>
      refine PSs.mono pss_nil fun Dn σ H q => ?_
      obtain ⟨v, H1, F, o, S, e, q⟩ := q
      cases e
      exact q σ H1 H F (Tr.refl fun _ z => z) S
    | cons _ _ => cases h
  | s :: ss, xs, h => by
    by_cases hs : ∃ i, s = .fz i
    · obtain ⟨i, rfl⟩ := hs
      have h' : ckL (ckS N n c) xs ss = true := by cases xs <;> exact h
      refine PSs.mono (GoS.block g hk C A h') fun Dn σ H q => ?_
      obtain ⟨v, H1, F, o, S, e, q⟩ := q
      simp only [ebs] at e
      cases z : (lev Φ n).s (.fz i) v with
      | none => rw [z] at e; cases e
      | some r =>
        rw [z] at e
        cases n with
        | zero => cases z
        | succ m =>
          change stepS (lev Φ m).e (lev Φ m).s (.fz i) v = some r at z
          simp only [stepS] at z
          split at z
          · rename_i d ed
            cases z
            obtain ⟨S', t⟩ := S.fz ed
            exact ⟨_, _, _, o, S', e, q.step t⟩
          · cases z
            exact ⟨_, _, _, o, S, e, q⟩
          · cases z
    · cases xs with
      | nil => cases s <;> first | (cases h; done) | exact absurd ⟨_, rfl⟩ hs
      | cons x xs =>
        have h' : (ckS N n c x s && ckL (ckS N n c) xs ss) = true := by
          cases s <;> first | exact h | exact absurd ⟨_, rfl⟩ hs
        obtain ⟨h1, h2⟩ := Bool.and_eq_true_iff.mp h'
        refine PSs.mono (pss_cons (g c x s hk h1 X C A ent) (GoS.block g hk C A h2)) fun Dn σ H q => ?_
        obtain ⟨v, H1, F, o, S, e, q⟩ := q
        simp only [ebs] at e
        cases z : (lev Φ n).s s v with
        | none => rw [z] at e; cases e
        | some r =>
          rw [z] at e
          refine ⟨v, H1, F, r, S, z, ?_⟩
          cases r with
          | nx v1 => exact fun σ' a b c' t S' => ⟨v1, a, c', o, S', e, q.step t⟩
          | bk v1 => cases e; exact q
          | ct v1 => cases e; exact q
          | rt s d v1 => cases e; exact q
theorem ite_some {c : Prop} [Decidable c] {x b : Str} (h : (if c then some x else none) = some b) : b = x := by
  split at h
  · cases h; rfl
  · cases h
theorem nm2 {sc : Scope} {x y : Str} {px py : Pos} {l : Nat} (h : ([Expr.Name x px, Expr.Name y py].filterMap fun | .Name id pos => if (sc.names.lookup id == some .local && pos.line == l) = true then some id else none | _ => none).length = 2) :
    ([Expr.Name x px, Expr.Name y py].filterMap fun | .Name id pos => if (sc.names.lookup id == some .local && pos.line == l) = true then some id else none | _ => none) = [x, y] := by
  simp only [List.filterMap_cons, List.filterMap_nil] at h ⊢
  split at h
  · split at h <;> simp at h
  · split at h
    · simp at h
    · rename_i _ b1 e1 _ b2 e2
      rw [ite_some e1, ite_some e2]
theorem nm3 {sc : Scope} {x y z : Str} {px py pz : Pos} {l : Nat} (h : ([Expr.Name x px, Expr.Name y py, Expr.Name z pz].filterMap fun | .Name id pos => if (sc.names.lookup id == some .local && pos.line == l) = true then some id else none | _ => none).length = 3) :
    ([Expr.Name x px, Expr.Name y py, Expr.Name z pz].filterMap fun | .Name id pos => if (sc.names.lookup id == some .local && pos.line == l) = true then some id else none | _ => none) = [x, y, z] := by
  simp only [List.filterMap_cons, List.filterMap_nil] at h ⊢
  split at h
  · split at h
    · split at h <;> simp at h
    · split at h <;> simp at h
  · split at h
    · split at h <;> simp at h
    · split at h
      · simp at h
      · rename_i _ b1 e1 _ b2 e2 _ b3 e3
        rw [ite_some e1, ite_some e2, ite_some e3]
theorem swD_len {ts vs : List Expr} (h : swD c ts vs = some true) : (ts.filterMap fun | .Name id pos => if (c.sc.names.lookup id == some .local && pos.line == (ts.head?.map (·.pos.line)).getD 0) = true then some id else none | _ => none).length = ts.length := by
  unfold swD at h
  simp only at h
  split at h
  · cases h
  · split at h
    · cases h
    · split at h
      · cases h
      · rename_i h3
        simp only [Bool.or_eq_true, not_or, bne_iff_ne, ne_eq, Decidable.not_not] at h3
        exact h3.1
end
end R

set_option Elab.async false
set_option linter.all false
set_option maxRecDepth 100000
set_option maxHeartbeats 8000000
/-! R14: every statement. -/
namespace R
open PySem L2
theorem RSl.stepH {K : PySem.W.Frag} {H1 H H' : Hp} (k : ∀ b o, H b = some o → H' b = some o) : ∀ {sds : List (Sh × D)} {us : List V} {fs : List (List Addr)}, RSl K H1 H sds us fs → RSl K H1 H' sds us fs
  | _, _, _, .nil => .nil
  | _, _, _, .cons r t => .cons (r.step (fun _ _ h => h) fun b o _ h => k b o h) (RSl.stepH k t)
theorem forGo_cons {LSt : LS} {t : Tg} {b : List S} {x : D} {r : List D} {v : Ev} {o : Out} (h : forGo LSt t b (x :: r) v = some o) :
    ∃ v1 o1, asgT t x v = some v1 ∧ ebs LSt b v1 = some o1 ∧ (match o1 with
      | .nx v2 => forGo LSt t b r v2 = some o
      | .ct v2 => forGo LSt t b r v2 = some o
      | .bk v2 => o = .nx v2
      | .rt s d v2 => o = .rt s d v2) := by
  simp only [forGo] at h
  cases z : asgT t x v with
  | none => rw [z] at h; cases h
  | some v1 =>
    rw [z] at h
    dsimp only at h
    cases y : ebs LSt b v1 with
    | none => rw [y] at h; cases h
    | some o1 =>
      rw [y] at h
      refine ⟨v1, o1, rfl, y, ?_⟩
      cases o1 with
      | nx v2 => exact h
      | ct v2 => exact h
      | bk v2 => cases h; rfl
      | rt s d v2 => cases h; rfl
theorem whGo_succ {L : LE} {LSt : LS} {t : E} {b : List S} {m : Nat} {v : Ev} {o : Out} (h : whGo L LSt t b m v = some o) :
    ∃ m' k v1, m = m' + 1 ∧ evt L t v = some (k, v1) ∧ (if k = true then ∃ o1, ebs LSt b v1 = some o1 ∧ (match o1 with
      | .nx v2 => whGo L LSt t b m' v2 = some o
      | .ct v2 => whGo L LSt t b m' v2 = some o
      | .bk v2 => o = .nx v2
      | .rt s d v2 => o = .rt s d v2) else o = .nx v1) := by
  cases m with
  | zero => cases h
  | succ m =>
    simp only [whGo] at h
    cases z : evt L t v with
    | none => rw [z] at h; cases h
    | some p =>
      obtain ⟨k, v1⟩ := p
      rw [z] at h
      refine ⟨m, k, v1, rfl, rfl, ?_⟩
      cases k with
      | false =>
        rw [if_neg Bool.false_ne_true]
        cases h; rfl
      | true =>
        rw [if_pos rfl]
        dsimp only at h
        cases y : ebs LSt b v1 with
        | none => rw [y] at h; cases h
        | some o1 =>
          rw [y] at h
          refine ⟨o1, rfl, ?_⟩
          cases o1 with
          | nx v2 => exact h
          | ct v2 => exact h
          | bk v2 => cases h; rfl
          | rt s d v2 => cases h; rfl
section
variable {Φ : Tab} {N : List Str} {n : Nat} {c : Sx} {X : Cx} {ent : Nat → Option V}
theorem go_for (gE : GoE Φ N n) (gS : GoS Φ N n) (hk : c.sc.kind = .function) (C : Cn Φ X) (A : At X N c) {tg iter : Expr} {body : List Stmt} {pos : Pos} {t : Tg} {it : It} {b : List S} (k1 : ckT N c n tg t = true) (k2 : ckI (ckE N n c) c tg iter it = true) (k3 : ckL (ckS N n c) body b = true) :
    PS X (.For tg iter body [] pos) (tS X.K ent (lev Φ (n + 1)).s (.for_ t it b)) := by
  have hp : PassesOwn (model X.prog X.w) X.A X.env X.xe := by rw [C.xe]; exact PassesOwn.never
  refine PS.mono (ps_for hp C.calm (go_it (ent := ent) gE C A k2) (go_tg (Φ := Φ) (ent := ent) n tg t k1 X C A) (gS.block (ent := ent) hk C A k3) (fun x => ckI_noSet k2 _ x)) fun Dn σ H q => ?_
  obtain ⟨v, H1, F, o, S, ev, q⟩ := q
  change stepS (lev Φ n).e (lev Φ n).s (.for_ t it b) v = _ at ev
  simp only [stepS] at ev
  split at ev
  · rename_i xs v1 e1
    refine ⟨v, H1, F, xs, v1, S, e1, fun J Ha Hb Fa ta Sa wk hz => ?_⟩
    have q' := q.step ta
    refine ⟨fun i m σc Hc => ∃ vc H1c Fc, i ≤ xs.length ∧ m = xs.length - i ∧ Same Ha H1c ∧ SV X.K ent σc vc H1c Hc Fc ∧ Tr (OF Fa) Ha Hb H1c Hc (OF Fc) ∧ forGo (lev Φ n).s t b (xs.drop i) vc = some o,
      ⟨xs.length, v1, Ha, Fa, Nat.zero_le _, by simp, fun _ _ h => h, Sa, Tr.refl fun _ h => h, by simpa using ev⟩, ?_⟩
    rintro i m σc Hc ⟨vc, H1c, Fc, hi, rfl, sm, Sc, tc, go⟩
    have sc : Same Ha Hc := fun b o h => Sc.sub b o (sm b o h)
    by_cases hlt : i < xs.length
    · refine .inr ⟨wk.go i Hc sc hlt, fun σn Hn => ∃ vc H1c Fc, Same Ha H1c ∧ SV X.K ent σn vc H1c Hn Fc ∧ Tr (OF Fa) Ha Hb H1c Hn (OF Fc) ∧ forGo (lev Φ n).s t b (xs.drop (i + 1)) vc = some o,
        fun σn Hn ⟨a1, a2, a3, a4, a5, a6, a7⟩ => ⟨xs.length - (i + 1), by omega, a1, a2, a3, hlt, rfl, a4, a5, a6, a7⟩, fun x Hx y => ?_⟩
      have ex : xs[i]? = some xs[i] := by simp [hlt]
      rw [List.drop_eq_getElem_cons hlt] at go
      obtain ⟨v1', o1, g1, g2, g3⟩ := forGo_cons go
      have key : ∃ H1x, Same H1c H1x ∧ SV X.K ent σc vc H1x Hx Fc ∧ Rp X.K H1x x xs[i] ∧ Tr (OF Fa) Ha Hb H1x Hx (OF Fc) := by
        rcases wk.yld i Hc x Hx _ sc ex y with ⟨rfl, r⟩ | ⟨T, ws, ds', rfl, hT, rfl, ed, r, z⟩
        · exact ⟨H1c, fun _ _ h => h, Sc, r.mono sm, tc⟩
        · have hT1 : H1c T = none := Sc.sub.free hT
          refine ⟨upd H1c T (.tup ws), same_new hT1, Sc.laidS hT trivial, ?_, tc.trans (Tr.laidS hT Sc.sub)⟩
          rw [ed]
          exact .tup (SqT.of upd_same) z (r.mono fun b o h => by
            rw [upd_ne (ne_of_none (sm b o h) hT1)]; exact sm b o h)
      obtain ⟨H1x, smx, Sx, rx, tx⟩ := key
      refine ⟨vc, H1x, Fc, xs[i], v1', Sx, rx, g1, fun σ2 F2 h2 S2 w2 => ⟨v1', H1x, F2, o1, S2, g2, ?_⟩⟩
      have t2 : Tr (OF Fa) Ha Hb H1x Hx (OF F2) := tx.trans (Tr.refl h2)
      have sx : Same Ha H1x := fun b o h => smx b o (sm b o h)
      cases o1 with
      | nx v2 => exact fun σ' a b' c' t' S' => ⟨v2, a, c', fun b o h => t'.mono b o (sx b o h), S', t2.trans t', g3⟩
      | ct v2 => exact fun σ' a b' c' t' S' => ⟨v2, a, c', fun b o h => t'.mono b o (sx b o h), S', t2.trans t', g3⟩
      | bk v2 => cases g3; exact fun σ' a b' c' t' S' => q' σ' a b' c' (t2.trans t') S'
      | rt s d v2 => cases g3; exact fun σ' u a b' c' f p => q' σ' u a b' c' f ⟨t2.trans p.tr, p.sv, p.rs, p.ap, p.dj⟩
    · have ei : i = xs.length := by omega
      subst ei
      rw [List.drop_length] at go
      cases go
      exact .inl ⟨wk.stop Hc sc, q' σc H1c Hc Fc tc Sc⟩
  · cases ev
theorem go_while (gE : GoE Φ N n) (gS : GoS Φ N n) (hk : c.sc.kind = .function) (C : Cn Φ X) (A : At X N c) {y : Expr} {body : List Stmt} {pos : Pos} {m0 : Nat} {t : E} {b : List S} (kt : tst t = true) (k1 : ckE N n c y t = true) (k3 : ckL (ckS N n c) body b = true) :
    PS X (.While y body [] pos) (tS X.K ent (lev Φ (n + 1)).s (.while_ m0 t b)) := by
  have hp : PassesOwn (model X.prog X.w) X.A X.env X.xe := by rw [C.xe]; exact PassesOwn.never
  refine PS.mono (ps_while hp ((gE c y t k1 X C A ent).2 kt) (gS.block (ent := ent) hk C A k3)) fun Dn σ H q => ?_
  obtain ⟨v, H1, F, o, S, ev, q⟩ := q
  change stepS (lev Φ n).e (lev Φ n).s (.while_ m0 t b) v = _ at ev
  simp only [stepS] at ev
  refine ⟨fun m σc Hc => ∃ vc H1c Fc, SV X.K ent σc vc H1c Hc Fc ∧ Tr (OF F) H1 H H1c Hc (OF Fc) ∧ whGo (lev Φ n).e (lev Φ n).s t b m vc = some o, ⟨m0, v, H1, F, S, Tr.refl fun _ h => h, ev⟩, ?_⟩
  rintro m σc Hc ⟨vc, H1c, Fc, Sc, tc, go⟩
  obtain ⟨m', k, v1, rfl, e1, g⟩ := whGo_succ go
  refine tB_of Sc e1 fun Ha Hb Fa ta Sa => ?_
  have t1 := tc.trans ta
  cases k with
  | true =>
    rw [if_pos rfl] at g ⊢
    obtain ⟨o1, g1, g2⟩ := g
    refine ⟨fun σn Hn => ∃ vc H1c Fc, SV X.K ent σn vc H1c Hn Fc ∧ Tr (OF F) H1 H H1c Hn (OF Fc) ∧ whGo (lev Φ n).e (lev Φ n).s t b m' vc = some o, fun σn Hn z => ⟨m', Nat.lt_succ_self _, z⟩, v1, Ha, Fa, o1, Sa, g1, ?_⟩
    cases o1 with
    | nx v2 => exact fun σ' a b' c' t' S' => ⟨v2, a, c', S', t1.trans t', g2⟩
    | ct v2 => exact fun σ' a b' c' t' S' => ⟨v2, a, c', S', t1.trans t', g2⟩
    | bk v2 => cases g2; exact fun σ' a b' c' t' S' => q σ' a b' c' (t1.trans t') S'
    | rt s d v2 => cases g2; exact fun σ' u a b' c' f p => q σ' u a b' c' f ⟨t1.trans p.tr, p.sv, p.rs, p.ap, p.dj⟩
  | false =>
    rw [if_neg Bool.false_ne_true] at g ⊢
    subst g
    exact q σc Ha Hb Fa t1 Sa
theorem go_par (gE : GoE Φ N n) (hk : c.sc.kind = .function) (C : Cn Φ X) (A : At X N c) {tgs vals : List Expr} {k k2 : Nat} {p p2 pos : Pos} {ts : List Nat} {es : List E} (h1 : all2 (ckN N c) tgs ts = true) (h2 : all2 (ckE N n c) vals es = true) (h3 : vals.length < 1000) (h4 : ts.Nodup) (h5 : tgs.length = vals.length)
    (h6 : (match swD c tgs vals with | some true => allLocal c tgs && (tgs.length == 2 || tgs.length == 3) | some false => true | none => false) = true) :
    PS X (.Assign [.Tuple tgs k p] (.Tuple vals k2 p2) pos) (tS X.K ent (lev Φ (n + 1)).s (.par ts es)) := by
  have hkX : X.env.scope.kind = .function := by rw [A.sc]; exact hk
  have pa := gE.alls (ent := ent) C A h2
  have l1 := all2_len h1
  have l2 := all2_len h2
  cases hb : swD c tgs vals with
  | none => rw [hb] at h6; cases h6
  | some b =>
    have hw := sws_of (k := k) (k2 := k2) (p := p) (p2 := p2) A.sc hkX hb
    cases b with
    | false =>
      have ns : ∀ x ∈ tgs, NoStar x := by
        intro x hx
        obtain ⟨i, hi⟩ := List.getElem?_of_mem hx
        clear hw hb h6 pa h2 l2 h5 h3 h4
        induction tgs generalizing ts i with
        | nil => simp at hx
        | cons z r ih =>
          cases ts with
          | nil => cases h1
          | cons t ts =>
            have h' := Bool.and_eq_true_iff.mp h1
            rcases List.mem_cons.mp hx with rfl | hx'
            · obtain ⟨y, q, rfl, _⟩ := ckN_of h'.1
              trivial
            · obtain ⟨j, hj⟩ := List.getElem?_of_mem hx'
              exact ih h'.2 (by simpa using l1) hx' j hj
      refine PS.mono (ps_asg (pe_tup pa) (pg_tup C.calm (go_gn (ent := ent) C A h1) (asgEach_len tgs) (asg_find ns)) rfl hw rfl) fun Dn σ H q => ?_
      obtain ⟨v, H1, F, o, S, ev, q⟩ := q
      change stepS (lev Φ n).e (lev Φ n).s (.par ts es) v = _ at ev
      simp only [stepS] at ev
      split at ev
      · rename_i sds v1 e1
        split at ev
        · rename_i v2 e2
          cases ev
          refine ⟨v, H1, F, sds, v1, S, e1, fun us Ha Hb Fa fs t Sa rl sp ap dj => ⟨?_, fun a ha => ?_⟩⟩
          · rw [rl.len, evss_len e1, ← l2]
            exact size1000 h3
          · have Sb := Sa.laidO (o := .tup us) ha
            have rl' : RSl X.K Ha (upd Hb a (.tup us)) sds us fs := RSl.stepH (fun b o h => by rw [upd_ne (ne_of_none h ha)]; exact h) rl
            refine ⟨a, us, rfl, SqT.of upd_same, by rw [rl.len, evss_len e1, ← l2, h5], v1, Ha, Fa, sds, fs, v2, Sb, rl', sp, ap, dj, e2, fun σ' F' hF S' => ?_⟩
            refine q σ' Ha _ F' (t.trans ((Tr.laidO (O := fun b => OF Fa b ∨ MF fs b) ha).weak (fun _ h => h) fun b h => .inr (hF b h))) S'
        · cases ev
      · cases ev
    | true =>
      rw [hb] at h6
      obtain ⟨h7, h8⟩ := Bool.and_eq_true_iff.mp h6
      have hlen := swD_len hb
      have fin : ∀ (Dn : Ends) (σ : L2.St) (H : Hp), tS X.K ent (lev Φ (n + 1)).s (.par ts es) Dn σ H → tAs X.K ent (lev Φ n).e es σ H fun us H' => us.length = ts.length ∧ Dn.nx ((ts.zip us).foldl (fun σ p => σ.set p.1 (some p.2)) σ) H' := by
        intro Dn σ H q
        obtain ⟨v, H1, F, o, S, ev, q⟩ := q
        change stepS (lev Φ n).e (lev Φ n).s (.par ts es) v = _ at ev
        simp only [stepS] at ev
        split at ev
        · rename_i sds v1 e1
          split at ev
          · rename_i v2 e2
            cases ev
            refine ⟨v, H1, F, sds, v1, S, e1, fun us Ha Hb Fa fs t Sa rl sp ap dj => ⟨by rw [rl.len, evss_len e1, ← l2, ← h5, l1], ?_⟩⟩
            obtain ⟨F', S', hF⟩ := Sa.setNs rl sp ap dj e2
            exact q _ Ha Hb F' (t.trans (Tr.refl hF)) S'
          · cases ev
        · cases ev
      match tgs, ts, vals, h1, h4, h5, h7, h8, hw, hlen, pa, fin with
      | [x1, x2], [i1, i2], [a1, a2], h1, h4, _, h7, _, hw, hlen, pa, fin =>
        have g1 := Bool.and_eq_true_iff.mp h1
        obtain ⟨y1, q1, rfl, n1, _⟩ := ckN_of g1.1
        obtain ⟨y2, q2, rfl, n2, _⟩ := ckN_of (Bool.and_eq_true_iff.mp g1.2).1
        have lo := List.all_eq_true.mp h7
        have lo1 : c.sc.names.lookup y1 = some .local := of_decide_eq_true (lo (.Name y1 q1) (by simp))
        have lo2 : c.sc.names.lookup y2 = some .local := of_decide_eq_true (lo (.Name y2 q2) (by simp))
        refine PS.mono (ps_par (i := i1) (j := i2) C.calm C.nd (by rw [A.n]; exact n1) (by rw [A.n]; exact n2) (fun z => by simp [z] at h4) (by rw [A.sc]; exact lo1) (by rw [A.sc]; exact lo2) pa (hw.trans (congrArg (fun z => (pure (some z) : Sem (Option (List Str)))) (nm2 hlen))) rfl) fun Dn σ H q => ?_
        obtain ⟨v, H1, F, sds, v', S, e, qq⟩ := fin Dn σ H q
        refine ⟨v, H1, F, sds, v', S, e, fun us Ha Hb Fa fs t Sa rl sp ap dj => ?_⟩
        obtain ⟨ul, nx⟩ := qq us Ha Hb Fa fs t Sa rl sp ap dj
        match us, ul, nx with
        | [u, w], _, nx => exact ⟨u, w, rfl, nx⟩
      | [x1, x2, x3], [i1, i2, i3], [a1, a2, a3], h1, h4, _, h7, _, hw, hlen, pa, fin =>
        have g1 := Bool.and_eq_true_iff.mp h1
        have g2 := Bool.and_eq_true_iff.mp g1.2
        obtain ⟨y1, q1, rfl, n1, _⟩ := ckN_of g1.1
        obtain ⟨y2, q2, rfl, n2, _⟩ := ckN_of g2.1
        obtain ⟨y3, q3, rfl, n3, _⟩ := ckN_of (Bool.and_eq_true_iff.mp g2.2).1
        have lo := List.all_eq_true.mp h7
        have lo1 : c.sc.names.lookup y1 = some .local := of_decide_eq_true (lo (.Name y1 q1) (by simp))
        have lo2 : c.sc.names.lookup y2 = some .local := of_decide_eq_true (lo (.Name y2 q2) (by simp))
        have lo3 : c.sc.names.lookup y3 = some .local := of_decide_eq_true (lo (.Name y3 q3) (by simp))
        have nd : i1 ≠ i2 ∧ i1 ≠ i3 ∧ i2 ≠ i3 := by
          simp only [List.nodup_cons, List.mem_cons, List.not_mem_nil, or_false, not_or] at h4
          exact ⟨h4.1.1, h4.1.2, h4.2.1⟩
        refine PS.mono (ps_par3 (i := i1) (j := i2) (l := i3) C.calm C.nd (by rw [A.n]; exact n1) (by rw [A.n]; exact n2) (by rw [A.n]; exact n3) nd.1 nd.2.1 nd.2.2 (by rw [A.sc]; exact lo1) (by rw [A.sc]; exact lo2) (by rw [A.sc]; exact lo3) pa (hw.trans (congrArg (fun z => (pure (some z) : Sem (Option (List Str)))) (nm3 hlen))) rfl) fun Dn σ H q => ?_
        obtain ⟨v, H1, F, sds, v', S, e, qq⟩ := fin Dn σ H q
        refine ⟨v, H1, F, sds, v', S, e, fun us Ha Hb Fa fs t Sa rl sp ap dj => ?_⟩
        obtain ⟨ul, nx⟩ := qq us Ha Hb Fa fs t Sa rl sp ap dj
        match us, ul, nx with
        | [u, w, z], _, nx => exact ⟨u, w, z, rfl, nx⟩
end
end R

set_option Elab.async false
set_option linter.all false
set_option maxRecDepth 100000
set_option maxHeartbeats 8000000
/-! R15: every statement; defs keep the promise of their run. -/
namespace R
open PySem L2
theorem few_ok {pos : Pos} {env : Env} {x : Expr} (h : NoStar x) : ((backTo pos (starEach [x] env)).all (fun x => !x.1) && (backToKw pos (keywordEach [] env)).all (fun x => x.1.isSome)
      && decide ([x].length + ([] : List Keyword).length + (if ([] : List Keyword).isEmpty then 0 else 1) < 30)) = true := by
  rw [star_cons h]; rfl
theorem goS (Φ : Tab) (N : List Str) : ∀ n, GoS Φ N n
  | 0 => fun c x s _ h => by cases h
  | n + 1 => fun c x s hk h X C A ent => by
    have gE := goE Φ N n
    have gS := goS Φ N n
    have hkX : X.env.scope.kind = .function := by rw [A.sc]; exact hk
    cases s with
    | asg t e =>
      simp only [ckS] at h
      split at h
      · rename_i tg val pos
        simp only [Bool.and_eq_true] at h
        obtain ⟨⟨⟨k1, k2⟩, k3⟩, k4⟩ := h
        cases tg with
        | Tuple xs kx px =>
          refine PS.mono (ps_asg (gE.v (ent := ent) k2 C A) (go_tg (Φ := Φ) (ent := ent) n _ t k1 X C A) (sw_tupT k2) (sws_none k4) rfl) fun Dn σ H q => ?_
          obtain ⟨v, H1, F, o, S, ev, q⟩ := q
          change stepS (lev Φ n).e (lev Φ n).s (.asg t e) v = _ at ev
          simp only [stepS] at ev
          split at ev
          · rename_i d v1 e1
            split at ev
            · rename_i v2 e2
              cases ev
              refine tV_of S e1 fun u Ha Hb Fa ta Sa r => ⟨v1, Ha, Fa, d, v2, Sa, r, e2, fun σ' F' hF S' _ => ?_⟩
              exact q σ' Ha Hb F' (ta.trans (Tr.refl hF)) S'
            · cases ev
          · cases ev
        | _ => cases k3
      · cases h
    | set i e =>
      simp only [ckS] at h
      split at h
      · rename_i y py val pos
        simp only [Bool.and_eq_true] at h
        obtain ⟨⟨⟨k1, k2⟩, k3⟩, k4⟩ := h
        obtain ⟨l1, l2⟩ := loc_of A k2
        have hN : X.N[i]? = some y := by rw [A.n]; exact of_decide_eq_true k1
        have fin : ∀ (Dn : Ends) (σ : L2.St) (H : Hp), tS X.K ent (lev Φ (n + 1)).s (.set i e) Dn σ H → tE X.K ent (lev Φ n).e e σ H fun u H' => Dn.nx (σ.set i (some u)) H' := by
          intro Dn σ H q
          obtain ⟨v, H1, F, o, S, ev, q⟩ := q
          change stepS (lev Φ n).e (lev Φ n).s (.set i e) v = _ at ev
          simp only [stepS] at ev
          split at ev
          · rename_i s d v1 e1
            split at ev
            · rename_i v2 e2
              cases ev
              refine ⟨v, H1, F, s, d, v1, S, e1, fun u Ha Hb Fa f p => ?_⟩
              obtain ⟨S', _⟩ := p.sv.setN p.rs p.ap p.dj e2
              refine q _ Ha Hb _ (p.tr.trans (Tr.refl fun b hb => ?_)) S'
              obtain ⟨j, hj⟩ := hb
              try dsimp only at hj
              split at hj
              · exact .inr hj
              · exact .inl ⟨j, hj⟩
            · cases ev
          · cases ev
        cases hb : swB c y py val with
        | false =>
          exact PS.mono (ps_set (i := i) C.nd hN l1 (gE c val e k3 X C A ent).1 (sw_false A.sc hkX k3 hb) l2) fun Dn σ H q => fin Dn σ H q
        | true =>
          rw [hb] at k4
          cases val with
          | ListComp elt gs scope p =>
            cases e with
            | lc vs t it cond e =>
              cases n with
              | zero => cases k3
              | succ m =>
                obtain ⟨tg, iter, ifs, own, rfl, hown, hs, ok, pi, pg, pts, pe, hf⟩ := lc_parts (ent := ent) (goE Φ N m) C A k3
                simp only [swB, Bool.and_eq_true, Bool.not_eq_true'] at hb
                obtain ⟨⟨b1, b2⟩, b3⟩ := hb
                have hyl : X.env.scope.names.lookup y = some .local := by rw [A.sc]; exact of_decide_eq_true b1
                refine PS.mono (ps_setLc (i := i) (own := own) C.calm C.nd hN hyl (sw_true hkX hyl b2 b3) pi ok pg pts pe hf) fun Dn σ H q => ?_
                obtain ⟨v, H1, F, s, d, v', S, ev, q⟩ := fin Dn σ H q
                change stepE Φ (lev Φ m).e (.lc vs t it cond e) v = _ at ev
                simp only [stepE] at ev
                split at ev
                · rename_i xs v1 e1
                  split at ev
                  · rename_i ds v2 e2
                    cases ev
                    show tLc _ _ _ _ (own.map (·.2)) σ H _
                    rw [hown]
                    exact tLc_of hs S e1 e2 q
                  · cases ev
                · cases ev
            | _ => cases k4
          | _ => cases hb
      · cases h
    | par ts es =>
      simp only [ckS] at h
      split at h
      · rename_i tgs kt pt vals kv pv pos
        simp only [Bool.and_eq_true] at h
        obtain ⟨⟨⟨⟨⟨k1, k2⟩, k3⟩, k4⟩, k5⟩, k6⟩ := h
        exact go_par gE hk C A k1 k2 (of_decide_eq_true k3) (of_decide_eq_true k4) (of_decide_eq_true k5) (by
          cases z : swD c tgs vals with
          | none => rw [z] at k6; cases k6
          | some b =>
            cases b with
            | false => rfl
            | true => rw [z] at k6; exact k6)
      · cases h
    | expr e =>
      simp only [ckS] at h
      split at h
      · rename_i val pos
        obtain ⟨k1, k2⟩ := Bool.and_eq_true_iff.mp h
        refine PS.mono (ps_expr (gE.v (ent := ent) k2 C A) (sw_other (t := val) k1 (ckE_noSC k2).1 (ckE_noSC k2).2 none)) fun Dn σ H q => ?_
        obtain ⟨v, H1, F, o, S, ev, q⟩ := q
        change stepS (lev Φ n).e (lev Φ n).s (.expr e) v = _ at ev
        simp only [stepS] at ev
        split at ev
        · rename_i d v1 e1
          cases ev
          exact tV_of S e1 fun u Ha Hb Fa ta Sa r => q σ Ha Hb Fa ta Sa
        · cases ev
      · cases h
    | ret e =>
      simp only [ckS] at h
      split at h
      · rename_i val pos
        refine PS.mono (ps_ret (gE c val e h X C A ent).1) fun Dn σ H q => ?_
        obtain ⟨v, H1, F, o, S, ev, q⟩ := q
        change stepS (lev Φ n).e (lev Φ n).s (.ret e) v = _ at ev
        simp only [stepS] at ev
        split at ev
        · rename_i s d v1 e1
          cases ev
          exact ⟨v, H1, F, s, d, v1, S, e1, fun u Ha Hb Fa f p => q σ u Ha Hb Fa f p⟩
        · cases ev
      · cases h
    | retN =>
      simp only [ckS] at h
      split at h
      · refine PS.mono ps_retN fun Dn σ H q => ?_
        obtain ⟨v, H1, F, o, S, ev, q⟩ := q
        change stepS (lev Φ n).e (lev Φ n).s .retN v = _ at ev
        simp only [stepS] at ev
        cases ev
        exact q σ _ H1 H F [] (S.post .non)
      · cases h
    | ite t a b =>
      simp only [ckS] at h
      split at h
      · rename_i y z w pos
        simp only [Bool.and_eq_true] at h
        obtain ⟨⟨⟨kt, k1⟩, k2⟩, k3⟩ := h
        refine PS.mono (ps_if ((gE c y t k1 X C A ent).2 kt) (gS.block (ent := ent) hk C A k2) (gS.block (ent := ent) hk C A k3)) fun Dn σ H q => ?_
        obtain ⟨v, H1, F, o, S, ev, q⟩ := q
        change stepS (lev Φ n).e (lev Φ n).s (.ite t a b) v = _ at ev
        simp only [stepS] at ev
        split at ev
        · rename_i v1 e1
          refine tB_of S e1 fun Ha Hb Fa ta Sa => ?_
          rw [if_pos rfl]
          exact ⟨v1, Ha, Fa, o, Sa, ev, q.step ta⟩
        · rename_i v1 e1
          refine tB_of S e1 fun Ha Hb Fa ta Sa => ?_
          rw [if_neg Bool.false_ne_true]
          exact ⟨v1, Ha, Fa, o, Sa, ev, q.step ta⟩
        · cases ev
      · cases h
    | for_ t it b =>
      simp only [ckS] at h
      split at h
      · rename_i tg iter body pos
        simp only [Bool.and_eq_true] at h
        exact go_for gE gS hk C A h.1.1 h.1.2 h.2
      · cases h
    | while_ m t b =>
      simp only [ckS] at h
      split at h
      · rename_i y body pos
        simp only [Bool.and_eq_true] at h
        exact go_while gE gS hk C A h.1.1 h.1.2 h.2
      · cases h
    | pass =>
      simp only [ckS] at h
      split at h
      · refine PS.mono ps_pass fun Dn σ H q => ?_
        obtain ⟨v, H1, F, o, S, ev, q⟩ := q
        change stepS (lev Φ n).e (lev Φ n).s .pass v = _ at ev
        simp only [stepS] at ev
        cases ev
        exact q σ H1 H F (Tr.refl fun _ h => h) S
      · cases h
    | brk =>
      simp only [ckS] at h
      split at h
      · refine PS.mono ps_break fun Dn σ H q => ?_
        obtain ⟨v, H1, F, o, S, ev, q⟩ := q
        change stepS (lev Φ n).e (lev Φ n).s .brk v = _ at ev
        simp only [stepS] at ev
        cases ev
        exact q σ H1 H F (Tr.refl fun _ h => h) S
      · cases h
    | cont =>
      simp only [ckS] at h
      split at h
      · refine PS.mono ps_continue fun Dn σ H q => ?_
        obtain ⟨v, H1, F, o, S, ev, q⟩ := q
        change stepS (lev Φ n).e (lev Φ n).s .cont v = _ at ev
        simp only [stepS] at ev
        cases ev
        exact q σ H1 H F (Tr.refl fun _ h => h) S
      · cases h
    | app i e =>
      simp only [ckS] at h
      split at h
      · rename_i y py m ap val cp pos
        simp only [Bool.and_eq_true] at h
        obtain ⟨⟨⟨⟨⟨k0, k1⟩, k2⟩, k3⟩, k4⟩, k5⟩ := h
        have e0 := of_decide_eq_true k0
        subst e0
        have kn := okName_of k3
        have ns := ckE_noStar k4
        refine PS.mono (ps_expr (pe_bm PySem.F.plainAttrs_list PySem.F.slot_list_append PySem.F.type_list_append mt_append (pe_var (i := i) (by rw [A.n]; exact of_decide_eq_true k1) (vis_of A k2) kn.1 kn.2.1) (pa_cons (gE.v (ent := ent) k4 C A) pa_nil (star_cons ns)) rfl (few_ok ns) k5 (star_cons ns) rfl) rfl) fun Dn σ H q => ?_
        obtain ⟨v, H1, F, o, S, ev, q⟩ := q
        change stepS (lev Φ n).e (lev Φ n).s (.app i e) v = _ at ev
        simp only [stepS] at ev
        split at ev
        · rename_i io0 d0 ei0
          obtain ⟨u0, hu0, ⟨a0, vs0, ds0, rfl, _, _, ha0, _, _⟩, _⟩ := S.slot i _ ei0
          refine ⟨_, hu0, .inl ⟨rfl, _, SqL.of ha0⟩, ?_⟩
          split at ev
          · rename_i d v1 e1
            split at ev
            · rename_i io xs ei
              split at ev
              · rename_i hz
                cases ev
                have mz : mostLen = sizeLine := by rw [sizeLine_eq]; rfl
                rw [mz] at hz
                refine tV_of S e1 fun u Ha Hb Fa ta Sa r => ?_
                obtain ⟨a, vs, hu, ha, rs, zl, fin⟩ := Sa.mut (ys := xs ++ [d]) ei
                rw [hu0] at hu; cases hu
                refine ⟨a0, vs, u, rfl, rfl, ha, by rw [rs.length]; exact hz, ?_⟩
                obtain ⟨S', t'⟩ := fin (vs ++ [u]) (rs.append (.cons r .nil)) (by rw [List.length_append, List.length_singleton]; omega)
                exact q σ Ha _ Fa (ta.trans t') S'
              · cases ev
            · cases ev
          · cases ev
        · cases ev
      · cases h
    | put i k e =>
      simp only [ckS] at h
      split at h
      · rename_i y py ix psub val pos
        simp only [Bool.and_eq_true] at h
        obtain ⟨⟨⟨⟨⟨k1, k2⟩, k3⟩, kns⟩, k4⟩, k5⟩ := h
        have kn := okName_of k3
        have hsub : ∀ v, assign (.Subscript (.Name y py) ix psub) X.env v = (do
            let ov ← holding [v] (eval (.Name y py) X.env)
            let iv ← holding [v, ov] (eval ix X.env)
            standAt psub
            holding [v, ov, iv] (setItem ov iv v)
            release [v, ov, iv] []) := by
          intro v
          cases ix <;> first | rfl | cases kns
        refine PS.mono (ps_asg (gE.v (ent := ent) k5 C A) (pg_sub (pe_var (i := i) (by rw [A.n]; exact of_decide_eq_true k1) (vis_of A k2) kn.1 kn.2.1) (gE.v (ent := ent) k4 C A) set_list hsub) sw_subT rfl rfl) fun Dn σ H q => ?_
        obtain ⟨v, H1, F, o, S, ev, q⟩ := q
        change stepS (lev Φ n).e (lev Φ n).s (.put i k e) v = _ at ev
        simp only [stepS] at ev
        split at ev
        · rename_i d v1 e1
          split at ev
          · rename_i io0 d0 ei0
            split at ev
            · rename_i j v2 e2
              split at ev
              · rename_i io xs ei
                split at ev
                · rename_i nn en
                  cases ev
                  refine tV_of S e1 fun u Ha Hb Fa ta Sa r => ?_
                  obtain ⟨u0, hu0, _, _⟩ := Sa.slot i _ ei0
                  refine ⟨u0, hu0, tV_of Sa e2 fun w Hc Hd Fc tc Sc rw' => ?_⟩
                  cases rw'
                  obtain ⟨a, vs, hu, ha, rs, zl, fin⟩ := Sc.mut (ys := xs.set nn d) ei
                  rw [hu0] at hu; cases hu
                  refine ⟨a, vs, j, nn, rfl, rfl, ha, by rw [rs.length]; exact en, ?_⟩
                  obtain ⟨S', t'⟩ := fin (vs.set nn u) (rs.set (r.mono tc.mono) nn) (by rw [List.length_set]; exact zl)
                  exact q σ Hc _ Fc ((ta.trans tc).trans t') S'
                · cases ev
              · cases ev
            · cases ev
          · cases ev
        · cases ev
      · cases h
    | fz i => cases h
    | raise_ =>
      refine PS.mono ps_never fun Dn σ H q => ?_
      obtain ⟨v, H1, F, o, S, ev, q⟩ := q
      cases ev
end R

set_option Elab.async false
set_option linter.all false
set_option maxRecDepth 100000
set_option maxHeartbeats 8000000
/-! R16: a def keeps the promise of its run; tables of defs. -/
namespace R
open PySem L2
def ioF : List (Sh × D) → List (List Addr) → Nat → List Addr
  | [], _, _ => []
  | (.sh, _) :: _, _, 0 => []
  | (.sh, _) :: ps, fs, i + 1 => ioF ps fs i
  | _ :: _, f :: _, 0 => f
  | _ :: ps, _ :: fs, i + 1 => ioF ps fs i
  | _ :: _, [], _ => []
def ioL : List (Sh × D) → (Nat → List Addr) → Nat → List (List Addr)
  | [], _, _ => []
  | (.sh, _) :: ps, F, k => ioL ps F (k + 1)
  | _ :: ps, F, k => F k :: ioL ps F (k + 1)
def slotOf (p : Sh × D) : Slot := match p.1 with | .sh => Slot.at false .sh p.2 | s => Slot.at true s p.2
section
variable {K : PySem.W.Frag} {H1 H H1' H' : Hp} {ps : List (Sh × D)} {vs : List V} {fs : List (List Addr)}
theorem ioF_mem (h : Io K H1 H ps vs fs) : ∀ i b, b ∈ ioF ps fs i → MF fs b := by
  induction h with
  | nil => intro i b hb; simp [ioF] at hb
  | sh r _ ih =>
    intro i b hb
    cases i with
    | zero => simp [ioF] at hb
    | succ i => exact ih i b hb
  | @io s v d f ps vs fs hs r _ ih =>
    intro i b hb
    cases s with
    | sh => exact absurd rfl hs
    | lst => cases i with
      | zero => exact mf_cons.mpr (.inl hb)
      | succ i => exact mf_cons.mpr (.inr (ih i b hb))
    | fro => cases i with
      | zero => exact mf_cons.mpr (.inl hb)
      | succ i => exact mf_cons.mpr (.inr (ih i b hb))
theorem ioF_of (h : Io K H1 H ps vs fs) : ∀ b, MF fs b → ∃ i, b ∈ ioF ps fs i := by
  induction h with
  | nil => rintro b ⟨f, hf, _⟩; simp at hf
  | sh r _ ih => intro b hb; obtain ⟨i, hi⟩ := ih b hb; exact ⟨i + 1, hi⟩
  | @io s v d f ps vs fs hs r _ ih =>
    intro b hb
    cases s with
    | sh => exact absurd rfl hs
    | lst => rcases mf_cons.mp hb with h | h
             · exact ⟨0, h⟩
             · obtain ⟨i, hi⟩ := ih b h; exact ⟨i + 1, hi⟩
    | fro => rcases mf_cons.mp hb with h | h
             · exact ⟨0, h⟩
             · obtain ⟨i, hi⟩ := ih b h; exact ⟨i + 1, hi⟩
theorem ioF_nd (h : Io K H1 H ps vs fs) : Sep fs → ∀ i j b, b ∈ ioF ps fs i → b ∈ ioF ps fs j → i = j := by
  induction h with
  | nil => intro _ i j b hb; simp [ioF] at hb
  | sh r _ ih =>
    intro sp i j b hi hj
    cases i with
    | zero => simp [ioF] at hi
    | succ i =>
      cases j with
      | zero => simp [ioF] at hj
      | succ j => rw [ih sp i j b hi hj]
  | @io s v d f ps vs fs hs r io ih =>
    intro sp i j b hi hj
    obtain ⟨sp1, sp2⟩ := sep_tail sp
    have key : ∀ {i j}, b ∈ ioF ((s, d) :: ps) (f :: fs) i → b ∈ ioF ((s, d) :: ps) (f :: fs) j → i = j := by
      intro i j hi hj
      cases s with
      | sh => exact absurd rfl hs
      | lst => cases i with
        | zero => cases j with
          | zero => rfl
          | succ j => exact absurd (ioF_mem io j b hj) (sp2 b hi)
        | succ i => cases j with
          | zero => exact absurd (ioF_mem io i b hi) (sp2 b hj)
          | succ j => rw [ih sp1 i j b hi hj]
      | fro => cases i with
        | zero => cases j with
          | zero => rfl
          | succ j => exact absurd (ioF_mem io j b hj) (sp2 b hi)
        | succ i => cases j with
          | zero => exact absurd (ioF_mem io i b hi) (sp2 b hj)
          | succ j => rw [ih sp1 i j b hi hj]
    exact key hi hj
theorem Io.len (h : Io K H1 H ps vs fs) : vs.length = ps.length := by
  induction h with
  | nil => rfl
  | sh _ _ ih => simp [ih]
  | io _ _ _ ih => simp [ih]
theorem ioF_slot (h : Io K H1 H ps vs fs) : ∀ (i : Nat) (p : Sh × D), ps[i]? = some p → ∃ u, vs[i]? = some u ∧ RS K H1 H p.1 u p.2 (ioF ps fs i) := by
  induction h with
  | nil => intro i p e; simp at e
  | @sh v d ps vs fs r _ ih =>
    intro i p e
    cases i with
    | zero => cases e; exact ⟨v, rfl, r, rfl⟩
    | succ i => obtain ⟨u, h1, h2⟩ := ih i p (by simpa using e); exact ⟨u, by simpa using h1, h2⟩
  | @io s v d f ps vs fs hs r _ ih =>
    intro i p e
    cases s with
    | sh => exact absurd rfl hs
    | lst => cases i with
      | zero => cases e; exact ⟨v, rfl, r⟩
      | succ i => obtain ⟨u, h1, h2⟩ := ih i p (by simpa using e); exact ⟨u, by simpa using h1, h2⟩
    | fro => cases i with
      | zero => cases e; exact ⟨v, rfl, r⟩
      | succ i => obtain ⟨u, h1, h2⟩ := ih i p (by simpa using e); exact ⟨u, by simpa using h1, h2⟩
theorem ioF_out : ∀ {ps : List (Sh × D)} {fs : List (List Addr)} {i : Nat}, ps.length ≤ i → ioF ps fs i = []
  | [], _, _, _ => rfl
  | (s, d) :: ps, fs, 0, h => by simp at h
  | (s, d) :: ps, fs, i + 1, h => by
    have h' : ps.length ≤ i := by simpa using h
    cases s with
    | sh => show ioF ps fs i = []; exact ioF_out h'
    | lst => cases fs with
      | nil => rfl
      | cons f fs => show ioF ps fs i = []; exact ioF_out h'
    | fro => cases fs with
      | nil => rfl
      | cons f fs => show ioF ps fs i = []; exact ioF_out h'
/-- the entry -/
theorem SV.entry {n : Nat} {N : List Str} (h : Io K H1 H ps vs fs) (hl : ps.length ≤ N.length) (sub : Same H1 H) (sp : Sep fs) (dj : ∀ b, MF fs b → H1 b = none) :
    SV K (fun i => vs[i]?) (L2.start N vs) (R.start N.length ps) H1 H (ioF ps fs) := by
  have vl := h.len
  refine ⟨sub, ?_, fun i sl e => ?_, fun i hi => ?_, fun i j b hi hj => ioF_nd h sp i j b hi hj, fun i b hi => dj b (ioF_mem h i b hi)⟩
  · unfold R.start L2.start
    simp only [List.length_append, List.length_map, List.length_replicate]
    omega
  · unfold R.start at e
    by_cases hi : i < ps.length
    · rw [List.getElem?_append_left (by simpa using hi), List.getElem?_map] at e
      have ep : ps[i]? = some ps[i] := by simp [hi]
      rw [ep] at e
      obtain ⟨u, h1, h2⟩ := ioF_slot h i _ ep
      have hσ : (L2.start N vs)[i]? = some (some u) := by
        unfold L2.start
        rw [List.getElem?_append_left (by simpa [vl] using hi), List.getElem?_map, h1]
        rfl
      generalize ps[i] = p at *
      obtain ⟨s, d⟩ := p
      cases s with
      | sh => cases e; exact ⟨u, hσ, h2, fun z => by cases z⟩
      | lst => cases e; exact ⟨u, hσ, h2, fun _ => h1⟩
      | fro => cases e; exact ⟨u, hσ, h2, fun _ => h1⟩
    · rw [List.getElem?_append_right (by simpa using Nat.le_of_not_lt hi)] at e
      have : sl = .no := by
        have := List.mem_of_getElem? e
        exact (List.mem_replicate.mp this).2
      subst this
      exact ioF_out (Nat.le_of_not_lt hi)
  · unfold R.start at hi
    simp only [List.length_append, List.length_map, List.length_replicate] at hi
    exact ioF_out (by omega)
/-- the exit -/
theorem no_of {ent : Nat → Option V} {σ : L2.St} {F' : Nat → List Addr} : ∀ {ps : List (Sh × D)} {vs : List V} {fs : List (List Addr)} {k : Nat} {vt : Ev} {new : List D}, Io K H1 H ps vs fs → (∀ i sl, vt[i]? = some sl → SlotOk K ent σ H1' H' (k + i) (F' (k + i)) sl) → (∀ (i : Nat) u, vs[i]? = some u → ent (k + i) = some u) →
    outs ps vt = some new → No K H1' H' ps vs new (ioL ps F' k)
  | _, _, _, k, vt, new, .nil, _, _, h => by cases h; exact .nil
  | _, _, _, k, vt, new, @Io.sh _ _ _ v d ps vs fs r io, hs, he, h => by
    cases vt with
    | nil => cases h
    | cons x vt =>
      have h' : outs ps vt = some new := h
      exact .sh (no_of io (fun i sl e => by have := hs (i + 1) sl (by simpa using e); rw [show k + 1 + i = k + (i + 1) by omega]; exact this) (fun i u e => by rw [show k + 1 + i = k + (i + 1) by omega]; exact he (i + 1) u (by simpa using e)) h')
  | _, _, _, k, vt, new, @Io.io _ _ _ s v d f ps vs fs hsh r io, hs, he, h => by
    cases vt with
    | nil => cases s <;> first | exact absurd rfl hsh | cases h
    | cons x vt =>
      cases x with
      | no => cases s <;> first | exact absurd rfl hsh | cases h
      | «at» b s' d' =>
        have key : b = true ∧ s = s' ∧ ∃ nr, outs ps vt = some nr ∧ new = d' :: nr := by
          cases b with
          | false => cases s <;> first | exact absurd rfl hsh | cases h
          | true =>
            have h2 : (if s = s' then (outs ps vt).map (d' :: ·) else none) = some new := by
              cases s <;> first | exact absurd rfl hsh | exact h
            split at h2
            · rename_i es
              cases z : outs ps vt with
              | none => rw [z] at h2; cases h2
              | some nr => rw [z] at h2; cases h2; exact ⟨rfl, es, nr, rfl, rfl⟩
            · cases h2
        obtain ⟨rfl, rfl, nr, h3, rfl⟩ := key
        obtain ⟨u, hu, hr, hent⟩ := hs 0 _ rfl
        have e0 := hent rfl
        rw [show k + 0 = k from rfl] at e0 hr
        have e1 := he 0 v rfl
        rw [show k + 0 = k from rfl] at e1
        rw [e0] at e1
        cases e1
        have ih := no_of (k := k + 1) io (fun i sl e => by have := hs (i + 1) sl (by simpa using e); rw [show k + 1 + i = k + (i + 1) by omega]; exact this) (fun i u e => by rw [show k + 1 + i = k + (i + 1) by omega]; exact he (i + 1) u (by simpa using e)) h3
        have el : ioL ((s, d) :: ps) F' k = F' k :: ioL ps F' (k + 1) := by cases s <;> first | exact absurd rfl hsh | rfl
        rw [el]
        exact .io hsh hr ih
theorem ioL_mem {F' : Nat → List Addr} : ∀ {ps : List (Sh × D)} {k : Nat} {f : List Addr}, f ∈ ioL ps F' k → ∃ i, k ≤ i ∧ f = F' i
  | [], _, _, h => by simp [ioL] at h
  | (s, d) :: ps, k, f, h => by
    cases s with
    | sh => obtain ⟨i, h1, h2⟩ := ioL_mem (ps := ps) (k := k + 1) h; exact ⟨i, by omega, h2⟩
    | lst =>
      rcases List.mem_cons.mp (show f ∈ F' k :: ioL ps F' (k + 1) from h) with h | h
      · exact ⟨k, Nat.le_refl _, h⟩
      · obtain ⟨i, h1, h2⟩ := ioL_mem h; exact ⟨i, by omega, h2⟩
    | fro =>
      rcases List.mem_cons.mp (show f ∈ F' k :: ioL ps F' (k + 1) from h) with h | h
      · exact ⟨k, Nat.le_refl _, h⟩
      · obtain ⟨i, h1, h2⟩ := ioL_mem h; exact ⟨i, by omega, h2⟩
theorem ioL_sep {F' : Nat → List Addr} (nd : ∀ i j b, b ∈ F' i → b ∈ F' j → i = j) : ∀ {ps : List (Sh × D)} {k : Nat}, Sep (ioL ps F' k)
  | [], _ => fun i j f g b hi => by simp [ioL] at hi
  | (s, d) :: ps, k => by
    have tail : Sep (F' k :: ioL ps F' (k + 1)) := sep_cons (ioL_sep nd) fun b hb ⟨g, hg, hbg⟩ => by
      obtain ⟨i, h1, rfl⟩ := ioL_mem hg
      have := nd k i b hb hbg
      omega
    cases s with
    | sh => exact ioL_sep nd (ps := ps) (k := k + 1)
    | lst => exact tail
    | fro => exact tail
end

/-! ### the module -/
structure Md (P : Program) (w : World) (K : PySem.W.Frag) (mg : Str → Option Value) (base : Heap) (Φ : Tab) (k : Nat) : Prop where
  blt : ∀ y ∈ bltNames, mg y = none
  gl : ∀ x d, Φ.gl x = some d → ∃ v u, mg x = some u ∧ RelV v u ∧ ∀ H, Rp K H v d
  fn : ∀ f F, Φ.fn f = some F → ∃ a fd ps, FnOk P w K mg base CX0 k a fd ps (spOf K F) ∧ mg f = some (.ref a) ∧ PySem.W.keepIn K (.ref a) = true ∧ Binds K fd ps []
section
variable {P : Program} {w : World} {K : PySem.W.Frag} {mg : Str → Option Value} {base : Heap} {Φ : Tab} {k : Nat}
theorem fn_ok (M : Md P w K mg base Φ k) {x qual : Str} {args : Arguments} {body : List Stmt} {scope : Scope} {f : Addr} {fd : FuncData} {N ps : List Str} {n : Nat} {B : List S} {Fm : Fn}
    (F : FunD K x qual args body scope [] [] f fd) (Sc : FnScope N ps scope) (hk : scope.kind = .function) (ck : ckL (ckS N n ⟨scope, fun _ => true⟩) body B = true)
    (hF : ∀ q r, Fm q = some r → q.length = ps.length ∧ run Φ n N.length B q = some r) (hlen : ps.length ≤ N.length) : FnOk P w K mg base CX0 (k + 1) f fd ps (spOf K Fm) := by
  refine F.ok Sc (fun vs H Q E h => ?_) (fun cdv A outer s H vs Q E hr h => ?_)
  · obtain ⟨q, sh, d, new, H1, fs, _, io, _, _, e, _⟩ := h
    rw [io.len, (hF _ _ e).1]
  · obtain ⟨q, sh, d, new, H1, fs, sub, io, sp, dj, e, kk⟩ := h
    obtain ⟨hq, hrun⟩ := hF _ _ e
    let X := (cxOf CX0 P w K mg base N qual scope f cdv A outer s H E).nox
    have C : Cn Φ X := ⟨Sc.nd, rfl, rfl, hr.mono (Nat.zero_le _), M.blt, M.gl, fun f F hf => by
      obtain ⟨a, fd, ps, ok, h1, h2, h3⟩ := M.fn f F hf
      exact ⟨a, fd, ps, k, ok, hr, h1, h2, h3⟩⟩
    have At0 : At X N ⟨scope, fun _ => true⟩ := ⟨rfl, rfl, rfl⟩
    refine ⟨_, PSs.nox ((goS Φ N n).block (ent := fun i => vs[i]?) (X := X) hk C At0 ck), ?_⟩
    have S0 := SV.entry (n := n) (N := N) io (by rw [hq]; exact hlen) sub sp dj
    have mfO : ∀ b, OF (ioF q fs) b → MF fs b := fun b ⟨i, hi⟩ => ioF_mem io i b hi
    unfold run at hrun
    have fin : ∀ (σ' : L2.St) (u : V) (v' : Ev) (H1' H' : Hp) (F' : Nat → List Addr) (g : List Addr) (s0 : Sh) (d0 : D), Post K (fun i => vs[i]?) σ' (ioF q fs) H1 H s0 d0 v' u H1' H' F' g → (outs q v').map (fun ds => (s0, d0, ds)) = some (sh, d, new) → Q u H' := by
      intro σ' u v' H1' H' F' g s0 d0 p eo
      cases zo : outs q v' with
      | none => rw [zo] at eo; cases eo
      | some nw =>
        rw [zo] at eo
        cases eo
        refine kk u H1' H' (ioL q F' 0) g (p.tr.weak mfO fun b hb => ?_) p.sv.sub (no_of (k := 0) io (fun i sl e => by rw [Nat.zero_add]; exact p.sv.slot i sl e) (fun i u e => by rw [Nat.zero_add]; exact e) zo) p.rs (ioL_sep p.sv.nd) (fun b hb => ?_) (fun b hb => ?_)
        · rcases hb with ⟨f, hf, hb⟩ | hb
          · obtain ⟨i, _, rfl⟩ := ioL_mem hf
            exact .inl (.inl ⟨i, hb⟩)
          · exact .inl (.inr hb)
        · obtain ⟨f, hf, hbf⟩ := hb
          obtain ⟨i, _, rfl⟩ := ioL_mem hf
          exact fun z => p.ap b z ⟨i, hbf⟩
        · rcases hb with ⟨f, hf, hb⟩ | hb
          · obtain ⟨i, _, rfl⟩ := ioL_mem hf
            exact p.sv.dis i b hb
          · exact p.dj b hb
    cases ze : ebs (lev Φ n).s B (R.start N.length q) with
    | none => rw [ze] at hrun; cases hrun
    | some o =>
      rw [ze] at hrun
      refine ⟨_, H1, _, o, S0, ze, ?_⟩
      cases o with
      | nx v' => exact fun σ' a b c t S' => fin σ' .non v' a b c [] .sh .non ((NewR.old S'.sub .non).post S' t) hrun
      | rt s0 d0 v' => exact fun σ' u a b c g p => fin σ' u v' a b c g s0 d0 p hrun
      | bk v' => cases hrun
      | ct v' => cases hrun
/-- one more def -/
def Tab.add (Φ : Tab) (x : Str) (F : Fn) : Tab := ⟨fun y => if y = x then some F else Φ.fn y, Φ.gl⟩
theorem Md.add (M : Md P w K mg base Φ k) {x : Str} {Fm : Fn} {a : Addr} {fd : FuncData} {ps : List Str} {j : Nat} (ok : FnOk P w K mg base CX0 j a fd ps (spOf K Fm)) (hj : j ≤ k + 1) (hm : mg x = some (.ref a)) (hk : PySem.W.keepIn K (.ref a) = true) (hb : Binds K fd ps []) :
    Md P w K mg base (Φ.add x Fm) (k + 1) := by
  refine ⟨M.blt, M.gl, fun f F h => ?_⟩
  by_cases e : f = x
  · subst e
    have h' : (if f = f then some Fm else Φ.fn f) = some F := h
    rw [if_pos rfl] at h'
    cases h'
    exact ⟨a, fd, ps, ok.mono hj, hm, hk, hb⟩
  · have h' : (if f = x then some Fm else Φ.fn f) = some F := h
    rw [if_neg e] at h'
    obtain ⟨a', fd', ps', ok', h1, h2, h3⟩ := M.fn f F h'
    exact ⟨a', fd', ps', ok'.mono (Nat.le_succ k), h1, h2, h3⟩
end
end R

set_option Elab.async false
set_option linter.all false
set_option maxRecDepth 100000
set_option maxHeartbeats 4000000
namespace K
open PySem R
def top (i : Nat) : Stmt := PySem.Challenge.pw_heldnotes_k62_forms_of_clamps.main.body.getD i (.Pass ⟨0, 0, 0, 0⟩)
def N_is_integer : List Str := ["thing"]
def B_is_integer : List S := [
  .ret (.and (.isi (.var 0) ["int"]) [.not (.isi (.var 0) ["bool"])])]
abbrev s_is_integer : Stmt := top 1
theorem ck_is_integer : ckL (ckS N_is_integer 24 ⟨L2.defScope s_is_integer, fun _ => true⟩) (L2.defBody s_is_integer) B_is_integer = true := by decide +kernel
theorem sc_is_integer : L2.FnScope N_is_integer ["thing"] (L2.defScope s_is_integer) := ⟨rfl, rfl, rfl, by decide +kernel, rfl, by decide +kernel, by decide +kernel⟩
def N_is_list : List Str := ["thing"]
def B_is_list : List S := [
  .ret (.isi (.var 0) ["list", "tuple"])]
abbrev s_is_list : Stmt := top 2
theorem ck_is_list : ckL (ckS N_is_list 24 ⟨L2.defScope s_is_list, fun _ => true⟩) (L2.defBody s_is_list) B_is_list = true := by decide +kernel
theorem sc_is_list : L2.FnScope N_is_list ["thing"] (L2.defScope s_is_list) := ⟨rfl, rfl, rfl, by decide +kernel, rfl, by decide +kernel, by decide +kernel⟩
def N_is_end : List Str := ["thing"]
def B_is_end : List S := [
  .ret (.or (.cmp .is (.var 0) (.c .non)) [.call "is_integer" [.v (.var 0)]])]
abbrev s_is_end : Stmt := top 8
theorem ck_is_end : ckL (ckS N_is_end 24 ⟨L2.defScope s_is_end, fun _ => true⟩) (L2.defBody s_is_end) B_is_end = true := by decide +kernel
theorem sc_is_end : L2.FnScope N_is_end ["thing"] (L2.defScope s_is_end) := ⟨rfl, rfl, rfl, by decide +kernel, rfl, by decide +kernel, by decide +kernel⟩
def N_is_clamp : List Str := ["thing", "low", "step", "high"]
def B_is_clamp : List S := [
  .ite (.or (.not (.call "is_list" [.v (.var 0)])) [.cmp .ne (.blt .len [.var 0]) (.c (.int 3))]) [.ret (.c (.bl false))] [],
  .asg (.tp [(.nm 1), (.nm 2), (.nm 3)]) (.var 0),
  .ite (.or (.not (.call "is_end" [.v (.var 1)])) [.not (.call "is_integer" [.v (.var 2)]), .not (.call "is_end" [.v (.var 3)])]) [.ret (.c (.bl false))] [],
  .ret (.or (.cmp .is (.var 1) (.c .non)) [.cmp .is (.var 3) (.c .non), .cmp .le (.var 1) (.var 3)])]
abbrev s_is_clamp : Stmt := top 9
theorem ck_is_clamp : ckL (ckS N_is_clamp 24 ⟨L2.defScope s_is_clamp, fun _ => true⟩) (L2.defBody s_is_clamp) B_is_clamp = true := by decide +kernel
theorem sc_is_clamp : L2.FnScope N_is_clamp ["thing"] (L2.defScope s_is_clamp) := ⟨rfl, rfl, rfl, by decide +kernel, rfl, by decide +kernel, by decide +kernel⟩
def N_check_clamp : List Str := ["thing"]
def B_check_clamp : List S := [
  .ite (.not (.call "is_clamp" [.v (.var 0)])) [.raise_] []]
abbrev s_check_clamp : Stmt := top 10
theorem ck_check_clamp : ckL (ckS N_check_clamp 24 ⟨L2.defScope s_check_clamp, fun _ => true⟩) (L2.defBody s_check_clamp) B_check_clamp = true := by decide +kernel
theorem sc_check_clamp : L2.FnScope N_check_clamp ["thing"] (L2.defScope s_check_clamp) := ⟨rfl, rfl, rfl, by decide +kernel, rfl, by decide +kernel, by decide +kernel⟩
def N_made : List Str := ["clamp", "x", "low", "step", "high", "found"]
def B_made : List S := [
  .asg (.tp [(.nm 2), (.nm 3), (.nm 4)]) (.var 0),
  .set 5 (.bin .add (.var 1) (.var 3)),
  .ite (.and (.cmp .isn (.var 2) (.c .non)) [.cmp .lt (.var 5) (.var 2)]) [.set 5 (.var 2)] [],
  .ite (.and (.cmp .isn (.var 4) (.c .non)) [.cmp .gt (.var 5) (.var 4)]) [.set 5 (.var 4)] [],
  .ret (.var 5)]
abbrev s_made : Stmt := top 11
theorem ck_made : ckL (ckS N_made 24 ⟨L2.defScope s_made, fun _ => true⟩) (L2.defBody s_made) B_made = true := by decide +kernel
theorem sc_made : L2.FnScope N_made ["clamp", "x"] (L2.defScope s_made) := ⟨rfl, rfl, rfl, by decide +kernel, rfl, by decide +kernel, by decide +kernel⟩
def N_form_of : List Str := ["clamp", "low", "step", "high"]
def B_form_of : List S := [
  .asg (.tp [(.nm 1), (.nm 2), (.nm 3)]) (.var 0),
  .ite (.and (.cmp .isn (.var 1) (.c .non)) [.cmp .eq (.var 1) (.var 3)]) [.ret (.tup [.var 1, .c (.int 0), .var 3])] [],
  .ret (.tup [.var 1, .var 2, .var 3])]
abbrev s_form_of : Stmt := top 12
theorem ck_form_of : ckL (ckS N_form_of 24 ⟨L2.defScope s_form_of, fun _ => true⟩) (L2.defBody s_form_of) B_form_of = true := by decide +kernel
theorem sc_form_of : L2.FnScope N_form_of ["clamp"] (L2.defScope s_form_of) := ⟨rfl, rfl, rfl, by decide +kernel, rfl, by decide +kernel, by decide +kernel⟩
def N_clamp_behind : List Str := ["one", "other", "low", "high"]
def B_clamp_behind : List S := [
  .set 2 (.ite (.cmp .is (.idx (.var 0) (.c (.int 0))) (.c .non)) (.idx (.var 1) (.c (.int 0))) (.call "made" [.v (.var 1), .v (.idx (.var 0) (.c (.int 0)))])),
  .set 3 (.ite (.cmp .is (.idx (.var 0) (.c (.int 2))) (.c .non)) (.idx (.var 1) (.c (.int 2))) (.call "made" [.v (.var 1), .v (.idx (.var 0) (.c (.int 2)))])),
  .ret (.call "form_of" [.v (.tup [.var 2, .bin .add (.idx (.var 0) (.c (.int 1))) (.idx (.var 1) (.c (.int 1))), .var 3])])]
abbrev s_clamp_behind : Stmt := top 13
theorem ck_clamp_behind : ckL (ckS N_clamp_behind 24 ⟨L2.defScope s_clamp_behind, fun _ => true⟩) (L2.defBody s_clamp_behind) B_clamp_behind = true := by decide +kernel
theorem sc_clamp_behind : L2.FnScope N_clamp_behind ["one", "other"] (L2.defScope s_clamp_behind) := ⟨rfl, rfl, rfl, by decide +kernel, rfl, by decide +kernel, by decide +kernel⟩
def N_joined_of : List Str := ["clamps", "found", "clamp"]
def B_joined_of : List S := [
  .set 1 (.glob "STAYING"),
  .for_ (.nm 2) (.seq (.var 0)) [.set 1 (.call "clamp_behind" [.v (.var 1), .v (.var 2)])],
  .ret (.var 1)]
abbrev s_joined_of : Stmt := top 14
theorem ck_joined_of : ckL (ckS N_joined_of 24 ⟨L2.defScope s_joined_of, fun _ => true⟩) (L2.defBody s_joined_of) B_joined_of = true := by decide +kernel
theorem sc_joined_of : L2.FnScope N_joined_of ["clamps"] (L2.defScope s_joined_of) := ⟨rfl, rfl, rfl, by decide +kernel, rfl, by decide +kernel, by decide +kernel⟩
def N_formed : List Str := ["clamp"]
def B_formed : List S := [
  .expr (.call "check_clamp" [.v (.var 0)]),
  .ret (.call "form_of" [.v (.var 0)])]
abbrev s_formed : Stmt := top 15
theorem ck_formed : ckL (ckS N_formed 24 ⟨L2.defScope s_formed, fun _ => true⟩) (L2.defBody s_formed) B_formed = true := by decide +kernel
theorem sc_formed : L2.FnScope N_formed ["clamp"] (L2.defScope s_formed) := ⟨rfl, rfl, rfl, by decide +kernel, rfl, by decide +kernel, by decide +kernel⟩
def N_joined : List Str := ["clamps", "index", "thing"]
def B_joined : List S := [
  .ite (.not (.call "is_list" [.v (.var 0)])) [.raise_] [],
  .for_ (.tp [(.nm 1), (.nm 2)]) (.enum (.var 0)) [.ite (.not (.call "is_clamp" [.v (.var 2)])) [.raise_] []],
  .ret (.call "joined_of" [.v (.var 0)])]
abbrev s_joined : Stmt := top 16
theorem ck_joined : ckL (ckS N_joined 24 ⟨L2.defScope s_joined, fun _ => true⟩) (L2.defBody s_joined) B_joined = true := by decide +kernel
theorem sc_joined : L2.FnScope N_joined ["clamps"] (L2.defScope s_joined) := ⟨rfl, rfl, rfl, by decide +kernel, rfl, by decide +kernel, by decide +kernel⟩
def N_l_source : List Str := ["_law_script", "_law_place", "_law_raw"]
def B_l_source : List S := [
  .set 2 (.ite (.cmp .lt (.var 1) (.olen 0)) (.oidx 0 (.var 1)) (.bin .add (.bin .mul (.c (.int 7)) (.var 1)) (.c (.int 5)))),
  .ret (.lst [.ite (.cmp .ge (.var 2) (.bin .pow (.c (.int 10)) (.c (.int 18)))) (.var 2) (.c (.int 0)), .bin .mod (.blt .int [.var 2]) (.c (.int 2147483647)), .c (.int 0)])]
abbrev s_l_source : Stmt := top 18
theorem ck_l_source : ckL (ckS N_l_source 24 ⟨L2.defScope s_l_source, fun _ => true⟩) (L2.defBody s_l_source) B_l_source = true := by decide +kernel
theorem sc_l_source : L2.FnScope N_l_source ["_law_script", "_law_place"] (L2.defScope s_l_source) := ⟨rfl, rfl, rfl, by decide +kernel, rfl, by decide +kernel, by decide +kernel⟩
def N_l_draw : List Str := ["_law_draws", "_law_many", "_law_found"]
def B_l_draw : List S := [
  .ite (.cmp .gt (.oidx 0 (.c (.int 0))) (.c (.int 0))) [.set 2 (.bin .mod (.blt .int [.oidx 0 (.c (.int 0))]) (.var 1)), .put 0 (.c (.int 0)) (.bin .fdiv (.oidx 0 (.c (.int 0))) (.var 1)), .ret (.var 2)] [],
  .put 0 (.c (.int 2)) (.bin .add (.oidx 0 (.c (.int 2))) (.c (.int 1))),
  .put 0 (.c (.int 1)) (.bin .mod (.blt .int [.bin .add (.bin .add (.bin .mul (.oidx 0 (.c (.int 1))) (.c (.int 48271))) (.bin .mul (.oidx 0 (.c (.int 2))) (.c (.int 7919)))) (.c (.int 12345))]) (.c (.int 2147483647))),
  .ret (.bin .mod (.blt .int [.bin .add (.bin .fdiv (.oidx 0 (.c (.int 1))) (.c (.int 65536))) (.oidx 0 (.c (.int 1)))]) (.var 1))]
abbrev s_l_draw : Stmt := top 19
theorem ck_l_draw : ckL (ckS N_l_draw 24 ⟨L2.defScope s_l_draw, fun _ => true⟩) (L2.defBody s_l_draw) B_l_draw = true := by decide +kernel
theorem sc_l_draw : L2.FnScope N_l_draw ["_law_draws", "_law_many"] (L2.defScope s_l_draw) := ⟨rfl, rfl, rfl, by decide +kernel, rfl, by decide +kernel, by decide +kernel⟩
def N_l_pick : List Str := ["_law_draws", "_law_xs"]
def B_l_pick : List S := [
  .ret (.idx (.var 1) (.call "_law_draw" [.io 0, .v (.blt .len [.var 1])]))]
abbrev s_l_pick : Stmt := top 20
theorem ck_l_pick : ckL (ckS N_l_pick 24 ⟨L2.defScope s_l_pick, fun _ => true⟩) (L2.defBody s_l_pick) B_l_pick = true := by decide +kernel
theorem sc_l_pick : L2.FnScope N_l_pick ["_law_draws", "_law_xs"] (L2.defScope s_l_pick) := ⟨rfl, rfl, rfl, by decide +kernel, rfl, by decide +kernel, by decide +kernel⟩
def N_l_same : List Str := ["_law_found", "_law_due", "_law_one", "_law_other"]
def B_l_same : List S := [
  .ite (.isi (.var 1) ["list", "tuple"]) [.ite (.or (.cmp .ne (.isi (.var 0) ["list"]) (.isi (.var 1) ["list"])) [.cmp .ne (.isi (.var 0) ["tuple"]) (.isi (.var 1) ["tuple"])]) [.ret (.c (.bl false))] [], .ret (.and (.cmp .eq (.blt .len [.var 0]) (.blt .len [.var 1])) [.blt .all [.lc [2, 3] (.tp [(.nm 2), (.nm 3)]) (.zip (.var 0) (.var 1)) none (.call "_law_same" [.v (.var 2), .v (.var 3)])]])] [],
  .ite (.isi (.var 1) ["bool", "int"]) [.ret (.and (.isi (.var 0) ["int"]) [.cmp .eq (.isi (.var 0) ["bool"]) (.isi (.var 1) ["bool"]), .cmp .eq (.var 0) (.var 1)])] [],
  .ret (.and (.not (.isi (.var 0) ["bool", "int", "list", "tuple"])) [.cmp .eq (.var 0) (.var 1)])]
abbrev s_l_same : Stmt := top 21
theorem ck_l_same : ckL (ckS N_l_same 24 ⟨L2.defScope s_l_same, fun _ => true⟩) (L2.defBody s_l_same) B_l_same = true := by decide +kernel
theorem sc_l_same : L2.FnScope N_l_same ["_law_found", "_law_due"] (L2.defScope s_l_same) := ⟨rfl, rfl, rfl, by decide +kernel, rfl, by decide +kernel, by decide +kernel⟩
def N_l_clamp : List Str := ["_law_draws", "_law_far", "_law_ends", "_law_way", "_law_steps", "_law_step", "_law_low", "_law_high"]
def B_l_clamp : List S := [
  .set 2 (.blt .sorted [.lst [.bin .sub (.call "_law_draw" [.io 0, .v (.c (.int 21))]) (.c (.int 10)), .bin .sub (.call "_law_draw" [.io 0, .v (.c (.int 21))]) (.c (.int 10))]]),
  .fz 2,
  .par [3, 4] [.call "_law_draw" [.io 0, .v (.c (.int 6))], .lst [.c (.int 0), .c (.int 1), .neg (.c (.int 1)), .bin .sub (.call "_law_draw" [.io 0, .v (.c (.int 19))]) (.c (.int 9)), .bin .sub (.call "_law_draw" [.io 0, .v (.c (.int 19))]) (.c (.int 9))]],
  .fz 4,
  .set 5 (.call "_law_pick" [.io 0, .v (.bin .add (.var 4) (.bin .mul (.lst [.bin .pow (.c (.int 10)) (.c (.int 11)), .bin .sub (.c (.int 0)) (.bin .pow (.c (.int 10)) (.c (.int 11)))]) (.blt .int [.var 1])))]),
  .par [6, 7] [.ite (.cmp .inn (.var 3) (.tup [.c (.int 0), .c (.int 1)])) (.c .non) (.idx (.var 2) (.c (.int 0))), .ite (.cmp .inn (.var 3) (.tup [.c (.int 0), .c (.int 2)])) (.c .non) (.idx (.var 2) (.c (.int 1)))],
  .ret (.tup [.var 6, .var 5, .ite (.cmp .eq (.var 3) (.c (.int 5))) (.var 6) (.var 7)])]
abbrev s_l_clamp : Stmt := top 22
theorem ck_l_clamp : ckL (ckS N_l_clamp 24 ⟨L2.defScope s_l_clamp, fun _ => true⟩) (L2.defBody s_l_clamp) B_l_clamp = true := by decide +kernel
theorem sc_l_clamp : L2.FnScope N_l_clamp ["_law_draws", "_law_far"] (L2.defScope s_l_clamp) := ⟨rfl, rfl, rfl, by decide +kernel, rfl, by decide +kernel, by decide +kernel⟩
def N_l_clamped : List Str := ["_law_clamp_here", "_law_x", "_law_low", "_law_step", "_law_high"]
def B_l_clamped : List S := [
  .asg (.tp [(.nm 2), (.nm 3), (.nm 4)]) (.var 0),
  .ite (.and (.cmp .isn (.var 2) (.c .non)) [.cmp .lt (.bin .add (.var 1) (.var 3)) (.var 2)]) [.ret (.ite (.cmp .is (.var 4) (.c .non)) (.var 2) (.blt .min [.var 2, .var 4]))] [],
  .ret (.ite (.cmp .is (.var 4) (.c .non)) (.bin .add (.var 1) (.var 3)) (.blt .min [.bin .add (.var 1) (.var 3), .var 4]))]
abbrev s_l_clamped : Stmt := top 23
theorem ck_l_clamped : ckL (ckS N_l_clamped 24 ⟨L2.defScope s_l_clamped, fun _ => true⟩) (L2.defBody s_l_clamped) B_l_clamped = true := by decide +kernel
theorem sc_l_clamped : L2.FnScope N_l_clamped ["_law_clamp_here", "_law_x"] (L2.defScope s_l_clamped) := ⟨rfl, rfl, rfl, by decide +kernel, rfl, by decide +kernel, by decide +kernel⟩
def N_l_is_form : List Str := ["_law_thing", "_law_part", "_law_low", "_law_step", "_law_high"]
def B_l_is_form : List S := [
  .ite (.or (.not (.isi (.var 0) ["tuple"])) [.cmp .ne (.blt .len [.var 0]) (.c (.int 3))]) [.ret (.c (.bl false))] [],
  .ite (.blt .any [.lc [1] (.nm 1) (.seq (.var 0)) none (.and (.cmp .isn (.var 1) (.c .non)) [.or (.isi (.var 1) ["bool"]) [.not (.isi (.var 1) ["int"])]])]) [.ret (.c (.bl false))] [],
  .asg (.tp [(.nm 2), (.nm 3), (.nm 4)]) (.var 0),
  .ite (.or (.cmp .is (.var 3) (.c .non)) [.and (.cmp .isn (.var 2) (.c .non)) [.cmp .isn (.var 4) (.c .non), .cmp .gt (.var 2) (.var 4)]]) [.ret (.c (.bl false))] [],
  .ret (.or (.cmp .is (.var 2) (.c .non)) [.cmp .ne (.var 2) (.var 4), .cmp .eq (.var 3) (.c (.int 0))])]
abbrev s_l_is_form : Stmt := top 24
theorem ck_l_is_form : ckL (ckS N_l_is_form 24 ⟨L2.defScope s_l_is_form, fun _ => true⟩) (L2.defBody s_l_is_form) B_l_is_form = true := by decide +kernel
theorem sc_l_is_form : L2.FnScope N_l_is_form ["_law_thing"] (L2.defScope s_l_is_form) := ⟨rfl, rfl, rfl, by decide +kernel, rfl, by decide +kernel, by decide +kernel⟩
def N_l_near : List Str := ["_law_draws", "_law_clamp_here", "_law_low", "_law_step", "_law_high", "_law_way"]
def B_l_near : List S := [
  .asg (.tp [(.nm 2), (.nm 3), (.nm 4)]) (.var 1),
  .par [5, 3] [.call "_law_draw" [.io 0, .v (.c (.int 5))], .bin .add (.var 3) (.call "_law_pick" [.io 0, .v (.lst [.c (.int 0), .c (.int 0), .c (.int 1), .neg (.c (.int 2))])])],
  .ite (.cmp .eq (.var 5) (.c (.int 0))) [.set 2 (.ite (.cmp .is (.var 2) (.c .non)) (.c .non) (.bin .sub (.var 2) (.c (.int 1))))] [],
  .ite (.cmp .eq (.var 5) (.c (.int 1))) [.set 4 (.ite (.cmp .is (.var 4) (.c .non)) (.c .non) (.bin .add (.var 4) (.c (.int 1))))] [],
  .ite (.cmp .eq (.var 5) (.c (.int 2))) [.ret (.tup [.var 4, .var 3, .var 4])] [],
  .ret (.ite (.cmp .lt (.var 5) (.c (.int 4))) (.tup [.var 2, .var 3, .var 4]) (.tup [.var 2, .var 3, .c .non]))]
abbrev s_l_near : Stmt := top 25
theorem ck_l_near : ckL (ckS N_l_near 24 ⟨L2.defScope s_l_near, fun _ => true⟩) (L2.defBody s_l_near) B_l_near = true := by decide +kernel
theorem sc_l_near : L2.FnScope N_l_near ["_law_draws", "_law_clamp_here"] (L2.defScope s_l_near) := ⟨rfl, rfl, rfl, by decide +kernel, rfl, by decide +kernel, by decide +kernel⟩
def N_law : List Str := ["_law_script", "_law_turn", "_law_draws", "_law_one", "_law_other", "_law_span", "_law_clamp_here", "_law_form", "_law_x", "_law_due", "_law_clamps", "_law_k", "_law_at", "_law_whole", "_law_parts"]
def B_law : List S := [
  .for_ (.nm 1) (.rng [.bin .add (.c (.int 4)) (.blt .min [.olen 0, .c (.int 4)])]) [.set 2 (.call "_law_source" [.io 0, .v (.var 1)]), .set 3 (.call "_law_clamp" [.io 2, .v (.c (.bl false))]), .set 4 (.ite (.cmp .gt (.call "_law_draw" [.io 2, .v (.c (.int 3))]) (.c (.int 0))) (.call "_law_near" [.io 2, .v (.var 3)]) (.call "_law_clamp" [.io 2, .v (.c (.bl false))])), .set 5 (.lrng [.neg (.c (.int 45)), .c (.int 46)]), .fz 5, .for_ (.nm 6) (.seq (.tup [.var 3, .var 4])) [.set 7 (.call "formed" [.v (.call "_law_pick" [.io 2, .v (.lst [.var 6, .blt .list [.var 6]])])]), .ite (.or (.not (.call "_law_is_form" [.v (.var 7)])) [.not (.call "_law_same" [.v (.call "formed" [.v (.var 7)]), .v (.var 7)]), .not (.call "_law_same" [.v (.call "joined" [.v (.lst [.var 6])]), .v (.var 7)])]) [.ret (.c (.bl false))] [], .ite (.not (.blt .all [.lc [8] (.nm 8) (.seq (.var 5)) none (.cmp .eq (.call "_law_clamped" [.v (.var 7), .v (.var 8)]) (.call "_law_clamped" [.v (.var 6), .v (.var 8)]))])) [.ret (.c (.bl false))] []], .set 9 (.blt .all [.lc [8] (.nm 8) (.seq (.var 5)) none (.cmp .eq (.call "_law_clamped" [.v (.var 3), .v (.var 8)]) (.call "_law_clamped" [.v (.var 4), .v (.var 8)]))]), .ite (.cmp .ne (.cmp .eq (.call "formed" [.v (.var 3)]) (.call "formed" [.v (.var 4)])) (.var 9)) [.ret (.c (.bl false))] [], .set 10 (.lc [11] (.nm 11) (.rng [.call "_law_draw" [.io 2, .v (.c (.int 6))]]) none (.call "_law_clamp" [.io 2, .v (.c (.bl false))])), .fz 10, .set 12 (.call "_law_draw" [.io 2, .v (.bin .add (.blt .len [.var 10]) (.c (.int 1)))]), .par [13, 14] [.call "joined" [.v (.var 10)], .lst [.call "joined" [.v (.slc (.var 10) none (some (.var 12)))], .call "joined" [.v (.slc (.var 10) (some (.var 12)) none)]]], .fz 14, .ite (.not (.call "_law_same" [.v (.lst [.call "joined" [.v (.var 14)], .call "joined" [.v (.bin .add (.bin .add (.slc (.var 10) none (some (.var 12))) (.lst [.tup [.c .non, .c (.int 0), .c .non]])) (.slc (.var 10) (some (.var 12)) none))]]), .v (.lst [.var 13, .var 13])])) [.ret (.c (.bl false))] []],
  .ret (.c (.bl true))]
abbrev s_law : Stmt := top 26
theorem ck_law : ckL (ckS N_law 24 ⟨L2.defScope s_law, fun _ => true⟩) (L2.defBody s_law) B_law = true := by decide +kernel
theorem sc_law : L2.FnScope N_law ["_law_script"] (L2.defScope s_law) := ⟨rfl, rfl, rfl, by decide +kernel, rfl, by decide +kernel, by decide +kernel⟩
end K

set_option Elab.async false
set_option linter.all false
set_option maxRecDepth 100000
set_option maxHeartbeats 4000000
namespace K
open PySem R
/-! ### the package's clamps -/
abbrev C := Option Int × Int × Option Int
def oE : Option Int → D
  | none => .non
  | some i => .int i
/-- a clamp as a tuple, or as a list -/
def mk (b : Bool) (c : C) : D := if b then .tup [oE c.1, .int c.2.1, oE c.2.2] else .lst [oE c.1, .int c.2.1, oE c.2.2]
def okC (c : C) : Bool := match c.1, c.2.2 with | some l, some h => decide (l ≤ h) | _, _ => true
def madeI (c : C) (x : Int) : Int :=
  let f := x + c.2.1
  let f := match c.1 with | some l => if f < l then l else f | none => f
  match c.2.2 with | some h => if h < f then h else f | none => f
def formI (c : C) : C := match c.1, c.2.2 with
  | some l, some h => if l = h then (some l, 0, some h) else c
  | _, _ => c
def isInt : D → Bool
  | .int _ => true
  | _ => false
def F_is_integer : Fn
  | [(.sh, d)] => (match d with | .ins _ _ => none | _ => some (.sh, .bl (isInt d), []))
  | _ => none
def isSeq : D → Bool
  | .lst _ => true
  | .tup _ => true
  | _ => false
def F_is_list : Fn
  | [(.sh, d)] => (match d with | .ins _ _ => none | _ => some (.sh, .bl (isSeq d), []))
  | _ => none
def F_is_end : Fn
  | [(.sh, .non)] => some (.sh, .bl true, [])
  | [(.sh, .int _)] => some (.sh, .bl true, [])
  | _ => none
/-- what reads as a clamp -/
def asC : D → Option C
  | .tup [.non, .int s, .non] => some (none, s, none)
  | .tup [.int l, .int s, .non] => some (some l, s, none)
  | .tup [.non, .int s, .int h] => some (none, s, some h)
  | .tup [.int l, .int s, .int h] => some (some l, s, some h)
  | .lst [.non, .int s, .non] => some (none, s, none)
  | .lst [.int l, .int s, .non] => some (some l, s, none)
  | .lst [.non, .int s, .int h] => some (none, s, some h)
  | .lst [.int l, .int s, .int h] => some (some l, s, some h)
  | _ => none
theorem asC_mk {d : D} {c : C} (h : asC d = some c) : ∃ b, d = mk b c := by
  unfold asC at h
  split at h <;> first | (cases h; first | exact ⟨true, rfl⟩ | exact ⟨false, rfl⟩) | cases h
theorem mk_asC (b : Bool) (c : C) : asC (mk b c) = some c := by
  obtain ⟨l, s, h⟩ := c
  cases b <;> cases l <;> cases h <;> rfl
def F_is_clamp : Fn
  | [(.sh, d)] => (match asC d with | some c => if okC c then some (.sh, .bl true, []) else none | none => none)
  | _ => none
def F_check_clamp : Fn
  | [(.sh, d)] => (match asC d with | some c => if okC c then some (.sh, .non, []) else none | none => none)
  | _ => none
def F_check_number : Fn
  | [(.sh, .int _)] => some (.sh, .non, [])
  | _ => none
def F_made : Fn
  | [(.sh, d), (.sh, .int x)] => (match asC d with | some c => some (.sh, .int (madeI c x), []) | none => none)
  | _ => none
def F_form_of : Fn
  | [(.sh, d)] => (match asC d with | some c => some (.sh, mk true (formI c), []) | none => none)
  | _ => none
def F_clamped : Fn
  | [(.sh, d), (.sh, .int x)] => (match asC d with | some c => if okC c then some (.sh, .int (madeI c x), []) else none | none => none)
  | _ => none
/-- shown: none for None -/
def shownI (c : C) (x : Int) : Option (Option Int × Option Int) :=
  let f := formI c
  if madeI c (x - f.2.1) = x then some (if f.1 = some x then none else some (x - f.2.1), if f.2.2 = some x then none else some (x - f.2.1)) else none
def oP : Option (Option Int × Option Int) → D
  | none => .non
  | some p => .tup [oE p.1, oE p.2]
def F_shown : Fn
  | [(.sh, d), (.sh, .int x)] => (match asC d with | some c => if okC c then some (.sh, oP (shownI c x), []) else none | none => none)
  | _ => none
theorem r_is_integer (Φ : Tab) : ∀ q r, F_is_integer q = some r → q.length = 1 ∧ R.run Φ 24 N_is_integer.length B_is_integer q = some r := by
  intro q r h
  match q, h with
  | [(.sh, d)], h =>
    refine ⟨rfl, ?_⟩
    cases d <;> first | (cases h; done) | (cases h; rfl)
theorem r_is_list (Φ : Tab) : ∀ q r, F_is_list q = some r → q.length = 1 ∧ R.run Φ 24 N_is_list.length B_is_list q = some r := by
  intro q r h
  match q, h with
  | [(.sh, d)], h =>
    refine ⟨rfl, ?_⟩
    cases d <;> first | (cases h; done) | (cases h; rfl)
theorem r_is_end (Φ : Tab) (h1 : Φ.fn "is_integer" = some F_is_integer) : ∀ q r, F_is_end q = some r → q.length = 1 ∧ R.run Φ 24 N_is_end.length B_is_end q = some r := by
  intro q r h
  match q, h with
  | [(.sh, .non)], h => cases h; exact ⟨rfl, rfl⟩
  | [(.sh, .int i)], h => cases h; refine ⟨rfl, ?_⟩; simp [R.run, R.start, ebs, lev, stepS, stepE, evv, evs, evss, evt, evAnd, evOr, evas, evo, evc, params, back, ioOf, setIo, setN, setNs, asgT, asgTs, R.bin, R.cmp, R.idx, R.slc, getAt, L2.atI, L2.ixN, isNon, outs, leaf, R.blt, mostLen, isiOne, tyOf, intsOf, boolsOf, N_is_end, B_is_end, h1, F_is_integer, isInt]
theorem r_is_clamp (Φ : Tab) (h1 : Φ.fn "is_integer" = some F_is_integer) (h2 : Φ.fn "is_list" = some F_is_list) (h3 : Φ.fn "is_end" = some F_is_end) : ∀ q r, F_is_clamp q = some r → q.length = 1 ∧ R.run Φ 24 N_is_clamp.length B_is_clamp q = some r := by
  intro q r h
  match q, h with
  | [(.sh, d)], h =>
    refine ⟨rfl, ?_⟩
    simp only [F_is_clamp] at h
    split at h
    · rename_i c hc
      split at h
      · rename_i ok
        cases h
        obtain ⟨b, rfl⟩ := asC_mk hc
        obtain ⟨l, s, hh⟩ := c
        cases b <;> cases l <;> cases hh <;> simp [R.run, R.start, ebs, lev, stepS, stepE, evv, evs, evss, evt, evAnd, evOr, evas, evo, evc, params, back, ioOf, setIo, setN, setNs, asgT, asgTs, R.bin, R.cmp, R.idx, R.slc, getAt, L2.atI, L2.ixN, isNon, outs, leaf, R.blt, mostLen, isiOne, tyOf, intsOf, boolsOf, N_is_clamp, B_is_clamp, mk, oE, h1, h2, h3, F_is_integer, F_is_list, F_is_end, isInt, isSeq, eqq, D.wf, D.pl, D.py, eqd, PyData.eqv, SeqAt.shaped, PyData.canLay0, PyData.depth] <;> simpa [okC] using ok
      · cases h
    · cases h
end K

set_option Elab.async false
set_option linter.all false
set_option maxRecDepth 100000
set_option maxHeartbeats 4000000
namespace K
open PySem R
theorem lev_s (Φ : Tab) (n : Nat) (st : S) (v : Ev) : (lev Φ (n + 1)).s st v = stepS (lev Φ n).e (lev Φ n).s st v := rfl
theorem lev_e (Φ : Tab) (n : Nat) (e : E) (v : Ev) : (lev Φ (n + 1)).e e v = stepE Φ (lev Φ n).e e v := rfl
def fr : Slot → Bool
  | .no => true
  | .at false _ _ => true
  | _ => false
theorem setN_eq {v : Ev} {i : Nat} {s : Sh} {d : D} (h : (v[i]?.map fr) = some true) : setN v i s d = some (v.set i (.at false s d)) := by
  unfold setN
  cases hv : v[i]? with
  | none => rw [hv] at h; cases h
  | some x =>
    rw [hv] at h
    cases x with
    | no => rfl
    | «at» io s' d' => cases io with
      | false => rfl
      | true => cases h
/-! ### staged evaluation -/
theorem ebs_nx {LSt : LS} {s : S} {r : List S} {v v' : Ev} {o : Option Out} (h : LSt s v = some (.nx v')) (h2 : ebs LSt r v' = o) : ebs LSt (s :: r) v = o := by simp [ebs, h, h2]
theorem ebs_rt {LSt : LS} {s : S} {r : List S} {v v' : Ev} {sh : Sh} {d : D} (h : LSt s v = some (.rt sh d v')) : ebs LSt (s :: r) v = some (.rt sh d v') := by simp [ebs, h]
theorem run_rt {Φ : Tab} {k n : Nat} {B : List S} {ps : List (Sh × D)} {v' : Ev} {s : Sh} {d : D} {ds : List D} (h : ebs (lev Φ k).s B (start n ps) = some (.rt s d v')) (ho : outs ps v' = some ds) : R.run Φ k n B ps = some (s, d, ds) := by simp [R.run, h, ho]
theorem eqd_ii (a b : Int) : eqd (.int a) (.int b) = decide (a = b) := by
  by_cases h : a = b <;> simp [eqd, D.py, PyData.eqv, h]
theorem c_eq (a b : Int) : R.cmp .eq (.int a) (.int b) = some (decide (a = b)) := by
  simp [R.cmp, eqq, D.wf, D.pl, D.py, SeqAt.shaped, PyData.canLay0, PyData.depth, eqd_ii]
theorem c_ne (a b : Int) : R.cmp .ne (.int a) (.int b) = some (decide (a ≠ b)) := by
  by_cases h : a = b <;> simp [R.cmp, eqq, D.wf, D.pl, D.py, SeqAt.shaped, PyData.canLay0, PyData.depth, eqd_ii, h]
theorem c_lt (a b : Int) : R.cmp .lt (.int a) (.int b) = some (decide (a < b)) := rfl
theorem c_le (a b : Int) : R.cmp .le (.int a) (.int b) = some (decide (a ≤ b)) := rfl
theorem c_gt (a b : Int) : R.cmp .gt (.int a) (.int b) = some (decide (b < a)) := rfl
theorem c_ge (a b : Int) : R.cmp .ge (.int a) (.int b) = some (decide (b ≤ a)) := rfl
theorem c_is (a : D) : R.cmp .is a .non = some (isNon a) := by cases a <;> rfl
theorem c_isn (a : D) : R.cmp .isn a .non = some (!isNon a) := by cases a <;> rfl
theorem c_eqo (x : Int) (l : Option Int) : R.cmp .eq (.int x) (oE l) = some (decide (l = some x)) := by
  cases l with
  | none => simp [oE, R.cmp, eqq, D.wf, D.pl, D.py, SeqAt.shaped, PyData.canLay0, PyData.depth, eqd, PyData.eqv]
  | some l => simp [oE, c_eq, eq_comm]
theorem c_eqN (x : Int) : R.cmp .eq (.int x) .non = some false := by
  simp [R.cmp, eqq, D.wf, D.pl, D.py, SeqAt.shaped, PyData.canLay0, PyData.depth, eqd, PyData.eqv]
theorem oE_none : oE none = .non := rfl
theorem oE_some (i : Int) : oE (some i) = .int i := rfl
theorem isNon_oE (l : Option Int) : isNon (oE l) = l.isNone := by cases l <;> rfl
theorem b_add (a b : Int) : R.bin .add (.int a) (.int b) = some (.sh, .int (a + b)) := rfl
theorem b_sub (a b : Int) : R.bin .sub (.int a) (.int b) = some (.sh, .int (a - b)) := rfl
/-! ### the package -/
theorem r_check_clamp (Φ : Tab) (h1 : Φ.fn "is_clamp" = some F_is_clamp) : ∀ q r, F_check_clamp q = some r → q.length = 1 ∧ R.run Φ 24 N_check_clamp.length B_check_clamp q = some r := by
  intro q r h
  match q, h with
  | [(.sh, d)], h =>
    refine ⟨rfl, ?_⟩
    simp only [F_check_clamp] at h
    split at h
    · rename_i c hc
      split at h
      · rename_i ok
        cases h
        simp [R.run, R.start, ebs, lev_s, lev_e, stepS, stepE, evv, evs, evss, evt, evAnd, evOr, evas, evo, evc, params, back, ioOf, setIo,  setNs, setN_eq, fr, asgT, asgTs, R.bin, R.cmp, R.idx, R.slc, getAt, L2.atI, L2.ixN, isNon, outs, leaf, R.blt, mostLen, isiOne, tyOf, intsOf, boolsOf, N_check_clamp, B_check_clamp, h1, F_is_clamp, hc, ok]
      · cases h
    · cases h
theorem r_made (Φ : Tab) : ∀ q r, F_made q = some r → q.length = 2 ∧ R.run Φ 24 N_made.length B_made q = some r := by
  intro q r h
  match q, h with
  | [(.sh, d), (.sh, .int x)], h =>
    refine ⟨rfl, ?_⟩
    simp only [F_made] at h
    split at h
    · rename_i c hc
      cases h
      obtain ⟨b, rfl⟩ := asC_mk hc
      obtain ⟨l, s, hh⟩ := c
      cases b <;> cases l with
      | none => cases hh with
        | none => simp [R.run, R.start, ebs, lev_s, lev_e, stepS, stepE, evv, evs, evss, evt, evAnd, evOr, evas, evo, evc, params, back, ioOf, setIo,  setNs, setN_eq, fr, asgT, asgTs, b_add, b_sub, c_eq, c_ne, c_lt, c_le, c_gt, c_ge, c_is, c_isn, c_eqo, isNon_oE, R.idx, R.slc, getAt, L2.atI, L2.ixN, isNon, outs, leaf, R.blt, mostLen, isiOne, tyOf, intsOf, boolsOf, R.run, N_made, B_made, mk, oE, madeI]
        | some hh =>
          by_cases p : hh < x + s <;> simp [R.run, R.start, ebs, lev_s, lev_e, stepS, stepE, evv, evs, evss, evt, evAnd, evOr, evas, evo, evc, params, back, ioOf, setIo,  setNs, setN_eq, fr, asgT, asgTs, b_add, b_sub, c_eq, c_ne, c_lt, c_le, c_gt, c_ge, c_is, c_isn, c_eqo, isNon_oE, R.idx, R.slc, getAt, L2.atI, L2.ixN, isNon, outs, leaf, R.blt, mostLen, isiOne, tyOf, intsOf, boolsOf, R.run, N_made, B_made, mk, oE, madeI, p]
      | some l =>
        by_cases p : x + s < l
        · cases hh with
          | none => simp [R.run, R.start, ebs, lev_s, lev_e, stepS, stepE, evv, evs, evss, evt, evAnd, evOr, evas, evo, evc, params, back, ioOf, setIo,  setNs, setN_eq, fr, asgT, asgTs, b_add, b_sub, c_eq, c_ne, c_lt, c_le, c_gt, c_ge, c_is, c_isn, c_eqo, isNon_oE, R.idx, R.slc, getAt, L2.atI, L2.ixN, isNon, outs, leaf, R.blt, mostLen, isiOne, tyOf, intsOf, boolsOf, R.run, N_made, B_made, mk, oE, madeI, p]
          | some hh => by_cases p2 : hh < l <;> simp [R.run, R.start, ebs, lev_s, lev_e, stepS, stepE, evv, evs, evss, evt, evAnd, evOr, evas, evo, evc, params, back, ioOf, setIo,  setNs, setN_eq, fr, asgT, asgTs, b_add, b_sub, c_eq, c_ne, c_lt, c_le, c_gt, c_ge, c_is, c_isn, c_eqo, isNon_oE, R.idx, R.slc, getAt, L2.atI, L2.ixN, isNon, outs, leaf, R.blt, mostLen, isiOne, tyOf, intsOf, boolsOf, R.run, N_made, B_made, mk, oE, madeI, p, p2]
        · cases hh with
          | none => simp [R.run, R.start, ebs, lev_s, lev_e, stepS, stepE, evv, evs, evss, evt, evAnd, evOr, evas, evo, evc, params, back, ioOf, setIo,  setNs, setN_eq, fr, asgT, asgTs, b_add, b_sub, c_eq, c_ne, c_lt, c_le, c_gt, c_ge, c_is, c_isn, c_eqo, isNon_oE, R.idx, R.slc, getAt, L2.atI, L2.ixN, isNon, outs, leaf, R.blt, mostLen, isiOne, tyOf, intsOf, boolsOf, R.run, N_made, B_made, mk, oE, madeI, p]
          | some hh => by_cases p2 : hh < x + s <;> simp [R.run, R.start, ebs, lev_s, lev_e, stepS, stepE, evv, evs, evss, evt, evAnd, evOr, evas, evo, evc, params, back, ioOf, setIo,  setNs, setN_eq, fr, asgT, asgTs, b_add, b_sub, c_eq, c_ne, c_lt, c_le, c_gt, c_ge, c_is, c_isn, c_eqo, isNon_oE, R.idx, R.slc, getAt, L2.atI, L2.ixN, isNon, outs, leaf, R.blt, mostLen, isiOne, tyOf, intsOf, boolsOf, R.run, N_made, B_made, mk, oE, madeI, p, p2]
    · cases h
theorem r_form_of (Φ : Tab) : ∀ q r, F_form_of q = some r → q.length = 1 ∧ R.run Φ 24 N_form_of.length B_form_of q = some r := by
  intro q r h
  match q, h with
  | [(.sh, d)], h =>
    refine ⟨rfl, ?_⟩
    simp only [F_form_of] at h
    split at h
    · rename_i c hc
      cases h
      obtain ⟨b, rfl⟩ := asC_mk hc
      obtain ⟨l, s, hh⟩ := c
      have st : ∀ b : Bool, (lev Φ 24).s (.asg (.tp [(.nm 1), (.nm 2), (.nm 3)]) (.var 0)) (R.start 4 [(.sh, mk b (l, s, hh))]) = some (.nx [.at false .sh (mk b (l, s, hh)), .at false .sh (oE l), .at false .sh (.int s), .at false .sh (oE hh)]) := by
        intro b
        cases b <;> simp [R.run, R.start, ebs, lev_s, lev_e, stepS, stepE, evv, evs, evss, evt, evAnd, evOr, evas, evo, evc, params, back, ioOf, setIo,  setNs, setN_eq, fr, asgT, asgTs, b_add, b_sub, c_eq, c_ne, c_lt, c_le, c_gt, c_ge, c_is, c_isn, c_eqo, isNon_oE, R.idx, R.slc, getAt, L2.atI, L2.ixN, isNon, outs, leaf, R.blt, mostLen, isiOne, tyOf, intsOf, boolsOf, mk]
      cases l with
      | none =>
        apply run_rt
        · apply ebs_nx (st b)
          apply ebs_nx
          · simp [R.run, R.start, ebs, lev_s, lev_e, stepS, stepE, evv, evs, evss, evt, evAnd, evOr, evas, evo, evc, params, back, ioOf, setIo,  setNs, setN_eq, fr, asgT, asgTs, b_add, b_sub, c_eq, c_ne, c_lt, c_le, c_gt, c_ge, c_is, c_isn, c_eqo, isNon_oE, R.idx, R.slc, getAt, L2.atI, L2.ixN, isNon, outs, leaf, R.blt, mostLen, isiOne, tyOf, intsOf, boolsOf, oE_none, oE_some]; rfl
          apply ebs_rt
          simp [R.run, R.start, ebs, lev_s, lev_e, stepS, stepE, evv, evs, evss, evt, evAnd, evOr, evas, evo, evc, params, back, ioOf, setIo,  setNs, setN_eq, fr, asgT, asgTs, b_add, b_sub, c_eq, c_ne, c_lt, c_le, c_gt, c_ge, c_is, c_isn, c_eqo, isNon_oE, R.idx, R.slc, getAt, L2.atI, L2.ixN, isNon, outs, leaf, R.blt, mostLen, isiOne, tyOf, intsOf, boolsOf, mk, formI, oE_none]; rfl
        · rfl
      | some l =>
        by_cases p : hh = some l
        · apply run_rt
          · apply ebs_nx (st b)
            apply ebs_rt
            subst p
            simp [R.run, R.start, ebs, lev_s, lev_e, stepS, stepE, evv, evs, evss, evt, evAnd, evOr, evas, evo, evc, params, back, ioOf, setIo,  setNs, setN_eq, fr, asgT, asgTs, b_add, b_sub, c_eq, c_ne, c_lt, c_le, c_gt, c_ge, c_is, c_isn, c_eqo, isNon_oE, R.idx, R.slc, getAt, L2.atI, L2.ixN, isNon, outs, leaf, R.blt, mostLen, isiOne, tyOf, intsOf, boolsOf, oE_none, oE_some, mk, formI]; rfl
          · rfl
        · apply run_rt
          · apply ebs_nx (st b)
            apply ebs_nx
            · simp [R.run, R.start, ebs, lev_s, lev_e, stepS, stepE, evv, evs, evss, evt, evAnd, evOr, evas, evo, evc, params, back, ioOf, setIo,  setNs, setN_eq, fr, asgT, asgTs, b_add, b_sub, c_eq, c_ne, c_lt, c_le, c_gt, c_ge, c_is, c_isn, c_eqo, isNon_oE, R.idx, R.slc, getAt, L2.atI, L2.ixN, isNon, outs, leaf, R.blt, mostLen, isiOne, tyOf, intsOf, boolsOf, oE_some, p]; rfl
            apply ebs_rt
            have e : formI (some l, s, hh) = (some l, s, hh) := by
              cases hh with
              | none => rfl
              | some h => simp [formI]; intro e; exact absurd (congrArg some e.symm) p
            simp [R.run, R.start, ebs, lev_s, lev_e, stepS, stepE, evv, evs, evss, evt, evAnd, evOr, evas, evo, evc, params, back, ioOf, setIo,  setNs, setN_eq, fr, asgT, asgTs, b_add, b_sub, c_eq, c_ne, c_lt, c_le, c_gt, c_ge, c_is, c_isn, c_eqo, isNon_oE, R.idx, R.slc, getAt, L2.atI, L2.ixN, isNon, outs, leaf, R.blt, mostLen, isiOne, tyOf, intsOf, boolsOf, mk, e, oE_some]; rfl
          · rfl
    · cases h
end K

set_option Elab.async false
set_option linter.all false
set_option maxRecDepth 100000
set_option maxHeartbeats 4000000
namespace K
open PySem R
/-! ### plain law -/
theorem shown_s (l h : Option Int) (s m x : Int) (ok : okC (l, s, h) = true) : shownI (l, s + m, h) x = (shownI (l, s, h) x).map (fun p => (p.1.map (· - m), p.2.map (· - m))) := by
  have e : x - (s + m) = x - s - m := by omega
  have e2 : x - (s + m) + (s + m) = x - s + s := by omega
  cases l with
  | none => cases h with
    | none => simp [shownI, formI, madeI]; omega
    | some h =>
      by_cases p : h < x
      · have q : ¬ h = x := by omega
        simp [shownI, formI, madeI, p, q]
      · by_cases q : h = x <;> simp [shownI, formI, madeI, p, q] <;> omega
  | some l => cases h with
    | none =>
      by_cases p : x < l
      · have q : ¬ l = x := by omega
        simp [shownI, formI, madeI, p, q]
      · by_cases q : l = x <;> simp [shownI, formI, madeI, p, q] <;> omega
    | some h =>
      have ok' : l ≤ h := by simpa [okC] using ok
      by_cases z : l = h
      · subst z
        by_cases q : l = x
        · subst q
          simp only [shownI, formI, madeI, if_true]
          have e1 : (if l < (if l - 0 + s < l then l else l - 0 + s) then l else (if l - 0 + s < l then l else l - 0 + s)) = l := by split <;> split <;> omega
          have e2 : (if l < (if l - 0 + (s + m) < l then l else l - 0 + (s + m)) then l else (if l - 0 + (s + m) < l then l else l - 0 + (s + m))) = l := by split <;> split <;> omega
          rw [e1, e2]
          simp
        · simp only [shownI, formI, madeI, if_true]
          have e1 : ¬ (if l < (if x - 0 + s < l then l else x - 0 + s) then l else (if x - 0 + s < l then l else x - 0 + s)) = x := by split <;> split <;> omega
          have e2 : ¬ (if l < (if x - 0 + (s + m) < l then l else x - 0 + (s + m)) then l else (if x - 0 + (s + m) < l then l else x - 0 + (s + m))) = x := by split <;> split <;> omega
          rw [if_neg e1, if_neg e2]; rfl
      · by_cases p : x < l
        · have p2 : ¬ h < l := by omega
          have q : ¬ l = x := by omega
          simp [shownI, formI, madeI, p, p2, z, q]
        · by_cases p2 : h < x
          · have q : ¬ h = x := by omega
            simp [shownI, formI, madeI, p, p2, z, q]
          · by_cases q1 : l = x
            · have q : ¬ h = x := by omega
              have q' : ¬ x = h := by omega
              simp [shownI, formI, madeI, p, p2, q, q', q1, z] <;> omega
            · by_cases q : h = x
              · simp [shownI, formI, madeI, p, p2, q, q1] <;> omega
              · simp [shownI, formI, madeI, p, p2, q, q1, z] <;> omega
theorem shown_e (l h : Option Int) (s m x : Int) (ok : okC (l, s, h) = true) : shownI (l.map (· + m), s, h.map (· + m)) (x + m) = (shownI (l, s, h) x).map (fun p => (p.1.map (· + m), p.2.map (· + m))) := by
  have e : x + m - s = x - s + m := by omega
  cases l with
  | none => cases h with
    | none => simp [shownI, formI, madeI]; omega
    | some h =>
      by_cases p : h < x
      · have q : ¬ h = x := by omega
        simp [shownI, formI, madeI, p, q]
      · by_cases q : h = x <;> simp [shownI, formI, madeI, p, q] <;> omega
  | some l => cases h with
    | none =>
      by_cases p : x < l
      · have q : ¬ l = x := by omega
        simp [shownI, formI, madeI, p, q]
      · by_cases q : l = x <;> simp [shownI, formI, madeI, p, q] <;> omega
    | some h =>
      have ok' : l ≤ h := by simpa [okC] using ok
      by_cases z : l = h
      · subst z
        by_cases q : l = x
        · subst q
          simp only [shownI, formI, madeI, if_true, Option.map]
          have e1 : (if l < (if l - 0 + s < l then l else l - 0 + s) then l else (if l - 0 + s < l then l else l - 0 + s)) = l := by split <;> split <;> omega
          have e2 : (if l + m < (if l + m - 0 + s < l + m then l + m else l + m - 0 + s) then l + m else (if l + m - 0 + s < l + m then l + m else l + m - 0 + s)) = l + m := by split <;> split <;> omega
          rw [e1, e2]
          simp
        · simp only [shownI, formI, madeI, if_true, Option.map]
          have e1 : ¬ (if l < (if x - 0 + s < l then l else x - 0 + s) then l else (if x - 0 + s < l then l else x - 0 + s)) = x := by split <;> split <;> omega
          have e2 : ¬ (if l + m < (if x + m - 0 + s < l + m then l + m else x + m - 0 + s) then l + m else (if x + m - 0 + s < l + m then l + m else x + m - 0 + s)) = x + m := by split <;> split <;> omega
          rw [if_neg e1, if_neg e2]
      · have z2 : ¬ l + m = h + m := by omega
        by_cases p : x < l
        · have p2 : ¬ h < l := by omega
          have q : ¬ l = x := by omega
          simp [shownI, formI, madeI, p, p2, z, q]
        · by_cases p2 : h < x
          · have q : ¬ h = x := by omega
            simp [shownI, formI, madeI, p, p2, z, q]
          · by_cases q1 : l = x
            · have q : ¬ h = x := by omega
              have q' : ¬ x = h := by omega
              simp [shownI, formI, madeI, p, p2, q, q', q1, z] <;> omega
            · by_cases q : h = x
              · simp [shownI, formI, madeI, p, p2, q, q1] <;> omega
              · simp [shownI, formI, madeI, p, p2, q, q1, z] <;> omega
/-- an end that is shown is a way to the number -/
theorem shown_made {c : C} {x : Int} {a b : Option Int} (h : shownI c x = some (a, b)) : (∀ n, a = some n → madeI c n = x) ∧ (∀ n, b = some n → madeI c n = x) := by
  simp only [shownI] at h
  split at h
  · rename_i e
    injection h with h
    injection h with h1 h2
    constructor
    · intro n hn
      rw [← h1] at hn
      split at hn
      · cases hn
      · injection hn with hn; rw [← hn]; exact e
    · intro n hn
      rw [← h2] at hn
      split at hn
      · cases hn
      · injection hn with hn; rw [← hn]; exact e
  · cases h
/-- what is made is shown -/
theorem made_shown {c : C} (ok : okC c = true) (n : Int) : shownI c (madeI c n) ≠ none := by
  have e : madeI c (madeI c n - (formI c).2.1) = madeI c n := by
    obtain ⟨l, s, h⟩ := c
    cases l with
    | none => cases h with
      | none => simp [formI, madeI]
      | some h => simp only [formI, madeI]; (repeat' split) <;> omega
    | some l => cases h with
      | none => simp only [formI, madeI]; (repeat' split) <;> omega
      | some h =>
        have ok' : l ≤ h := by simpa [okC] using ok
        by_cases z : l = h
        · subst z; simp only [formI, madeI, if_true]; (repeat' split) <;> omega
        · simp only [formI, madeI, z, if_false]; (repeat' split) <;> omega
  simp [shownI, e]
/-! the interval of the ways -/
def lcI (c : C) (x : Int) : Int :=
  match c.1 with
  | some l => if x + c.2.1 < l then (match c.2.2 with | none => l | some h => if h < l then h else l) else (match c.2.2 with | none => x + c.2.1 | some h => if h < x + c.2.1 then h else x + c.2.1)
  | none => (match c.2.2 with | none => x + c.2.1 | some h => if h < x + c.2.1 then h else x + c.2.1)
theorem lcI_made {c : C} (ok : okC c = true) (n : Int) : lcI c n = madeI c n := by
  obtain ⟨l, s, h⟩ := c
  cases l with
  | none => cases h <;> rfl
  | some l => cases h with
    | none => simp only [lcI, madeI]
    | some h =>
      have ok' : l ≤ h := by simpa [okC] using ok
      simp only [lcI, madeI]
      (repeat' split) <;> omega
def bC (c : C) : Prop := okC c = true ∧ (∀ l, c.1 = some l → -10 ≤ l ∧ l ≤ 10) ∧ (-9 ≤ c.2.1 ∧ c.2.1 ≤ 9) ∧ (∀ l, c.2.2 = some l → -10 ≤ l ∧ l ≤ 10)
/-- the way's first and last number within -60 … 60 -/
def wayA (c : C) (x : Int) : Int := if (formI c).1 = some x then -60 else x - (formI c).2.1
def wayB (c : C) (x : Int) : Int := if (formI c).2.2 = some x then 60 else x - (formI c).2.1
theorem way {c : C} (b : bC c) {x : Int} (hx : -14 ≤ x ∧ x ≤ 14) {n : Int} (hn : -60 ≤ n ∧ n ≤ 60) :
    (madeI c (x - (formI c).2.1) = x → (madeI c n = x ↔ wayA c x ≤ n ∧ n ≤ wayB c x)) ∧ (¬ madeI c (x - (formI c).2.1) = x → ¬ madeI c n = x) := by
  obtain ⟨l, s, h⟩ := c
  obtain ⟨ok, bl, ⟨s1, s2⟩, bh⟩ := b
  simp only at s1 s2
  cases l with
  | none => cases h with
    | none => simp [formI, madeI, wayA, wayB]; omega
    | some h =>
      have := bh h rfl
      by_cases q : h = x
      · simp only [formI, madeI, wayA, wayB, q, if_true, reduceCtorEq, if_false]
        (repeat' split) <;> omega
      · simp only [formI, madeI, wayA, wayB, q, Option.some.injEq, reduceCtorEq, if_false]
        (repeat' split) <;> omega
  | some l => cases h with
    | none =>
      have := bl l rfl
      by_cases q : l = x
      · simp only [formI, madeI, wayA, wayB, q, if_true, reduceCtorEq, if_false]
        (repeat' split) <;> omega
      · simp only [formI, madeI, wayA, wayB, q, Option.some.injEq, reduceCtorEq, if_false]
        (repeat' split) <;> omega
    | some h =>
      have := bh h rfl
      have := bl l rfl
      have ok' : l ≤ h := by simpa [okC] using ok
      by_cases z : l = h
      · subst z
        by_cases q : l = x
        · simp only [formI, madeI, wayA, wayB, q, if_true, reduceCtorEq, if_false]
          (repeat' split) <;> omega
        · simp only [formI, madeI, wayA, wayB, q, Option.some.injEq, reduceCtorEq, if_false, if_true]
          (repeat' split) <;> omega
      · by_cases q : l = x
        · have q2 : ¬ h = x := by omega
          have z2 : ¬ x = h := by omega
          simp only [formI, madeI, wayA, wayB, q, q2, z2, if_true, Option.some.injEq, reduceCtorEq, if_false]
          (repeat' split) <;> omega
        · by_cases q2 : h = x
          · have z2 : ¬ l = x := by omega
            simp only [formI, madeI, wayA, wayB, q, q2, z2, Option.some.injEq, reduceCtorEq, if_false, if_true]
            (repeat' split) <;> omega
          · simp only [formI, madeI, wayA, wayB, q, q2, z, Option.some.injEq, reduceCtorEq, if_false, if_true]
            (repeat' split) <;> omega
end K

set_option Elab.async false
set_option linter.all false
set_option maxRecDepth 100000
set_option maxHeartbeats 4000000
namespace K
open PySem R
/-! ### forms, joins: plain -/
theorem form_form (c : C) : formI (formI c) = formI c := by
  obtain ⟨l, s, h⟩ := c
  cases l with
  | none => cases h <;> rfl
  | some l => cases h with
    | none => rfl
    | some h => by_cases z : l = h <;> simp [formI, z]
theorem okC_form (c : C) : okC (formI c) = okC c := by
  obtain ⟨l, s, h⟩ := c
  cases l with
  | none => cases h <;> rfl
  | some l => cases h with
    | none => rfl
    | some h => by_cases z : l = h <;> simp [formI, z, okC]
theorem made_form {c : C} (x : Int) : madeI (formI c) x = madeI c x := by
  obtain ⟨l, s, h⟩ := c
  cases l with
  | none => cases h <;> rfl
  | some l => cases h with
    | none => rfl
    | some h =>
      by_cases z : l = h
      · subst z
        have e : formI (some l, s, some l) = (some l, 0, some l) := by simp [formI]
        rw [e]
        simp only [madeI]
        (repeat' split) <;> omega
      · simp [formI, z]
def behI (a b : C) : C := formI ((match a.1 with | none => b.1 | some l => some (madeI b l)), a.2.1 + b.2.1, (match a.2.2 with | none => b.2.2 | some h => some (madeI b h)))
theorem made_le {b : C} {x y : Int} (h : x ≤ y) : madeI b x ≤ madeI b y := by
  obtain ⟨l, s, k⟩ := b
  cases l <;> cases k <;> simp only [madeI] <;> (repeat' split) <;> omega
theorem beh_ok {a b : C} (ha : okC a = true) (hb : okC b = true) : okC (behI a b) = true := by
  unfold behI
  rw [okC_form]
  obtain ⟨l, s, h⟩ := a
  obtain ⟨l', s', h'⟩ := b
  cases l with
  | none => cases h with
    | none => simpa [okC] using hb
    | some h =>
      cases l' with
      | none => rfl
      | some l' =>
        cases h' with
        | none => simp only [okC, madeI, decide_eq_true_eq]; split <;> omega
        | some h' =>
          have : l' ≤ h' := by simpa [okC] using hb
          simp only [okC, madeI, decide_eq_true_eq]; (repeat' split) <;> omega
  | some l => cases h with
    | none =>
      cases h' with
      | none => rfl
      | some h' =>
        cases l' with
        | none => simp only [okC, madeI, decide_eq_true_eq]; split <;> omega
        | some l' =>
          have : l' ≤ h' := by simpa [okC] using hb
          simp only [okC, madeI, decide_eq_true_eq]; (repeat' split) <;> omega
    | some h =>
      have : l ≤ h := by simpa [okC] using ha
      simp only [okC, decide_eq_true_eq]
      exact made_le this
theorem beh_made {a b : C} (ha : okC a = true) (hb : okC b = true) (x : Int) : madeI (behI a b) x = madeI b (madeI a x) := by
  unfold behI
  rw [made_form]
  obtain ⟨l, s, h⟩ := a
  obtain ⟨l', s', h'⟩ := b
  have o1 : ∀ p q, l = some p → h = some q → p ≤ q := by rintro p q rfl rfl; simpa [okC] using ha
  have o2 : ∀ p q, l' = some p → h' = some q → p ≤ q := by rintro p q rfl rfl; simpa [okC] using hb
  cases l <;> cases h <;> cases l' <;> cases h' <;> simp only [Option.some.injEq, forall_eq', reduceCtorEq, false_implies, implies_true, forall_const] at o1 o2 <;> simp only [madeI] <;> (repeat' split) <;> omega
def joinI (cs : List C) : C := cs.foldl behI (none, 0, none)
theorem fold_ok : ∀ (cs : List C) (a : C), okC a = true → (∀ c ∈ cs, okC c = true) → okC (cs.foldl behI a) = true ∧ ∀ x, madeI (cs.foldl behI a) x = cs.foldl (fun x c => madeI c x) (madeI a x)
  | [], a, ha, _ => ⟨ha, fun _ => rfl⟩
  | c :: cs, a, ha, h => by
    have hc := h c (List.mem_cons_self ..)
    obtain ⟨h1, h2⟩ := fold_ok cs (behI a c) (beh_ok ha hc) fun d hd => h d (List.mem_cons_of_mem _ hd)
    refine ⟨h1, fun x => ?_⟩
    rw [List.foldl_cons, List.foldl_cons, h2, beh_made ha hc]
theorem fold_form : ∀ (cs : List C) (a : C), formI a = a → formI (cs.foldl behI a) = cs.foldl behI a
  | [], _, h => h
  | c :: cs, a, _ => fold_form cs (behI a c) (form_form _)
theorem join_ok {cs : List C} (h : ∀ c ∈ cs, okC c = true) : okC (joinI cs) = true := (fold_ok cs _ rfl h).1
theorem join_form (cs : List C) : formI (joinI cs) = joinI cs := fold_form cs _ rfl
theorem join_made {cs : List C} (h : ∀ c ∈ cs, okC c = true) (x : Int) : madeI (joinI cs) x = cs.foldl (fun x c => madeI c x) x := by
  rw [joinI, (fold_ok cs _ rfl h).2]
  congr 1
  simp [madeI]
theorem join_one (c : C) : joinI [c] = formI c := by
  obtain ⟨l, s, h⟩ := c
  simp [joinI, behI]
def inB (B : Int) (c : C) : Prop := (∀ l, c.1 = some l → -B ≤ l ∧ l ≤ B) ∧ (-B ≤ c.2.1 ∧ c.2.1 ≤ B) ∧ (∀ l, c.2.2 = some l → -B ≤ l ∧ l ≤ B)
/-- a form is known by what it makes -/
theorem uniq {B N : Int} (hB : 0 ≤ B) (hN : 3 * B + 3 ≤ N) {a b : C} (ia : inB B a) (ib : inB B b) (oa : okC a = true) (ob : okC b = true) (fa : formI a = a) (fb : formI b = b) (e : ∀ x, -N ≤ x → x ≤ N → madeI a x = madeI b x) : a = b := by
  obtain ⟨l, s, h⟩ := a
  obtain ⟨l', s', h'⟩ := b
  obtain ⟨i1, i2, i3⟩ := ia
  obtain ⟨j1, j2, j3⟩ := ib
  simp only at i1 i2 i3 j1 j2 j3
  have e1 := e (-N) (by omega) (by omega)
  have e2 := e N (by omega) (by omega)
  cases l with
  | none =>
    cases h with
    | none =>
      have e3 := e 0 (by omega) (by omega)
      cases l' with
      | none => cases h' with
        | none => simp only [madeI] at e3; have : s = s' := by omega
                  rw [this]
        | some h' => have := j3 h' rfl; simp only [madeI] at e1 e2; (repeat' split at e1) <;> (repeat' split at e2) <;> omega
      | some l' => cases h' with
        | none => have := j1 l' rfl; simp only [madeI] at e1 e2; (repeat' split at e1) <;> (repeat' split at e2) <;> omega
        | some h' => have := j3 h' rfl; have := j1 l' rfl; simp only [madeI] at e1 e2; (repeat' split at e1) <;> (repeat' split at e2) <;> omega
    | some h =>
      have := i3 h rfl
      cases l' with
      | none => cases h' with
        | none => simp only [madeI] at e1 e2; (repeat' split at e1) <;> (repeat' split at e2) <;> omega
        | some h' =>
          have := j3 h' rfl; simp only [madeI] at e1 e2
          have z1 : s = s' := by (repeat' split at e1) <;> omega
          have z2 : h = h' := by (repeat' split at e2) <;> omega
          rw [z1, z2]
      | some l' => cases h' with
        | none => have := j1 l' rfl; simp only [madeI] at e1 e2; (repeat' split at e1) <;> (repeat' split at e2) <;> omega
        | some h' => have := j3 h' rfl; have := j1 l' rfl; simp only [madeI] at e1 e2; (repeat' split at e1) <;> (repeat' split at e2) <;> omega
  | some l =>
    have := i1 l rfl
    cases h with
    | none =>
      cases l' with
      | none => cases h' with
        | none => simp only [madeI] at e1 e2; (repeat' split at e1) <;> (repeat' split at e2) <;> omega
        | some h' => have := j3 h' rfl; simp only [madeI] at e1 e2; (repeat' split at e1) <;> (repeat' split at e2) <;> omega
      | some l' => cases h' with
        | none =>
          have := j1 l' rfl; simp only [madeI] at e1 e2
          have z1 : s = s' := by (repeat' split at e2) <;> omega
          have z2 : l = l' := by (repeat' split at e1) <;> omega
          rw [z1, z2]
        | some h' => have := j3 h' rfl; have := j1 l' rfl; simp only [madeI] at e1 e2; (repeat' split at e1) <;> (repeat' split at e2) <;> omega
    | some h =>
      have := i3 h rfl
      have o1 : l ≤ h := by simpa [okC] using oa
      cases l' with
      | none => cases h' with
        | none => simp only [madeI] at e1 e2; (repeat' split at e1) <;> (repeat' split at e2) <;> omega
        | some h' => have := j3 h' rfl; simp only [madeI] at e1 e2; (repeat' split at e1) <;> (repeat' split at e2) <;> omega
      | some l' => cases h' with
        | none => have := j1 l' rfl; simp only [madeI] at e1 e2; (repeat' split at e1) <;> (repeat' split at e2) <;> omega
        | some h' =>
          have := j3 h' rfl; have := j1 l' rfl
          have o2 : l' ≤ h' := by simpa [okC] using ob
          simp only [madeI] at e1 e2
          have z1 : l = l' := by (repeat' split at e1) <;> omega
          have z2 : h = h' := by (repeat' split at e2) <;> omega
          subst z1 z2
          have z3 : s = s' := by
            by_cases z : l = h
            · subst z
              simp [formI] at fa fb
              omega
            · have e3 := e (l - s) (by omega) (by omega)
              have e4 := e (l - s + 1) (by omega) (by omega)
              simp only [madeI] at e3 e4
              (repeat' split at e3) <;> (repeat' split at e4) <;> omega
          rw [z3]
def absC (c : C) : Int := (match c.1 with | none => 0 | some l => (l.natAbs : Int)) + c.2.1.natAbs + (match c.2.2 with | none => 0 | some l => (l.natAbs : Int))
theorem inB_abs (c : C) {B : Int} (h : absC c ≤ B) : inB B c := by
  obtain ⟨l, s, k⟩ := c
  unfold absC at h
  refine ⟨fun p hp => ?_, ?_, fun p hp => ?_⟩
  · simp only at hp; subst hp; cases k <;> simp only at h <;> omega
  · cases l <;> cases k <;> simp only at h ⊢ <;> omega
  · simp only at hp; subst hp; cases l <;> simp only at h <;> omega
theorem absC_pos (c : C) : 0 ≤ absC c := by
  obtain ⟨l, s, k⟩ := c
  unfold absC
  cases l <;> cases k <;> simp only <;> omega
theorem ext_form {a b : C} (oa : okC a = true) (ob : okC b = true) (fa : formI a = a) (fb : formI b = b) (e : ∀ x, madeI a x = madeI b x) : a = b := by
  have := absC_pos a
  have := absC_pos b
  exact uniq (B := absC a + absC b) (N := 3 * (absC a + absC b) + 3) (by omega) (by omega) (inB_abs a (by omega)) (inB_abs b (by omega)) oa ob fa fb fun x _ _ => e x
theorem join_parts {as bs : List C} (ha : ∀ c ∈ as, okC c = true) (hb : ∀ c ∈ bs, okC c = true) : joinI [joinI as, joinI bs] = joinI (as ++ bs) := by
  have hab : ∀ c ∈ as ++ bs, okC c = true := fun c hc => (List.mem_append.mp hc).elim (ha c) (hb c)
  have h2 : ∀ c ∈ [joinI as, joinI bs], okC c = true := by simp [join_ok ha, join_ok hb]
  apply ext_form (join_ok h2) (join_ok hab) (join_form _) (join_form _)
  intro x
  rw [join_made h2, join_made hab, List.foldl_append]
  simp [join_made ha, join_made hb]
theorem join_stay {as bs : List C} (ha : ∀ c ∈ as, okC c = true) (hb : ∀ c ∈ bs, okC c = true) : joinI (as ++ [(none, 0, none)] ++ bs) = joinI (as ++ bs) := by
  have hab : ∀ c ∈ as ++ bs, okC c = true := fun c hc => (List.mem_append.mp hc).elim (ha c) (hb c)
  have h2 : ∀ c ∈ as ++ [(none, 0, none)] ++ bs, okC c = true := by
    intro c hc
    rcases List.mem_append.mp hc with hc | hc
    · rcases List.mem_append.mp hc with hc | hc
      · exact ha c hc
      · simp at hc; subst hc; rfl
    · exact hb c hc
  apply ext_form (join_ok h2) (join_ok hab) (join_form _) (join_form _)
  intro x
  rw [join_made h2, join_made hab, List.foldl_append, List.foldl_append, List.foldl_append]
  simp [madeI]
end K

set_option Elab.async false
set_option linter.all false
set_option maxRecDepth 100000
set_option maxHeartbeats 4000000
namespace K
open PySem R
theorem c_eqB (a b : Bool) : R.cmp .eq (.bl a) (.bl b) = some (a == b) := by cases a <;> cases b <;> rfl
theorem c_neB (a b : Bool) : R.cmp .ne (.bl a) (.bl b) = some (a != b) := by cases a <;> cases b <;> rfl
theorem c_eqNN : R.cmp .eq .non .non = some true := rfl
theorem lc_go {L : LE} {vs : List Nat} {t : Tg} {cond : Option E} {e : E} (p : D → Bool) (f : D → D) {v : Ev} : ∀ {xs acc : List D},
    (∀ x ∈ xs, ∃ v1, asgT t x v = some v1 ∧ evc L cond v1 = some (p x, v1) ∧ (p x = true → evv L e v1 = some (f x, v1)) ∧ wipeE v1 vs = v) → lcGo L vs t cond e xs acc v = some (acc ++ (xs.filter p).map f, v)
  | [], acc, _ => by simp [lcGo]
  | x :: xs, acc, h => by
    obtain ⟨v1, h1, h2, h3, h4⟩ := h x (List.mem_cons_self ..)
    have ih := fun acc => lc_go (xs := xs) (acc := acc) p f fun y hy => h y (List.mem_cons_of_mem _ hy)
    cases px : p x with
    | true => simp [lcGo, h1, h2, h3 px, px, h4, ih]
    | false => simp [lcGo, h1, h2, px, h4, ih]
theorem for_go {LSt : LS} {t : Tg} {b : List S} (I : Ev → Prop) : ∀ {xs : List D} {v : Ev},
    (∀ x ∈ xs, ∀ v, I v → ∃ v1 v2, asgT t x v = some v1 ∧ ebs LSt b v1 = some (.nx v2) ∧ I v2) → I v → ∃ v', forGo LSt t b xs v = some (.nx v') ∧ I v'
  | [], v, _, hv => ⟨v, rfl, hv⟩
  | x :: xs, v, h, hv => by
    obtain ⟨v1, v2, h1, h2, h3⟩ := h x (List.mem_cons_self ..) v hv
    obtain ⟨v', e, i⟩ := for_go I (xs := xs) (v := v2) (fun y hy => h y (List.mem_cons_of_mem _ hy)) h3
    exact ⟨v', by simp [forGo, h1, h2, e], i⟩
/-! ### the draws -/
abbrev Ds := Int × Int × Int
def dr (s : Ds) : D := .lst [.int s.1, .int s.2.1, .int s.2.2]
def drawK (s : Ds) (m : Int) : Int := if 0 < s.1 then s.1 % m else ((s.2.1 * 48271 + (s.2.2 + 1) * 7919 + 12345) % 2147483647 / 65536 + (s.2.1 * 48271 + (s.2.2 + 1) * 7919 + 12345) % 2147483647) % m
def drawS (s : Ds) (m : Int) : Ds := if 0 < s.1 then (s.1 / m, s.2.1, s.2.2) else (s.1, (s.2.1 * 48271 + (s.2.2 + 1) * 7919 + 12345) % 2147483647, s.2.2 + 1)
theorem drawK_lt (s : Ds) {m : Int} (h : 0 < m) : 0 ≤ drawK s m ∧ drawK s m < m := by
  unfold drawK
  split
  · exact ⟨Int.emod_nonneg _ (by omega), Int.emod_lt_of_pos _ h⟩
  · exact ⟨Int.emod_nonneg _ (by omega), Int.emod_lt_of_pos _ h⟩
def F_l_draw : Fn
  | [(.lst, .lst [.int a, .int b, .int c]), (.sh, .int m)] => if 0 < m ∧ m < 1073741824 then some (.sh, .int (drawK (a, b, c) m), [dr (drawS (a, b, c) m)]) else none
  | _ => none
theorem draw_dr (s : Ds) (m : Int) : F_l_draw [(.lst, dr s), (.sh, .int m)] = if 0 < m ∧ m < 1073741824 then some (.sh, .int (drawK s m), [dr (drawS s m)]) else none := rfl
theorem r_l_draw (Φ : Tab) : ∀ q r, F_l_draw q = some r → q.length = 2 ∧ R.run Φ 24 N_l_draw.length B_l_draw q = some r := by
  intro q r h
  unfold F_l_draw at h
  split at h
  · rename_i a b c m
    split at h
    · rename_i hm
      cases h
      refine ⟨rfl, ?_⟩
      by_cases p : 0 < a
      · simp [R.run, R.start, ebs, lev_s, lev_e, stepS, stepE, evv, evs, evss, evt, evAnd, evOr, evas, evo, evc, params, back, ioOf, setIo,  setNs, setN_eq, fr, asgT, asgTs, R.bin, c_eq, c_ne, c_lt, c_le, c_gt, c_ge, c_is, c_isn, c_eqo, isNon_oE, c_eqB, c_neB, c_eqNN, R.idx, R.slc, isNon, outs, leaf, R.blt, mostLen, isiOne, tyOf, intsOf, boolsOf, R.run, B_l_draw, N_l_draw, getAt, L2.atI, L2.ixN, p, hm, drawK, drawS, dr]
      · simp [R.run, R.start, ebs, lev_s, lev_e, stepS, stepE, evv, evs, evss, evt, evAnd, evOr, evas, evo, evc, params, back, ioOf, setIo,  setNs, setN_eq, fr, asgT, asgTs, R.bin, c_eq, c_ne, c_lt, c_le, c_gt, c_ge, c_is, c_isn, c_eqo, isNon_oE, c_eqB, c_neB, c_eqNN, R.idx, R.slc, isNon, outs, leaf, R.blt, mostLen, isiOne, tyOf, intsOf, boolsOf, R.run, B_l_draw, N_l_draw, getAt, L2.atI, L2.ixN, p, hm, drawK, drawS, dr]
    · cases h
  · cases h
def F_l_source : Fn
  | [(.fro, .lst xs), (.sh, .int p)] => (match (if p < xs.length then getAt xs p else some (.int (7 * p + 5))) with
    | some (.int raw) => some (.lst, dr (if 1000000000000000000 ≤ raw then raw else 0, raw % 2147483647, 0), [.lst xs])
    | _ => none)
  | _ => none
theorem r_l_source (Φ : Tab) : ∀ q r, F_l_source q = some r → q.length = 2 ∧ R.run Φ 24 N_l_source.length B_l_source q = some r := by
  intro q r h
  unfold F_l_source at h
  split at h
  · rename_i xs p
    split at h
    · rename_i raw hr
      cases h
      refine ⟨rfl, ?_⟩
      by_cases p1 : p < xs.length
      · rw [if_pos p1] at hr
        by_cases p2 : 1000000000000000000 ≤ raw <;> simp [R.run, R.start, ebs, lev_s, lev_e, stepS, stepE, evv, evs, evss, evt, evAnd, evOr, evas, evo, evc, params, back, ioOf, setIo,  setNs, setN_eq, fr, asgT, asgTs, R.bin, c_eq, c_ne, c_lt, c_le, c_gt, c_ge, c_is, c_isn, c_eqo, isNon_oE, c_eqB, c_neB, c_eqNN, R.idx, R.slc, isNon, outs, leaf, R.blt, mostLen, isiOne, tyOf, intsOf, boolsOf, R.run, B_l_source, N_l_source, p1, p2, hr, dr]
      · rw [if_neg p1] at hr
        cases hr
        by_cases p2 : 1000000000000000000 ≤ 7 * p + 5 <;> simp [R.run, R.start, ebs, lev_s, lev_e, stepS, stepE, evv, evs, evss, evt, evAnd, evOr, evas, evo, evc, params, back, ioOf, setIo,  setNs, setN_eq, fr, asgT, asgTs, R.bin, c_eq, c_ne, c_lt, c_le, c_gt, c_ge, c_is, c_isn, c_eqo, isNon_oE, c_eqB, c_neB, c_eqNN, R.idx, R.slc, isNon, outs, leaf, R.blt, mostLen, isiOne, tyOf, intsOf, boolsOf, R.run, B_l_source, N_l_source, p1, p2, dr]
    · cases h
  · cases h
def F_l_pick : Fn
  | [(.lst, .lst [.int a, .int b, .int c]), (.sh, .lst xs)] => if 0 < xs.length ∧ xs.length < 1000 then (match xs[(drawK (a, b, c) xs.length).toNat]? with
    | some d => some (.sh, d, [dr (drawS (a, b, c) xs.length)])
    | none => none) else none
  | _ => none
theorem pick_dr (s : Ds) (xs : List D) : F_l_pick [(.lst, dr s), (.sh, .lst xs)] = if 0 < xs.length ∧ xs.length < 1000 then (match xs[(drawK s xs.length).toNat]? with
    | some d => some (.sh, d, [dr (drawS s xs.length)])
    | none => none) else none := rfl
theorem getAt_pos {xs : List D} {i : Int} (h0 : 0 ≤ i) (h1 : i < xs.length) : getAt xs i = xs[i.toNat]? := by
  simp [getAt, L2.atI, L2.ixN, h0, h1]
theorem r_l_pick (Φ : Tab) (h1 : Φ.fn "_law_draw" = some F_l_draw) : ∀ q r, F_l_pick q = some r → q.length = 2 ∧ R.run Φ 24 N_l_pick.length B_l_pick q = some r := by
  intro q r h
  unfold F_l_pick at h
  split at h
  · rename_i a b c xs
    split at h
    · rename_i hm
      split at h
      · rename_i d hd
        cases h
        refine ⟨rfl, ?_⟩
        have hp : (0 : Int) < (xs.length : Int) ∧ (xs.length : Int) < 1073741824 := by omega
        have hk := drawK_lt (a, b, c) hp.1
        have hg := getAt_pos hk.1 hk.2
        rw [hd] at hg
        have hz : xs ≠ [] := fun z => by rw [z] at hm; simp at hm
        simp [R.run, R.start, ebs, lev_s, lev_e, stepS, stepE, evv, evs, evss, evt, evAnd, evOr, evas, evo, evc, params, back, ioOf, setIo,  setNs, setN_eq, fr, asgT, asgTs, b_add, b_sub, c_eq, c_ne, c_lt, c_le, c_gt, c_ge, c_is, c_isn, c_eqo, isNon_oE, c_eqB, c_neB, c_eqNN, R.idx, R.slc, isNon, outs, leaf, R.blt, mostLen, isiOne, tyOf, intsOf, boolsOf, R.run, B_l_pick, N_l_pick, h1, F_l_draw, hp, hm.1, hg]
      · cases h
    · cases h
  · cases h
/-! ### same -/
mutual
def smOk : Nat → D → Bool
  | _, .non => true
  | _, .int _ => true
  | k + 1, .lst xs => smOks k xs
  | k + 1, .tup xs => smOks k xs
  | _, _ => false
def smOks : Nat → List D → Bool
  | _, [] => true
  | k, x :: xs => smOk k x && smOks k xs
end
theorem smOks_mem {k : Nat} : ∀ {xs : List D}, smOks k xs = true → ∀ x ∈ xs, smOk k x = true
  | [], _, x, hx => by cases hx
  | y :: ys, h, x, hx => by
    simp only [smOks, Bool.and_eq_true] at h
    rcases List.mem_cons.mp hx with rfl | hx
    · exact h.1
    · exact smOks_mem h.2 x hx
open Classical in
noncomputable def Fsame (k : Nat) : Fn
  | [(.sh, a), (.sh, b)] => if a = b ∧ smOk k b = true then some (.sh, .bl true, []) else none
  | _ => none
theorem same_eq {k : Nat} {a : D} (h : smOk k a = true) : Fsame k [(.sh, a), (.sh, a)] = some (.sh, .bl true, []) := by simp [Fsame, h]
theorem bools_true (xs : List D) : boolsOf (xs.map fun _ => D.bl true) = some (xs.map fun _ => true) := by
  induction xs with
  | nil => rfl
  | cons x xs ih => simp [boolsOf, ih]
theorem all_true (xs : List D) : ((xs.map fun _ => true).all id) = true := by simp
theorem same_lc (Φ : Tab) (k : Nat) (h1 : Φ.fn "_law_same" = some (Fsame k)) {xs : List D} (hs : smOks k xs = true) (a b : D) (n : Nat) : lcGo (lev Φ (n + 4)).e [2, 3] (.tp [(.nm 2), (.nm 3)]) none (.call "_law_same" [.v (.var 2), .v (.var 3)]) (xs.map fun x => .tup [x, x]) [] [.at false .sh a, .at false .sh b, .no, .no] = some (xs.map (fun _ => .bl true), [.at false .sh a, .at false .sh b, .no, .no]) := by
  have := lc_go (L := (lev Φ (n + 4)).e) (vs := [2, 3]) (t := .tp [(.nm 2), (.nm 3)]) (cond := none) (e := .call "_law_same" [.v (.var 2), .v (.var 3)]) (fun _ => true) (fun _ => .bl true) (v := [.at false .sh a, .at false .sh b, .no, .no]) (xs := xs.map fun x => .tup [x, x]) (acc := []) ?_
  · rw [this, List.filter_eq_self.mpr (fun _ _ => rfl), List.map_map]; rfl
  · intro x hx
    obtain ⟨y, hy, rfl⟩ := List.mem_map.mp hx
    refine ⟨[.at false .sh a, .at false .sh b, .at false .sh y, .at false .sh y], rfl, rfl, fun _ => ?_, rfl⟩
    have := same_eq (smOks_mem hs y hy)
    simp [R.run, R.start, ebs, lev_s, lev_e, stepS, stepE, evv, evs, evss, evt, evAnd, evOr, evas, evo, evc, params, back, ioOf, setIo,  setNs, setN_eq, fr, asgT, asgTs, b_add, b_sub, c_eq, c_ne, c_lt, c_le, c_gt, c_ge, c_is, c_isn, c_eqo, isNon_oE, c_eqB, c_neB, c_eqNN, R.idx, R.slc, isNon, outs, leaf, R.blt, mostLen, isiOne, tyOf, intsOf, boolsOf, h1, this]
theorem r_l_same0 (Φ : Tab) : ∀ q r, Fsame 0 q = some r → q.length = 2 ∧ R.run Φ 24 N_l_same.length B_l_same q = some r := by
  intro q r h
  unfold Fsame at h
  split at h
  · rename_i a b
    split at h
    · rename_i hm
      obtain ⟨rfl, hs⟩ := hm
      cases h
      refine ⟨rfl, ?_⟩
      cases a with
      | non => simp [R.run, R.start, ebs, lev_s, lev_e, stepS, stepE, evv, evs, evss, evt, evAnd, evOr, evas, evo, evc, params, back, ioOf, setIo,  setNs, setN_eq, fr, asgT, asgTs, b_add, b_sub, c_eq, c_ne, c_lt, c_le, c_gt, c_ge, c_is, c_isn, c_eqo, isNon_oE, c_eqB, c_neB, c_eqNN, R.idx, R.slc, isNon, outs, leaf, R.blt, mostLen, isiOne, tyOf, intsOf, boolsOf, R.run, B_l_same, N_l_same]
      | int i => simp [R.run, R.start, ebs, lev_s, lev_e, stepS, stepE, evv, evs, evss, evt, evAnd, evOr, evas, evo, evc, params, back, ioOf, setIo,  setNs, setN_eq, fr, asgT, asgTs, b_add, b_sub, c_eq, c_ne, c_lt, c_le, c_gt, c_ge, c_is, c_isn, c_eqo, isNon_oE, c_eqB, c_neB, c_eqNN, R.idx, R.slc, isNon, outs, leaf, R.blt, mostLen, isiOne, tyOf, intsOf, boolsOf, R.run, B_l_same, N_l_same]
      | _ => cases hs
    · cases h
  · cases h
theorem r_l_same (Φ : Tab) (k : Nat) (h1 : Φ.fn "_law_same" = some (Fsame k)) : ∀ q r, Fsame (k + 1) q = some r → q.length = 2 ∧ R.run Φ 24 N_l_same.length B_l_same q = some r := by
  intro q r h
  unfold Fsame at h
  split at h
  · rename_i a b
    split at h
    · rename_i hm
      obtain ⟨rfl, hs⟩ := hm
      cases h
      refine ⟨rfl, ?_⟩
      cases a with
      | non => simp [R.run, R.start, ebs, lev_s, lev_e, stepS, stepE, evv, evs, evss, evt, evAnd, evOr, evas, evo, evc, params, back, ioOf, setIo,  setNs, setN_eq, fr, asgT, asgTs, b_add, b_sub, c_eq, c_ne, c_lt, c_le, c_gt, c_ge, c_is, c_isn, c_eqo, isNon_oE, c_eqB, c_neB, c_eqNN, R.idx, R.slc, isNon, outs, leaf, R.blt, mostLen, isiOne, tyOf, intsOf, boolsOf, R.run, B_l_same, N_l_same]
      | int i => simp [R.run, R.start, ebs, lev_s, lev_e, stepS, stepE, evv, evs, evss, evt, evAnd, evOr, evas, evo, evc, params, back, ioOf, setIo,  setNs, setN_eq, fr, asgT, asgTs, b_add, b_sub, c_eq, c_ne, c_lt, c_le, c_gt, c_ge, c_is, c_isn, c_eqo, isNon_oE, c_eqB, c_neB, c_eqNN, R.idx, R.slc, isNon, outs, leaf, R.blt, mostLen, isiOne, tyOf, intsOf, boolsOf, R.run, B_l_same, N_l_same]
      | lst xs =>
        have := fun n => same_lc Φ k h1 (show smOks k xs = true from hs) (.lst xs) (.lst xs) n
        have l17 := this 15
        simp [R.run, R.start, ebs, lev_s, lev_e, stepS, stepE, evv, evs, evss, evt, evAnd, evOr, evas, evo, evc, params, back, ioOf, setIo,  setNs, setN_eq, fr, asgT, asgTs, b_add, b_sub, c_eq, c_ne, c_lt, c_le, c_gt, c_ge, c_is, c_isn, c_eqo, isNon_oE, c_eqB, c_neB, c_eqNN, R.idx, R.slc, isNon, outs, leaf, R.blt, mostLen, isiOne, tyOf, intsOf, boolsOf, R.run, B_l_same, N_l_same, evi, wipeE, l17, bools_true]
      | tup xs =>
        have := fun n => same_lc Φ k h1 (show smOks k xs = true from hs) (.tup xs) (.tup xs) n
        have l17 := this 15
        simp [R.run, R.start, ebs, lev_s, lev_e, stepS, stepE, evv, evs, evss, evt, evAnd, evOr, evas, evo, evc, params, back, ioOf, setIo,  setNs, setN_eq, fr, asgT, asgTs, b_add, b_sub, c_eq, c_ne, c_lt, c_le, c_gt, c_ge, c_is, c_isn, c_eqo, isNon_oE, c_eqB, c_neB, c_eqNN, R.idx, R.slc, isNon, outs, leaf, R.blt, mostLen, isiOne, tyOf, intsOf, boolsOf, R.run, B_l_same, N_l_same, evi, wipeE, l17, bools_true]
      | _ => cases hs
    · cases h
  · cases h
end K

set_option Elab.async false
set_option linter.all false
set_option maxRecDepth 100000
set_option maxHeartbeats 4000000
namespace K
open PySem R
theorem fr_no : fr .no = true := rfl
theorem fr_at (s : Sh) (d : D) : fr (.at false s d) = true := rfl
theorem isNon_non : isNon .non = true := rfl
theorem isNon_int (i : Int) : isNon (.int i) = false := rfl
theorem isNon_tup (xs : List D) : isNon (.tup xs) = false := rfl
theorem isNon_lst (xs : List D) : isNon (.lst xs) = false := rfl
def runF (Φ : Tab) (m n : Nat) (B : List S) : Fn := fun q => if q.length = m then R.run Φ 24 n B q else none
theorem r_runF (Φ : Tab) (m n : Nat) (B : List S) : ∀ q r, runF Φ m n B q = some r → q.length = m ∧ R.run Φ 24 n B q = some r := by
  intro q r h
  unfold runF at h
  split at h
  · exact ⟨by assumption, h⟩
  · cases h
/-! ### the law's clamp -/
theorem sort2 (a b : Int) : [a, b].mergeSort (fun a b => decide (a ≤ b)) = if a ≤ b then [a, b] else [b, a] := by
  by_cases h : a ≤ b <;> simp [List.mergeSort, List.MergeSort.Internal.splitInTwo, List.merge, h]
theorem c_in2 (w a b : Int) : R.cmp .inn (.int w) (.tup [.int a, .int b]) = some (decide (a = w) || decide (b = w)) := by
  simp [R.cmp, leaf, eqd_ii]
theorem pick5 (s : Ds) {e1 e2 : Int} (h1 : -9 ≤ e1 ∧ e1 ≤ 9) (h2 : -9 ≤ e2 ∧ e2 ≤ 9) : ∃ t : Int, (-9 ≤ t ∧ t ≤ 9) ∧ F_l_pick [(.lst, dr s), (.sh, .lst [.int 0, .int 1, .int (-1), .int e1, .int e2])] = some (.sh, .int t, [dr (drawS s 5)]) := by
  have hk := drawK_lt s (m := 5) (by omega)
  have hc : drawK s 5 = 0 ∨ drawK s 5 = 1 ∨ drawK s 5 = 2 ∨ drawK s 5 = 3 ∨ drawK s 5 = 4 := by omega
  rw [pick_dr]
  rcases hc with h | h | h | h | h
  · exact ⟨0, by omega, by simp [h]⟩
  · exact ⟨1, by omega, by simp [h]⟩
  · exact ⟨-1, by omega, by simp [h]⟩
  · exact ⟨e1, h1, by simp [h]⟩
  · exact ⟨e2, h2, by simp [h]⟩
theorem ends2 {a b : Int} (ha : -10 ≤ a ∧ a ≤ 10) (hb : -10 ≤ b ∧ b ≤ 10) : ∃ l h : Int, l ≤ h ∧ (-10 ≤ l ∧ l ≤ 10) ∧ (-10 ≤ h ∧ h ≤ 10) ∧ [a, b].mergeSort (fun a b => decide (a ≤ b)) = [l, h] := by
  rw [sort2]
  by_cases h : a ≤ b
  · exact ⟨a, b, h, ha, hb, by simp [h]⟩
  · exact ⟨b, a, by omega, hb, ha, by simp [h]⟩
theorem sp_clamp (Φ : Tab) (h1 : Φ.fn "_law_draw" = some F_l_draw) (h2 : Φ.fn "_law_pick" = some F_l_pick) (s : Ds) : ∃ c s', bC c ∧ R.run Φ 24 N_l_clamp.length B_l_clamp [(.lst, dr s), (.sh, .bl false)] = some (.sh, mk true c, [dr s']) := by
  obtain ⟨s1, e1⟩ : ∃ z, z = drawS s 21 := ⟨_, rfl⟩
  obtain ⟨s2, e2⟩ : ∃ z, z = drawS s1 21 := ⟨_, rfl⟩
  obtain ⟨s3, e3⟩ : ∃ z, z = drawS s2 6 := ⟨_, rfl⟩
  obtain ⟨s4, e4⟩ : ∃ z, z = drawS s3 19 := ⟨_, rfl⟩
  obtain ⟨s5, e5⟩ : ∃ z, z = drawS s4 19 := ⟨_, rfl⟩
  obtain ⟨a, ea⟩ : ∃ z, z = drawK s 21 := ⟨_, rfl⟩
  obtain ⟨b, eb⟩ : ∃ z, z = drawK s1 21 := ⟨_, rfl⟩
  obtain ⟨w, ew⟩ : ∃ z, z = drawK s2 6 := ⟨_, rfl⟩
  obtain ⟨x, ex⟩ : ∃ z, z = drawK s3 19 := ⟨_, rfl⟩
  obtain ⟨y, ey⟩ : ∃ z, z = drawK s4 19 := ⟨_, rfl⟩
  have ka := drawK_lt s (m := 21) (by omega)
  have kb := drawK_lt s1 (m := 21) (by omega)
  have kw := drawK_lt s2 (m := 6) (by omega)
  have kx := drawK_lt s3 (m := 19) (by omega)
  have ky := drawK_lt s4 (m := 19) (by omega)
  rw [← ea] at ka
  rw [← eb] at kb
  rw [← ew] at kw
  rw [← ex] at kx
  rw [← ey] at ky
  obtain ⟨l, h, hlh, hl, hh, hs⟩ := ends2 (a := a - 10) (b := b - 10) (by omega) (by omega)
  obtain ⟨t, ht, hp⟩ := pick5 s5 (e1 := x - 9) (e2 := y - 9) (by omega) (by omega)
  have body : ∀ (lo hi : Option Int), bC (lo, t, hi) → (ebs (lev Φ 24).s (B_l_clamp.drop 5) [.at true .lst (dr (drawS s5 5)), .at false .sh (.bl false), .at false .sh (.lst [.int l, .int h]), .at false .sh (.int w), .at false .sh (.lst [.int 0, .int 1, .int (-1), .int (x - 9), .int (y - 9)]), .at false .sh (.int t), .no, .no] = some (.rt .sh (mk true (lo, t, hi)) [.at true .lst (dr (drawS s5 5)), .at false .sh (.bl false), .at false .sh (.lst [.int l, .int h]), .at false .sh (.int w), .at false .sh (.lst [.int 0, .int 1, .int (-1), .int (x - 9), .int (y - 9)]), .at false .sh (.int t), .at false .sh (oE lo), .at false .sh (oE (if w = 0 ∨ w = 2 then none else some h))])) → ∃ c s', bC c ∧ R.run Φ 24 N_l_clamp.length B_l_clamp [(.lst, dr s), (.sh, .bl false)] = some (.sh, mk true c, [dr s']) := by
    intro lo hi hb he
    refine ⟨_, drawS s5 5, hb, ?_⟩
    apply run_rt
    · refine ebs_nx (v' := [.at true .lst (dr s2), .at false .sh (.bl false), .at false .lst (.lst [.int l, .int h]), .no, .no, .no, .no, .no]) ?_ ?_
      · simp [R.run, R.start, ebs, lev_s, lev_e, stepS, stepE, evv, evs, evss, evt, evAnd, evOr, evas, evo, evc, params, back, ioOf, setIo,  setNs, setN_eq, fr_no, fr_at, asgT, asgTs, R.bin, c_eq, c_ne, c_lt, c_le, c_gt, c_ge, c_is, c_isn, c_eqo, isNon_oE, c_eqB, c_neB, c_eqNN, R.idx, R.slc, isNon_non, isNon_int, isNon_tup, isNon_lst, outs, leaf, R.blt, mostLen, isiOne, tyOf, intsOf, boolsOf, h1, draw_dr, N_l_clamp, ← e1, ← e2, ← ea, ← eb, hs]
      refine ebs_nx (v' := [.at true .lst (dr s2), .at false .sh (.bl false), .at false .sh (.lst [.int l, .int h]), .no, .no, .no, .no, .no]) ?_ ?_
      · simp [R.run, R.start, ebs, lev_s, lev_e, stepS, stepE, evv, evs, evss, evt, evAnd, evOr, evas, evo, evc, params, back, ioOf, setIo,  setNs, setN_eq, fr_no, fr_at, asgT, asgTs, R.bin, c_eq, c_ne, c_lt, c_le, c_gt, c_ge, c_is, c_isn, c_eqo, isNon_oE, c_eqB, c_neB, c_eqNN, R.idx, R.slc, isNon_non, isNon_int, isNon_tup, isNon_lst, outs, leaf, R.blt, mostLen, isiOne, tyOf, intsOf, boolsOf]
      refine ebs_nx (v' := [.at true .lst (dr s5), .at false .sh (.bl false), .at false .sh (.lst [.int l, .int h]), .at false .sh (.int w), .at false .lst (.lst [.int 0, .int 1, .int (-1), .int (x - 9), .int (y - 9)]), .no, .no, .no]) ?_ ?_
      · simp [R.run, R.start, ebs, lev_s, lev_e, stepS, stepE, evv, evs, evss, evt, evAnd, evOr, evas, evo, evc, params, back, ioOf, setIo,  setNs, setN_eq, fr_no, fr_at, asgT, asgTs, R.bin, c_eq, c_ne, c_lt, c_le, c_gt, c_ge, c_is, c_isn, c_eqo, isNon_oE, c_eqB, c_neB, c_eqNN, R.idx, R.slc, isNon_non, isNon_int, isNon_tup, isNon_lst, outs, leaf, R.blt, mostLen, isiOne, tyOf, intsOf, boolsOf, h1, draw_dr, ← e3, ← e4, ← e5, ← ew, ← ex, ← ey]
      refine ebs_nx (v' := [.at true .lst (dr s5), .at false .sh (.bl false), .at false .sh (.lst [.int l, .int h]), .at false .sh (.int w), .at false .sh (.lst [.int 0, .int 1, .int (-1), .int (x - 9), .int (y - 9)]), .no, .no, .no]) ?_ ?_
      · simp [R.run, R.start, ebs, lev_s, lev_e, stepS, stepE, evv, evs, evss, evt, evAnd, evOr, evas, evo, evc, params, back, ioOf, setIo,  setNs, setN_eq, fr_no, fr_at, asgT, asgTs, R.bin, c_eq, c_ne, c_lt, c_le, c_gt, c_ge, c_is, c_isn, c_eqo, isNon_oE, c_eqB, c_neB, c_eqNN, R.idx, R.slc, isNon_non, isNon_int, isNon_tup, isNon_lst, outs, leaf, R.blt, mostLen, isiOne, tyOf, intsOf, boolsOf]
      refine ebs_nx (v' := [.at true .lst (dr (drawS s5 5)), .at false .sh (.bl false), .at false .sh (.lst [.int l, .int h]), .at false .sh (.int w), .at false .sh (.lst [.int 0, .int 1, .int (-1), .int (x - 9), .int (y - 9)]), .at false .sh (.int t), .no, .no]) ?_ ?_
      · simp [R.run, R.start, ebs, lev_s, lev_e, stepS, stepE, evv, evs, evss, evt, evAnd, evOr, evas, evo, evc, params, back, ioOf, setIo,  setNs, setN_eq, fr_no, fr_at, asgT, asgTs, R.bin, c_eq, c_ne, c_lt, c_le, c_gt, c_ge, c_is, c_isn, c_eqo, isNon_oE, c_eqB, c_neB, c_eqNN, R.idx, R.slc, isNon_non, isNon_int, isNon_tup, isNon_lst, outs, leaf, R.blt, mostLen, isiOne, tyOf, intsOf, boolsOf, h2, hp]
      exact he
    · rfl
  have g0 : getAt [D.int l, .int h] 0 = some (.int l) := rfl
  have g1 : getAt [D.int l, .int h] 1 = some (.int h) := rfl
  have hc : w = 0 ∨ w = 1 ∨ w = 2 ∨ w = 3 ∨ w = 4 ∨ w = 5 := by omega
  rcases hc with z | z | z | z | z | z
  · exact body none none ⟨rfl, by simp, ht, by simp⟩ (by subst z; simp [R.run, R.start, ebs, lev_s, lev_e, stepS, stepE, evv, evs, evss, evt, evAnd, evOr, evas, evo, evc, params, back, ioOf, setIo,  setNs, setN_eq, fr_no, fr_at, asgT, asgTs, R.bin, c_eq, c_ne, c_lt, c_le, c_gt, c_ge, c_is, c_isn, c_eqo, isNon_oE, c_eqB, c_neB, c_eqNN, R.idx, R.slc, isNon_non, isNon_int, isNon_tup, isNon_lst, outs, leaf, R.blt, mostLen, isiOne, tyOf, intsOf, boolsOf, B_l_clamp, c_in2, g0, g1, mk, oE_none, oE_some])
  · exact body none (some h) ⟨rfl, by simp, ht, by simpa using hh⟩ (by subst z; simp [R.run, R.start, ebs, lev_s, lev_e, stepS, stepE, evv, evs, evss, evt, evAnd, evOr, evas, evo, evc, params, back, ioOf, setIo,  setNs, setN_eq, fr_no, fr_at, asgT, asgTs, R.bin, c_eq, c_ne, c_lt, c_le, c_gt, c_ge, c_is, c_isn, c_eqo, isNon_oE, c_eqB, c_neB, c_eqNN, R.idx, R.slc, isNon_non, isNon_int, isNon_tup, isNon_lst, outs, leaf, R.blt, mostLen, isiOne, tyOf, intsOf, boolsOf, B_l_clamp, c_in2, g0, g1, mk, oE_none, oE_some])
  · exact body (some l) none ⟨rfl, by simpa using hl, ht, by simp⟩ (by subst z; simp [R.run, R.start, ebs, lev_s, lev_e, stepS, stepE, evv, evs, evss, evt, evAnd, evOr, evas, evo, evc, params, back, ioOf, setIo,  setNs, setN_eq, fr_no, fr_at, asgT, asgTs, R.bin, c_eq, c_ne, c_lt, c_le, c_gt, c_ge, c_is, c_isn, c_eqo, isNon_oE, c_eqB, c_neB, c_eqNN, R.idx, R.slc, isNon_non, isNon_int, isNon_tup, isNon_lst, outs, leaf, R.blt, mostLen, isiOne, tyOf, intsOf, boolsOf, B_l_clamp, c_in2, g0, g1, mk, oE_none, oE_some])
  · exact body (some l) (some h) ⟨by simpa [okC] using hlh, by simpa using hl, ht, by simpa using hh⟩ (by subst z; simp [R.run, R.start, ebs, lev_s, lev_e, stepS, stepE, evv, evs, evss, evt, evAnd, evOr, evas, evo, evc, params, back, ioOf, setIo,  setNs, setN_eq, fr_no, fr_at, asgT, asgTs, R.bin, c_eq, c_ne, c_lt, c_le, c_gt, c_ge, c_is, c_isn, c_eqo, isNon_oE, c_eqB, c_neB, c_eqNN, R.idx, R.slc, isNon_non, isNon_int, isNon_tup, isNon_lst, outs, leaf, R.blt, mostLen, isiOne, tyOf, intsOf, boolsOf, B_l_clamp, c_in2, g0, g1, mk, oE_none, oE_some])
  · exact body (some l) (some h) ⟨by simpa [okC] using hlh, by simpa using hl, ht, by simpa using hh⟩ (by subst z; simp [R.run, R.start, ebs, lev_s, lev_e, stepS, stepE, evv, evs, evss, evt, evAnd, evOr, evas, evo, evc, params, back, ioOf, setIo,  setNs, setN_eq, fr_no, fr_at, asgT, asgTs, R.bin, c_eq, c_ne, c_lt, c_le, c_gt, c_ge, c_is, c_isn, c_eqo, isNon_oE, c_eqB, c_neB, c_eqNN, R.idx, R.slc, isNon_non, isNon_int, isNon_tup, isNon_lst, outs, leaf, R.blt, mostLen, isiOne, tyOf, intsOf, boolsOf, B_l_clamp, c_in2, g0, g1, mk, oE_none, oE_some])
  · exact body (some l) (some l) ⟨by simp [okC], by simpa using hl, ht, by simpa using hl⟩ (by subst z; simp [R.run, R.start, ebs, lev_s, lev_e, stepS, stepE, evv, evs, evss, evt, evAnd, evOr, evas, evo, evc, params, back, ioOf, setIo,  setNs, setN_eq, fr_no, fr_at, asgT, asgTs, R.bin, c_eq, c_ne, c_lt, c_le, c_gt, c_ge, c_is, c_isn, c_eqo, isNon_oE, c_eqB, c_neB, c_eqNN, R.idx, R.slc, isNon_non, isNon_int, isNon_tup, isNon_lst, outs, leaf, R.blt, mostLen, isiOne, tyOf, intsOf, boolsOf, B_l_clamp, c_in2, g0, g1, mk, oE_none, oE_some])
/-! ### the due -/
def F_l_clamped : Fn
  | [(.sh, d), (.sh, .int x)] => (match asC d with | some c => some (.sh, .int (lcI c x), []) | none => none)
  | _ => none
theorem r_l_clamped (Φ : Tab) : ∀ q r, F_l_clamped q = some r → q.length = 2 ∧ R.run Φ 24 N_l_clamped.length B_l_clamped q = some r := by
  intro q r h
  match q, h with
  | [(.sh, d), (.sh, .int x)], h =>
    refine ⟨rfl, ?_⟩
    simp only [F_l_clamped] at h
    split at h
    · rename_i c hc
      cases h
      obtain ⟨b, rfl⟩ := asC_mk hc
      obtain ⟨l, s, hh⟩ := c
      cases l with
      | none => cases hh <;> cases b <;> simp [R.run, R.start, ebs, lev_s, lev_e, stepS, stepE, evv, evs, evss, evt, evAnd, evOr, evas, evo, evc, params, back, ioOf, setIo,  setNs, setN_eq, fr_no, fr_at, asgT, asgTs, R.bin, c_eq, c_ne, c_lt, c_le, c_gt, c_ge, c_is, c_isn, c_eqo, isNon_oE, c_eqB, c_neB, c_eqNN, R.idx, R.slc, isNon_non, isNon_int, isNon_tup, isNon_lst, outs, leaf, R.blt, mostLen, isiOne, tyOf, intsOf, boolsOf, R.run, N_l_clamped, B_l_clamped, mk, oE_none, oE_some, lcI]
      | some l => by_cases p : x + s < l <;> cases hh <;> cases b <;> simp [R.run, R.start, ebs, lev_s, lev_e, stepS, stepE, evv, evs, evss, evt, evAnd, evOr, evas, evo, evc, params, back, ioOf, setIo,  setNs, setN_eq, fr_no, fr_at, asgT, asgTs, R.bin, c_eq, c_ne, c_lt, c_le, c_gt, c_ge, c_is, c_isn, c_eqo, isNon_oE, c_eqB, c_neB, c_eqNN, R.idx, R.slc, isNon_non, isNon_int, isNon_tup, isNon_lst, outs, leaf, R.blt, mostLen, isiOne, tyOf, intsOf, boolsOf, R.run, N_l_clamped, B_l_clamped, mk, oE_none, oE_some, lcI, p]
    · cases h
theorem filt {N A B : Nat} (h1 : A ≤ B) (h2 : B < N) {p : Nat → Bool} (hp : ∀ k, k < N → (p k = true ↔ A ≤ k ∧ k ≤ B)) : (List.range N).filter p = List.range' A (B + 1 - A) := by
  have e : List.range N = List.range' 0 A ++ (List.range' A (B + 1 - A) ++ List.range' (B + 1) (N - (B + 1))) := by
    rw [List.range_eq_range']
    have e1 : List.range' A (B + 1 - A) ++ List.range' (B + 1) (N - (B + 1)) = List.range' A (N - A) := by
      have := List.range'_append (s := A) (m := B + 1 - A) (n := N - (B + 1)) (step := 1)
      rw [show A + 1 * (B + 1 - A) = B + 1 by omega] at this
      rw [this]; congr 1; omega
    rw [e1]
    have := List.range'_append (s := 0) (m := A) (n := N - A) (step := 1)
    rw [show 0 + 1 * A = A by omega] at this
    rw [this]; congr 1; omega
  rw [e, List.filter_append, List.filter_append]
  have f1 : (List.range' 0 A).filter p = [] := List.filter_eq_nil_iff.mpr fun k hk => by
    have := List.mem_range'_1.mp hk
    intro z; have := (hp k (by omega)).mp z; omega
  have f2 : (List.range' (B + 1) (N - (B + 1))).filter p = [] := List.filter_eq_nil_iff.mpr fun k hk => by
    have := List.mem_range'_1.mp hk
    intro z; have := (hp k (by omega)).mp z; omega
  have f3 : (List.range' A (B + 1 - A)).filter p = List.range' A (B + 1 - A) := List.filter_eq_self.mpr fun k hk => by
    have := List.mem_range'_1.mp hk
    exact (hp k (by omega)).mpr (by omega)
  rw [f1, f2, f3]; simp
def gI (k : Nat) : D := .int (-60 + (k : Int))
def okW (c : C) (x : Int) (d : D) : Bool := match d with | .int n => decide (lcI c n = x) | _ => false
theorem due_list {c : C} (b : bC c) {x : Int} (hx : -14 ≤ x ∧ x ≤ 14) : (rngOf (-60) 61).filter (okW c x) =
    if madeI c (x - (formI c).2.1) = x then (List.range' (wayA c x + 60).toNat ((wayB c x + 60).toNat + 1 - (wayA c x + 60).toNat)).map gI else [] := by
  have e : rngOf (-60) 61 = (List.range 121).map gI := rfl
  rw [e, List.filter_map]
  by_cases m : madeI c (x - (formI c).2.1) = x
  · rw [if_pos m]
    congr 1
    have hs : -14 - 9 ≤ x - (formI c).2.1 ∧ x - (formI c).2.1 ≤ 14 + 9 := by
      have := b.2.2.1
      have : (formI c).2.1 = 0 ∨ (formI c).2.1 = c.2.1 := by
        obtain ⟨l, s, h⟩ := c
        cases l <;> cases h <;> simp [formI]
        rename_i l h
        by_cases z : l = h <;> simp [z]
      omega
    have hA : -60 ≤ wayA c x ∧ wayA c x ≤ 60 := by unfold wayA; split <;> omega
    have hB : -60 ≤ wayB c x ∧ wayB c x ≤ 60 := by unfold wayB; split <;> omega
    have hAB : wayA c x ≤ wayB c x := by unfold wayA wayB; split <;> split <;> omega
    apply filt (by omega) (by omega)
    intro k hk
    have := (way b hx (n := -60 + (k : Int)) (by omega)).1 m
    simp only [Function.comp, gI, okW, decide_eq_true_eq, lcI_made b.1, this]
    omega
  · rw [if_neg m]
    have : (List.range 121).filter (okW c x ∘ gI) = [] := List.filter_eq_nil_iff.mpr fun k hk => by
      have hk := List.mem_range.mp hk
      have := (way b hx (n := -60 + (k : Int)) (by omega)).2 m
      simp only [Function.comp, gI, okW, decide_eq_true_eq, lcI_made b.1]
      exact this
    rw [this]; rfl
theorem pls_int (ns : List Nat) : D.pls (ns.map gI) = true := by
  induction ns with
  | nil => rfl
  | cons n ns ih => simp [D.pls, gI, D.pl]; exact ih
theorem lay_int (ns : List Nat) : PyData.canLayAll0 (D.pys (ns.map gI)) = true := by
  induction ns with
  | nil => rfl
  | cons n ns ih => simp [D.pys, gI, D.py, PyData.canLayAll0, PyData.canLay0]; exact ih
theorem dep_int (ns : List Nat) : PyData.depthAll (D.pys (ns.map gI)) ≤ 1 := by
  induction ns with
  | nil => simp [D.pys, PyData.depthAll]
  | cons n ns ih => simp [D.pys, gI, D.py, PyData.depthAll, PyData.depth]; exact ih
theorem c_eqL (ns : List Nat) : R.cmp .eq (.lst (ns.map gI)) (.lst []) = some ns.isEmpty := by
  have w : (D.lst (ns.map gI)).wf = true := by
    simp only [D.wf, D.pl, D.py, SeqAt.shaped, PyData.canLay0, PyData.depth, pls_int, lay_int, Bool.true_and, decide_eq_true_eq]
    have := dep_int ns
    omega
  have w2 : (D.lst []).wf = true := rfl
  simp only [R.cmp, eqq, w, w2, Bool.and_self, if_true]
  cases ns <;> simp [eqd, D.py, D.pys, PyData.eqv, PyData.eqvAll]
end K

set_option Elab.async false
set_option linter.all false
set_option maxRecDepth 100000
set_option maxHeartbeats 4000000
namespace K
open PySem R
def F_clamp_behind : Fn
  | [(.sh, d), (.sh, e)] => (match asC d, asC e with | some a, some b => some (.sh, mk true (behI a b), []) | _, _ => none)
  | _ => none
theorem g0 (a b c : D) : getAt [a, b, c] 0 = some a := rfl
theorem g1 (a b c : D) : getAt [a, b, c] 1 = some b := rfl
theorem g2 (a b c : D) : getAt [a, b, c] 2 = some c := rfl
theorem ix0 (k : Bool) (c : C) : R.idx (mk k c) (.int 0) = some (oE c.1) := by cases k <;> rfl
theorem ix1 (k : Bool) (c : C) : R.idx (mk k c) (.int 1) = some (.int c.2.1) := by cases k <;> rfl
theorem ix2 (k : Bool) (c : C) : R.idx (mk k c) (.int 2) = some (oE c.2.2) := by cases k <;> rfl
theorem f_made (k : Bool) (c : C) (x : Int) : F_made [(.sh, mk k c), (.sh, .int x)] = some (.sh, .int (madeI c x), []) := by
  simp [F_made, mk_asC]
theorem f_form_t (l h : Option Int) (s : Int) : F_form_of [(.sh, .tup [oE l, .int s, oE h])] = some (.sh, mk true (formI (l, s, h)), []) := by
  have : D.tup [oE l, .int s, oE h] = mk true (l, s, h) := rfl
  rw [this]; simp [F_form_of, mk_asC]
theorem r_clamp_behind (Φ : Tab) (h1 : Φ.fn "made" = some F_made) (h2 : Φ.fn "form_of" = some F_form_of) : ∀ q r, F_clamp_behind q = some r → q.length = 2 ∧ R.run Φ 24 N_clamp_behind.length B_clamp_behind q = some r := by
  intro q r h
  unfold F_clamp_behind at h
  split at h
  · rename_i d e
    split at h
    · rename_i a b ha hb
      cases h
      refine ⟨rfl, ?_⟩
      obtain ⟨k, rfl⟩ := asC_mk ha
      obtain ⟨k', rfl⟩ := asC_mk hb
      have fm := f_made k' b
      obtain ⟨l, s, h⟩ := a
      obtain ⟨l', s', h'⟩ := b
      cases l <;> cases h
      · have ff := f_form_t l' h' (s + s')
        simp [R.run, R.start, ebs, lev_s, lev_e, stepS, stepE, evv, evs, evss, evt, evAnd, evOr, evas, evo, evc, params, back, ioOf, setIo,  setNs, setN_eq, fr_no, fr_at, asgT, asgTs, b_add, b_sub, c_eq, c_ne, c_lt, c_le, c_gt, c_ge, c_is, c_isn, c_eqo, isNon_oE, c_eqB, c_neB, c_eqNN, R.slc, isNon_non, isNon_int, isNon_tup, isNon_lst, outs, leaf, R.blt, mostLen, isiOne, tyOf, intsOf, boolsOf, R.run, B_clamp_behind, N_clamp_behind, h1, h2, fm, ff, ix0, ix1, ix2, oE_none, behI]
      · rename_i h
        have ff := f_form_t l' (some (madeI (l', s', h') h)) (s + s')
        simp only [oE_some] at ff
        simp [R.run, R.start, ebs, lev_s, lev_e, stepS, stepE, evv, evs, evss, evt, evAnd, evOr, evas, evo, evc, params, back, ioOf, setIo,  setNs, setN_eq, fr_no, fr_at, asgT, asgTs, b_add, b_sub, c_eq, c_ne, c_lt, c_le, c_gt, c_ge, c_is, c_isn, c_eqo, isNon_oE, c_eqB, c_neB, c_eqNN, R.slc, isNon_non, isNon_int, isNon_tup, isNon_lst, outs, leaf, R.blt, mostLen, isiOne, tyOf, intsOf, boolsOf, R.run, B_clamp_behind, N_clamp_behind, h1, h2, fm, ff, ix0, ix1, ix2, oE_none, oE_some, behI]
      · rename_i l
        have ff := f_form_t (some (madeI (l', s', h') l)) h' (s + s')
        simp only [oE_some] at ff
        simp [R.run, R.start, ebs, lev_s, lev_e, stepS, stepE, evv, evs, evss, evt, evAnd, evOr, evas, evo, evc, params, back, ioOf, setIo,  setNs, setN_eq, fr_no, fr_at, asgT, asgTs, b_add, b_sub, c_eq, c_ne, c_lt, c_le, c_gt, c_ge, c_is, c_isn, c_eqo, isNon_oE, c_eqB, c_neB, c_eqNN, R.slc, isNon_non, isNon_int, isNon_tup, isNon_lst, outs, leaf, R.blt, mostLen, isiOne, tyOf, intsOf, boolsOf, R.run, B_clamp_behind, N_clamp_behind, h1, h2, fm, ff, ix0, ix1, ix2, oE_none, oE_some, behI]
      · rename_i l h
        have ff := f_form_t (some (madeI (l', s', h') l)) (some (madeI (l', s', h') h)) (s + s')
        simp only [oE_some] at ff
        simp [R.run, R.start, ebs, lev_s, lev_e, stepS, stepE, evv, evs, evss, evt, evAnd, evOr, evas, evo, evc, params, back, ioOf, setIo,  setNs, setN_eq, fr_no, fr_at, asgT, asgTs, b_add, b_sub, c_eq, c_ne, c_lt, c_le, c_gt, c_ge, c_is, c_isn, c_eqo, isNon_oE, c_eqB, c_neB, c_eqNN, R.slc, isNon_non, isNon_int, isNon_tup, isNon_lst, outs, leaf, R.blt, mostLen, isiOne, tyOf, intsOf, boolsOf, R.run, B_clamp_behind, N_clamp_behind, h1, h2, fm, ff, ix0, ix1, ix2, oE_none, oE_some, behI]
    · cases h
  · cases h
def F_formed : Fn
  | [(.sh, d)] => (match asC d with | some c => if okC c then some (.sh, mk true (formI c), []) else none | none => none)
  | _ => none
theorem f_formed {c : C} (ok : okC c = true) (k : Bool) : F_formed [(.sh, mk k c)] = some (.sh, mk true (formI c), []) := by simp [F_formed, mk_asC, ok]
theorem r_formed (Φ : Tab) (h1 : Φ.fn "check_clamp" = some F_check_clamp) (h2 : Φ.fn "form_of" = some F_form_of) : ∀ q r, F_formed q = some r → q.length = 1 ∧ R.run Φ 24 N_formed.length B_formed q = some r := by
  intro q r h
  unfold F_formed at h
  split at h
  · rename_i d
    split at h
    · rename_i c hc
      split at h
      · rename_i ok
        cases h
        refine ⟨rfl, ?_⟩
        simp [R.run, R.start, ebs, lev_s, lev_e, stepS, stepE, evv, evs, evss, evt, evAnd, evOr, evas, evo, evc, params, back, ioOf, setIo,  setNs, setN_eq, fr_no, fr_at, asgT, asgTs, b_add, b_sub, c_eq, c_ne, c_lt, c_le, c_gt, c_ge, c_is, c_isn, c_eqo, isNon_oE, c_eqB, c_neB, c_eqNN, R.slc, isNon_non, isNon_int, isNon_tup, isNon_lst, outs, leaf, R.blt, mostLen, isiOne, tyOf, intsOf, boolsOf, R.run, B_formed, N_formed, h1, h2, F_check_clamp, F_form_of, hc, ok]
      · cases h
    · cases h
  · cases h
/-! ### lists of clamps -/
def asCs : List D → Option (List C)
  | [] => some []
  | d :: r => match asC d, asCs r with
    | some c, some cs => some (c :: cs)
    | _, _ => none
theorem asCs_mk (ks : List Bool) (cs : List C) (h : ks.length = cs.length) : asCs (List.zipWith mk ks cs) = some cs := by
  induction cs generalizing ks with
  | nil => cases ks <;> rfl
  | cons c cs ih =>
    cases ks with
    | nil => cases h
    | cons k ks => simp [asCs, mk_asC, ih ks (by simpa using h)]
theorem asCs_map (cs : List C) : asCs (cs.map (mk true)) = some cs := by
  induction cs with
  | nil => rfl
  | cons c cs ih => simp [asCs, mk_asC, ih]
def F_joined_of : Fn
  | [(.sh, .lst ds)] => (match asCs ds with | some cs => some (.sh, mk true (joinI cs), []) | none => none)
  | _ => none
theorem jo_go (Φ : Tab) (h1 : Φ.fn "clamp_behind" = some F_clamp_behind) (L : D) : ∀ (ds : List D) (cs : List C) (a : C) (s2 : Slot), asCs ds = some cs → fr s2 = true → ∃ s2', forGo (lev Φ 23).s (.nm 2) [.set 1 (.call "clamp_behind" [.v (.var 1), .v (.var 2)])] ds [.at false .sh L, .at false .sh (mk true a), s2] = some (.nx [.at false .sh L, .at false .sh (mk true (cs.foldl behI a)), s2'])
  | [], cs, a, s2, h, f => by cases h; exact ⟨s2, rfl⟩
  | d :: ds, cs, a, s2, h, f => by
    unfold asCs at h
    split at h
    · rename_i c cs' hc hcs
      cases h
      obtain ⟨s2', e⟩ := jo_go Φ h1 L ds cs' (behI a c) (.at false .sh d) hcs rfl
      refine ⟨s2', ?_⟩
      have e1 : asgT (.nm 2) d [.at false .sh L, .at false .sh (mk true a), s2] = some [.at false .sh L, .at false .sh (mk true a), .at false .sh d] := by simp [R.run, R.start, ebs, lev_s, lev_e, stepS, stepE, evv, evs, evss, evt, evAnd, evOr, evas, evo, evc, params, back, ioOf, setIo,  setNs, setN_eq, fr_no, fr_at, asgT, asgTs, b_add, b_sub, c_eq, c_ne, c_lt, c_le, c_gt, c_ge, c_is, c_isn, c_eqo, isNon_oE, c_eqB, c_neB, c_eqNN, R.slc, isNon_non, isNon_int, isNon_tup, isNon_lst, outs, leaf, R.blt, mostLen, isiOne, tyOf, intsOf, boolsOf, f]
      have e2 : ebs (lev Φ 23).s [.set 1 (.call "clamp_behind" [.v (.var 1), .v (.var 2)])] [.at false .sh L, .at false .sh (mk true a), .at false .sh d] = some (.nx [.at false .sh L, .at false .sh (mk true (behI a c)), .at false .sh d]) := by
        simp [R.run, R.start, ebs, lev_s, lev_e, stepS, stepE, evv, evs, evss, evt, evAnd, evOr, evas, evo, evc, params, back, ioOf, setIo,  setNs, setN_eq, fr_no, fr_at, asgT, asgTs, b_add, b_sub, c_eq, c_ne, c_lt, c_le, c_gt, c_ge, c_is, c_isn, c_eqo, isNon_oE, c_eqB, c_neB, c_eqNN, R.slc, isNon_non, isNon_int, isNon_tup, isNon_lst, outs, leaf, R.blt, mostLen, isiOne, tyOf, intsOf, boolsOf, h1, F_clamp_behind, mk_asC, hc]
      simp only [forGo, e1, e2]
      exact e
    · cases h
theorem r_joined_of (Φ : Tab) (h1 : Φ.fn "clamp_behind" = some F_clamp_behind) (h2 : Φ.gl "STAYING" = some (.tup [.non, .int 0, .non])) : ∀ q r, F_joined_of q = some r → q.length = 1 ∧ R.run Φ 24 N_joined_of.length B_joined_of q = some r := by
  intro q r h
  unfold F_joined_of at h
  split at h
  · rename_i ds
    split at h
    · rename_i cs hc
      cases h
      refine ⟨rfl, ?_⟩
      obtain ⟨s2', e⟩ := jo_go Φ h1 (.lst ds) ds cs (none, 0, none) .no hc rfl
      apply run_rt
      · refine ebs_nx (v' := [.at false .sh (.lst ds), .at false .sh (mk true (none, 0, none)), .no]) ?_ ?_
        · simp [R.run, R.start, ebs, lev_s, lev_e, stepS, stepE, evv, evs, evss, evt, evAnd, evOr, evas, evo, evc, params, back, ioOf, setIo,  setNs, setN_eq, fr_no, fr_at, asgT, asgTs, b_add, b_sub, c_eq, c_ne, c_lt, c_le, c_gt, c_ge, c_is, c_isn, c_eqo, isNon_oE, c_eqB, c_neB, c_eqNN, R.slc, isNon_non, isNon_int, isNon_tup, isNon_lst, outs, leaf, R.blt, mostLen, isiOne, tyOf, intsOf, boolsOf, N_joined_of, h2, mk, oE_none]
        refine ebs_nx (v' := [.at false .sh (.lst ds), .at false .sh (mk true (joinI cs)), s2']) ?_ ?_
        · simp [R.run, R.start, ebs, lev_s, lev_e, stepS, stepE, evv, evs, evss, evt, evAnd, evOr, evas, evo, evc, params, back, ioOf, setIo,  setNs, setN_eq, fr_no, fr_at, asgT, asgTs, b_add, b_sub, c_eq, c_ne, c_lt, c_le, c_gt, c_ge, c_is, c_isn, c_eqo, isNon_oE, c_eqB, c_neB, c_eqNN, R.slc, isNon_non, isNon_int, isNon_tup, isNon_lst, outs, leaf, R.blt, mostLen, isiOne, tyOf, intsOf, boolsOf, evi, e, joinI]
        apply ebs_rt
        simp [R.run, R.start, ebs, lev_s, lev_e, stepS, stepE, evv, evs, evss, evt, evAnd, evOr, evas, evo, evc, params, back, ioOf, setIo,  setNs, setN_eq, fr_no, fr_at, asgT, asgTs, b_add, b_sub, c_eq, c_ne, c_lt, c_le, c_gt, c_ge, c_is, c_isn, c_eqo, isNon_oE, c_eqB, c_neB, c_eqNN, R.slc, isNon_non, isNon_int, isNon_tup, isNon_lst, outs, leaf, R.blt, mostLen, isiOne, tyOf, intsOf, boolsOf]
        rfl
      · rfl
    · cases h
  · cases h
def F_joined : Fn
  | [(.sh, .lst ds)] => (match asCs ds with | some cs => if cs.all okC then some (.sh, mk true (joinI cs), []) else none | none => none)
  | _ => none
theorem jn_go (Φ : Tab) (h1 : Φ.fn "is_clamp" = some F_is_clamp) (L : D) : ∀ (ds : List D) (cs : List C) (n : Nat) (s1 s2 : Slot), asCs ds = some cs → cs.all okC = true → fr s1 = true → fr s2 = true → ∃ s1' s2', forGo (lev Φ 23).s (.tp [(.nm 1), (.nm 2)]) [.ite (.not (.call "is_clamp" [.v (.var 2)])) [.raise_] []] ((ds.zipIdx n).map fun p => .tup [.int p.2, p.1]) [.at false .sh L, s1, s2] = some (.nx [.at false .sh L, s1', s2'])
  | [], cs, n, s1, s2, h, _, f1, f2 => ⟨s1, s2, rfl⟩
  | d :: ds, cs, n, s1, s2, h, ok, f1, f2 => by
    unfold asCs at h
    split at h
    · rename_i c cs' hc hcs
      cases h
      simp only [List.all_cons, Bool.and_eq_true] at ok
      obtain ⟨s1', s2', e⟩ := jn_go Φ h1 L ds cs' (n + 1) (.at false .sh (.int n)) (.at false .sh d) hcs ok.2 rfl rfl
      refine ⟨s1', s2', ?_⟩
      have e1 : asgT (.tp [(.nm 1), (.nm 2)]) (.tup [.int n, d]) [.at false .sh L, s1, s2] = some [.at false .sh L, .at false .sh (.int n), .at false .sh d] := by simp [R.run, R.start, ebs, lev_s, lev_e, stepS, stepE, evv, evs, evss, evt, evAnd, evOr, evas, evo, evc, params, back, ioOf, setIo,  setNs, setN_eq, fr_no, fr_at, asgT, asgTs, b_add, b_sub, c_eq, c_ne, c_lt, c_le, c_gt, c_ge, c_is, c_isn, c_eqo, isNon_oE, c_eqB, c_neB, c_eqNN, R.slc, isNon_non, isNon_int, isNon_tup, isNon_lst, outs, leaf, R.blt, mostLen, isiOne, tyOf, intsOf, boolsOf, f1, f2]
      have e2 : ebs (lev Φ 23).s [.ite (.not (.call "is_clamp" [.v (.var 2)])) [.raise_] []] [.at false .sh L, .at false .sh (.int n), .at false .sh d] = some (.nx [.at false .sh L, .at false .sh (.int n), .at false .sh d]) := by
        simp [R.run, R.start, ebs, lev_s, lev_e, stepS, stepE, evv, evs, evss, evt, evAnd, evOr, evas, evo, evc, params, back, ioOf, setIo,  setNs, setN_eq, fr_no, fr_at, asgT, asgTs, b_add, b_sub, c_eq, c_ne, c_lt, c_le, c_gt, c_ge, c_is, c_isn, c_eqo, isNon_oE, c_eqB, c_neB, c_eqNN, R.slc, isNon_non, isNon_int, isNon_tup, isNon_lst, outs, leaf, R.blt, mostLen, isiOne, tyOf, intsOf, boolsOf, h1, F_is_clamp, hc, ok.1]
      simp only [List.zipIdx_cons, List.map_cons, forGo, e1, e2]
      exact e
    · cases h
theorem r_joined (Φ : Tab) (h1 : Φ.fn "is_clamp" = some F_is_clamp) (h2 : Φ.fn "is_list" = some F_is_list) (h3 : Φ.fn "joined_of" = some F_joined_of) : ∀ q r, F_joined q = some r → q.length = 1 ∧ R.run Φ 24 N_joined.length B_joined q = some r := by
  intro q r h
  unfold F_joined at h
  split at h
  · rename_i ds
    split at h
    · rename_i cs hc
      split at h
      · rename_i ok
        cases h
        refine ⟨rfl, ?_⟩
        obtain ⟨s1', s2', e⟩ := jn_go Φ h1 (.lst ds) ds cs 0 .no .no hc ok rfl rfl
        apply run_rt
        · refine ebs_nx (v' := [.at false .sh (.lst ds), .no, .no]) ?_ ?_
          · simp [R.run, R.start, ebs, lev_s, lev_e, stepS, stepE, evv, evs, evss, evt, evAnd, evOr, evas, evo, evc, params, back, ioOf, setIo,  setNs, setN_eq, fr_no, fr_at, asgT, asgTs, b_add, b_sub, c_eq, c_ne, c_lt, c_le, c_gt, c_ge, c_is, c_isn, c_eqo, isNon_oE, c_eqB, c_neB, c_eqNN, R.slc, isNon_non, isNon_int, isNon_tup, isNon_lst, outs, leaf, R.blt, mostLen, isiOne, tyOf, intsOf, boolsOf, N_joined, h2, F_is_list, isSeq]
          refine ebs_nx (v' := [.at false .sh (.lst ds), s1', s2']) ?_ ?_
          · simp [R.run, R.start, ebs, lev_s, lev_e, stepS, stepE, evv, evs, evss, evt, evAnd, evOr, evas, evo, evc, params, back, ioOf, setIo,  setNs, setN_eq, fr_no, fr_at, asgT, asgTs, b_add, b_sub, c_eq, c_ne, c_lt, c_le, c_gt, c_ge, c_is, c_isn, c_eqo, isNon_oE, c_eqB, c_neB, c_eqNN, R.slc, isNon_non, isNon_int, isNon_tup, isNon_lst, outs, leaf, R.blt, mostLen, isiOne, tyOf, intsOf, boolsOf, evi, e]
          apply ebs_rt
          simp [R.run, R.start, ebs, lev_s, lev_e, stepS, stepE, evv, evs, evss, evt, evAnd, evOr, evas, evo, evc, params, back, ioOf, setIo,  setNs, setN_eq, fr_no, fr_at, asgT, asgTs, b_add, b_sub, c_eq, c_ne, c_lt, c_le, c_gt, c_ge, c_is, c_isn, c_eqo, isNon_oE, c_eqB, c_neB, c_eqNN, R.slc, isNon_non, isNon_int, isNon_tup, isNon_lst, outs, leaf, R.blt, mostLen, isiOne, tyOf, intsOf, boolsOf, h3, F_joined_of, hc]
          rfl
        · rfl
      · cases h
    · cases h
  · cases h
/-! ### the law's own -/
theorem c_neN (x : Int) : R.cmp .ne (.int x) .non = some true := rfl
theorem c_neo (x : Int) (l : Option Int) : R.cmp .ne (.int x) (oE l) = some (decide (l ≠ some x)) := by
  cases l with
  | none => rfl
  | some l => rw [oE_some, c_ne]; congr 1; simp [eq_comm]
theorem sp_is_form (Φ : Tab) {c : C} (ok : okC c = true) (ff : formI c = c) : R.run Φ 24 N_l_is_form.length B_l_is_form [(.sh, mk true c)] = some (.sh, .bl true, []) := by
  obtain ⟨l, s, h⟩ := c
  cases l with
  | none => cases h <;> simp [R.run, R.start, ebs, lev_s, lev_e, stepS, stepE, evv, evs, evss, evt, evAnd, evOr, evas, evo, evc, params, back, ioOf, setIo,  setNs, setN_eq, fr_no, fr_at, asgT, asgTs, b_add, b_sub, c_eq, c_ne, c_lt, c_le, c_gt, c_ge, c_is, c_isn, c_eqo, isNon_oE, c_eqB, c_neB, c_eqNN, R.slc, isNon_non, isNon_int, isNon_tup, isNon_lst, outs, leaf, R.blt, mostLen, isiOne, tyOf, intsOf, boolsOf, R.run, B_l_is_form, N_l_is_form, mk, oE_none, oE_some, evi, lcGo, wipeE]
  | some l => cases h with
    | none => simp [R.run, R.start, ebs, lev_s, lev_e, stepS, stepE, evv, evs, evss, evt, evAnd, evOr, evas, evo, evc, params, back, ioOf, setIo,  setNs, setN_eq, fr_no, fr_at, asgT, asgTs, b_add, b_sub, c_eq, c_ne, c_lt, c_le, c_gt, c_ge, c_is, c_isn, c_eqo, isNon_oE, c_eqB, c_neB, c_eqNN, R.slc, isNon_non, isNon_int, isNon_tup, isNon_lst, outs, leaf, R.blt, mostLen, isiOne, tyOf, intsOf, boolsOf, R.run, B_l_is_form, N_l_is_form, mk, oE_none, oE_some, evi, lcGo, wipeE, c_neN]
    | some h =>
      have o : ¬ h < l := by have : l ≤ h := by simpa [okC] using ok
                             omega
      by_cases z : l = h
      · subst z
        have hs : s = 0 := by simp [formI] at ff; omega
        simp [R.run, R.start, ebs, lev_s, lev_e, stepS, stepE, evv, evs, evss, evt, evAnd, evOr, evas, evo, evc, params, back, ioOf, setIo,  setNs, setN_eq, fr_no, fr_at, asgT, asgTs, b_add, b_sub, c_eq, c_ne, c_lt, c_le, c_gt, c_ge, c_is, c_isn, c_eqo, isNon_oE, c_eqB, c_neB, c_eqNN, R.slc, isNon_non, isNon_int, isNon_tup, isNon_lst, outs, leaf, R.blt, mostLen, isiOne, tyOf, intsOf, boolsOf, R.run, B_l_is_form, N_l_is_form, mk, oE_none, oE_some, evi, lcGo, wipeE, hs]
      · simp [R.run, R.start, ebs, lev_s, lev_e, stepS, stepE, evv, evs, evss, evt, evAnd, evOr, evas, evo, evc, params, back, ioOf, setIo,  setNs, setN_eq, fr_no, fr_at, asgT, asgTs, b_add, b_sub, c_eq, c_ne, c_lt, c_le, c_gt, c_ge, c_is, c_isn, c_eqo, isNon_oE, c_eqB, c_neB, c_eqNN, R.slc, isNon_non, isNon_int, isNon_tup, isNon_lst, outs, leaf, R.blt, mostLen, isiOne, tyOf, intsOf, boolsOf, R.run, B_l_is_form, N_l_is_form, mk, oE_none, oE_some, evi, lcGo, wipeE, o, z]
/-- the law's clamps: near the middle -/
def nC (c : C) : Prop := okC c = true ∧ inB 11 c
theorem nC_of {c : C} (b : bC c) : nC c := ⟨b.1, fun l h => by have := b.2.1 l h; omega, by have := b.2.2.1; omega, fun l h => by have := b.2.2.2 l h; omega⟩
theorem pick4 (s : Ds) : ∃ t : Int, (-2 ≤ t ∧ t ≤ 1) ∧ F_l_pick [(.lst, dr s), (.sh, .lst [.int 0, .int 0, .int 1, .int (-2)])] = some (.sh, .int t, [dr (drawS s 4)]) := by
  have hk := drawK_lt s (m := 4) (by omega)
  have hc : drawK s 4 = 0 ∨ drawK s 4 = 1 ∨ drawK s 4 = 2 ∨ drawK s 4 = 3 := by omega
  rw [pick_dr]
  rcases hc with h | h | h | h
  · exact ⟨0, by omega, by simp [h]⟩
  · exact ⟨0, by omega, by simp [h]⟩
  · exact ⟨1, by omega, by simp [h]⟩
  · exact ⟨-2, by omega, by simp [h]⟩
theorem sp_near (Φ : Tab) (h1 : Φ.fn "_law_draw" = some F_l_draw) (h2 : Φ.fn "_law_pick" = some F_l_pick) (s0 : Ds) {c : C} (b : bC c) : ∃ c' s', nC c' ∧ R.run Φ 24 N_l_near.length B_l_near [(.lst, dr s0), (.sh, mk true c)] = some (.sh, mk true c', [dr s']) := by
  obtain ⟨l, s, h⟩ := c
  obtain ⟨ok, bl, bs, bh⟩ := b
  simp only at bl bs bh
  obtain ⟨w, ew⟩ : ∃ w, w = drawK s0 5 := ⟨_, rfl⟩
  have kw := drawK_lt s0 (m := 5) (by omega)
  rw [← ew] at kw
  obtain ⟨t, ht, hp⟩ := pick4 (drawS s0 5)
  have hc : w = 0 ∨ w = 1 ∨ w = 2 ∨ w = 3 ∨ w = 4 := by omega
  have key : ∀ c', nC c' → (ebs (lev Φ 24).s (B_l_near.drop 2) [.at true .lst (dr (drawS (drawS s0 5) 4)), .at false .sh (mk true (l, s, h)), .at false .sh (oE l), .at false .sh (.int (s + t)), .at false .sh (oE h), .at false .sh (.int w)] = some (.rt .sh (mk true c') [.at true .lst (dr (drawS (drawS s0 5) 4)), .at false .sh (mk true (l, s, h)), .at false .sh (oE (if w = 0 then l.map (· - 1) else l)), .at false .sh (.int (s + t)), .at false .sh (oE (if w = 1 then h.map (· + 1) else h)), .at false .sh (.int w)])) → ∃ c' s', nC c' ∧ R.run Φ 24 N_l_near.length B_l_near [(.lst, dr s0), (.sh, mk true (l, s, h))] = some (.sh, mk true c', [dr s']) := by
    intro c' hn he
    refine ⟨c', drawS (drawS s0 5) 4, hn, ?_⟩
    apply run_rt
    · refine ebs_nx (v' := [.at true .lst (dr s0), .at false .sh (mk true (l, s, h)), .at false .sh (oE l), .at false .sh (.int s), .at false .sh (oE h), .no]) ?_ ?_
      · simp [R.run, R.start, ebs, lev_s, lev_e, stepS, stepE, evv, evs, evss, evt, evAnd, evOr, evas, evo, evc, params, back, ioOf, setIo,  setNs, setN_eq, fr_no, fr_at, asgT, asgTs, b_add, b_sub, c_eq, c_ne, c_lt, c_le, c_gt, c_ge, c_is, c_isn, c_eqo, isNon_oE, c_eqB, c_neB, c_eqNN, R.slc, isNon_non, isNon_int, isNon_tup, isNon_lst, outs, leaf, R.blt, mostLen, isiOne, tyOf, intsOf, boolsOf, N_l_near, mk]
      refine ebs_nx (v' := [.at true .lst (dr (drawS (drawS s0 5) 4)), .at false .sh (mk true (l, s, h)), .at false .sh (oE l), .at false .sh (.int (s + t)), .at false .sh (oE h), .at false .sh (.int w)]) ?_ ?_
      · simp [R.run, R.start, ebs, lev_s, lev_e, stepS, stepE, evv, evs, evss, evt, evAnd, evOr, evas, evo, evc, params, back, ioOf, setIo,  setNs, setN_eq, fr_no, fr_at, asgT, asgTs, b_add, b_sub, c_eq, c_ne, c_lt, c_le, c_gt, c_ge, c_is, c_isn, c_eqo, isNon_oE, c_eqB, c_neB, c_eqNN, R.slc, isNon_non, isNon_int, isNon_tup, isNon_lst, outs, leaf, R.blt, mostLen, isiOne, tyOf, intsOf, boolsOf, h1, h2, draw_dr, hp, ← ew]
      exact he
    · rfl
  have lb : ∀ p, l = some p → -10 ≤ p ∧ p ≤ 10 := bl
  rcases hc with z | z | z | z | z
  · refine key (l.map (· - 1), s + t, h) ⟨?_, ?_, by simp only; omega, fun p hp => by have := bh p hp; omega⟩ ?_
    · cases l <;> cases h <;> simp [okC] at ok ⊢; omega
    · intro p hp; cases l with
      | none => cases hp
      | some l => have := bl l rfl; simp at hp; omega
    · subst z; cases l <;> simp [R.run, R.start, ebs, lev_s, lev_e, stepS, stepE, evv, evs, evss, evt, evAnd, evOr, evas, evo, evc, params, back, ioOf, setIo,  setNs, setN_eq, fr_no, fr_at, asgT, asgTs, b_add, b_sub, c_eq, c_ne, c_lt, c_le, c_gt, c_ge, c_is, c_isn, c_eqo, isNon_oE, c_eqB, c_neB, c_eqNN, R.slc, isNon_non, isNon_int, isNon_tup, isNon_lst, outs, leaf, R.blt, mostLen, isiOne, tyOf, intsOf, boolsOf, B_l_near, oE_none, oE_some, mk]
  · refine key (l, s + t, h.map (· + 1)) ⟨?_, fun p hp => by have := bl p hp; omega, by simp only; omega, ?_⟩ ?_
    · cases l <;> cases h <;> simp [okC] at ok ⊢; omega
    · intro p hp; cases h with
      | none => cases hp
      | some l => have := bh l rfl; simp at hp; omega
    · subst z; cases h <;> simp [R.run, R.start, ebs, lev_s, lev_e, stepS, stepE, evv, evs, evss, evt, evAnd, evOr, evas, evo, evc, params, back, ioOf, setIo,  setNs, setN_eq, fr_no, fr_at, asgT, asgTs, b_add, b_sub, c_eq, c_ne, c_lt, c_le, c_gt, c_ge, c_is, c_isn, c_eqo, isNon_oE, c_eqB, c_neB, c_eqNN, R.slc, isNon_non, isNon_int, isNon_tup, isNon_lst, outs, leaf, R.blt, mostLen, isiOne, tyOf, intsOf, boolsOf, B_l_near, oE_none, oE_some, mk]
  · refine key (h, s + t, h) ⟨?_, fun p hp => by have := bh p hp; omega, by simp only; omega, fun p hp => by have := bh p hp; omega⟩ ?_
    · cases h <;> simp [okC]
    · subst z; simp [R.run, R.start, ebs, lev_s, lev_e, stepS, stepE, evv, evs, evss, evt, evAnd, evOr, evas, evo, evc, params, back, ioOf, setIo,  setNs, setN_eq, fr_no, fr_at, asgT, asgTs, b_add, b_sub, c_eq, c_ne, c_lt, c_le, c_gt, c_ge, c_is, c_isn, c_eqo, isNon_oE, c_eqB, c_neB, c_eqNN, R.slc, isNon_non, isNon_int, isNon_tup, isNon_lst, outs, leaf, R.blt, mostLen, isiOne, tyOf, intsOf, boolsOf, B_l_near, mk]
  · refine key (l, s + t, h) ⟨?_, fun p hp => by have := bl p hp; omega, by simp only; omega, fun p hp => by have := bh p hp; omega⟩ ?_
    · cases l <;> cases h <;> simp [okC] at ok ⊢; omega
    · subst z; simp [R.run, R.start, ebs, lev_s, lev_e, stepS, stepE, evv, evs, evss, evt, evAnd, evOr, evas, evo, evc, params, back, ioOf, setIo,  setNs, setN_eq, fr_no, fr_at, asgT, asgTs, b_add, b_sub, c_eq, c_ne, c_lt, c_le, c_gt, c_ge, c_is, c_isn, c_eqo, isNon_oE, c_eqB, c_neB, c_eqNN, R.slc, isNon_non, isNon_int, isNon_tup, isNon_lst, outs, leaf, R.blt, mostLen, isiOne, tyOf, intsOf, boolsOf, B_l_near, mk]
  · refine key (l, s + t, none) ⟨?_, fun p hp => by have := bl p hp; omega, by simp only; omega, by intro p hp; cases hp⟩ ?_
    · cases l <;> simp [okC]
    · subst z; simp [R.run, R.start, ebs, lev_s, lev_e, stepS, stepE, evv, evs, evss, evt, evAnd, evOr, evas, evo, evc, params, back, ioOf, setIo,  setNs, setN_eq, fr_no, fr_at, asgT, asgTs, b_add, b_sub, c_eq, c_ne, c_lt, c_le, c_gt, c_ge, c_is, c_isn, c_eqo, isNon_oE, c_eqB, c_neB, c_eqNN, R.slc, isNon_non, isNon_int, isNon_tup, isNon_lst, outs, leaf, R.blt, mostLen, isiOne, tyOf, intsOf, boolsOf, B_l_near, mk, oE_none]
end K

set_option Elab.async false
set_option linter.all false
set_option maxRecDepth 100000
set_option maxHeartbeats 4000000
namespace K
open PySem R
theorem blt_len (xs : List D) : R.blt .len [.lst xs] = some (.sh, .int xs.length) := rfl
theorem blt_min (i j : Int) : R.blt .min [.int i, .int j] = some (.sh, .int (if j < i then j else i)) := rfl
theorem blt_list (c : C) : R.blt .list [mk true c] = some (.lst, mk false c) := rfl
theorem blt_all (xs : List D) : R.blt .all [.lst xs] = (boolsOf xs).map fun bs => (.sh, .bl (bs.all id)) := rfl
theorem blt_any (xs : List D) : R.blt .any [.lst xs] = (boolsOf xs).map fun bs => (.sh, .bl (bs.any id)) := rfl
theorem b_addL {a b : List D} (h : a.length + b.length ≤ 16777216) : R.bin .add (.lst a) (.lst b) = some (.lst, .lst (a ++ b)) := by simp [R.bin, mostLen, h]
theorem slc_l {xs : List D} {i : Int} (h0 : 0 ≤ i) (h1 : i ≤ xs.length) : R.slc (.lst xs) none (some i) = some (.lst, .lst (xs.take i.toNat)) := by
  obtain ⟨k, rfl⟩ := Int.eq_ofNat_of_zero_le h0
  have hk : min k xs.length = k := by omega
  simp only [R.slc, cutD, HT.sIx_nat, HT.sIx_none, hk, Int.toNat_natCast]
  simp
theorem slc_r {xs : List D} {i : Int} (h0 : 0 ≤ i) (h1 : i ≤ xs.length) : R.slc (.lst xs) (some i) none = some (.lst, .lst (xs.drop i.toNat)) := by
  obtain ⟨k, rfl⟩ := Int.eq_ofNat_of_zero_le h0
  have hk : min k xs.length = k := by omega
  simp only [R.slc, cutD, HT.sIx_nat, HT.sIx_none, hk, Int.toNat_natCast]
  rw [List.take_of_length_le (by simp)]
theorem pick_c (s : Ds) (c : C) : ∃ b : Bool, F_l_pick [(.lst, dr s), (.sh, .lst [mk true c, mk false c])] = some (.sh, mk b c, [dr (drawS s 2)]) := by
  have hk := drawK_lt s (m := 2) (by omega)
  have hc : drawK s 2 = 0 ∨ drawK s 2 = 1 := by omega
  rw [pick_dr]
  rcases hc with h | h
  · exact ⟨true, by simp [h]⟩
  · exact ⟨false, by simp [h]⟩
theorem smOk_oE (k : Nat) (a : Option Int) : smOk k (oE a) = true := by cases a <;> cases k <;> rfl
theorem smOk_mk (k : Nat) (c : C) : smOk (k + 1) (mk true c) = true := by
  simp [mk, smOk, smOks, smOk_oE]
theorem c_eqC (a b : C) : R.cmp .eq (mk true a) (mk true b) = some (decide (a = b)) := by
  obtain ⟨l, s, h⟩ := a
  obtain ⟨l', s', h'⟩ := b
  have w : ∀ l s h, (mk true (l, s, h)).wf = true := by
    intro l s h
    cases l <;> cases h <;> rfl
  simp only [R.cmp, eqq, w, Bool.and_self, if_true]
  congr 1
  cases l <;> cases h <;> cases l' <;> cases h' <;> simp [eqd, mk, oE, D.py, D.pys, PyData.eqv, PyData.eqvAll, Bool.beq_eq_decide_eq, Prod.ext_iff, ← Bool.decide_and] <;> (try rw [Bool.eq_iff_iff]; simp)
theorem f_joined {cs : List C} (h : ∀ c ∈ cs, okC c = true) : F_joined [(.sh, .lst (cs.map (mk true)))] = some (.sh, mk true (joinI cs), []) := by
  have : cs.all okC = true := List.all_eq_true.mpr h
  simp [F_joined, asCs_map, this]
theorem f_lc (k : Bool) (c : C) (x : Int) : F_l_clamped [(.sh, mk k c), (.sh, .int x)] = some (.sh, .int (lcI c x), []) := by simp [F_l_clamped, mk_asC]
theorem lc_form {c : C} (ok : okC c = true) (x : Int) : lcI (formI c) x = lcI c x := by
  rw [lcI_made ok, lcI_made (by rw [okC_form]; exact ok), made_form]
theorem in_form {c : C} (h : inB 11 c) : inB 11 (formI c) := by
  obtain ⟨l, s, k⟩ := c
  cases l with
  | none => cases k <;> exact h
  | some l => cases k with
    | none => exact h
    | some k =>
      by_cases z : l = k
      · refine ⟨?_, ?_, ?_⟩
        · simpa [formI, z] using h.2.2
        · simp [formI, z]
        · simpa [formI, z] using h.2.2
      · simpa [formI, z] using h
/-- alike within the span, alike in form -/
theorem span_form {a b : C} (ha : nC a) (hb : nC b) : decide (formI a = formI b) = (List.range 91).all fun k => decide (lcI a (-45 + (k : Int)) = lcI b (-45 + (k : Int))) := by
  rw [Bool.eq_iff_iff, decide_eq_true_eq, List.all_eq_true]
  constructor
  · intro e k _
    rw [decide_eq_true_eq, ← lc_form ha.1, ← lc_form hb.1, e]
  · intro e
    refine uniq (B := 11) (N := 45) (by omega) (by omega) (in_form ha.2) (in_form hb.2) (by rw [okC_form]; exact ha.1) (by rw [okC_form]; exact hb.1) (form_form _) (form_form _) fun x h1 h2 => ?_
    have := e (x + 45).toNat (List.mem_range.mpr (by omega))
    rw [decide_eq_true_eq, lcI_made ha.1, lcI_made hb.1] at this
    rw [made_form, made_form]
    have z : -45 + (((x + 45).toNat : Nat) : Int) = x := by omega
    rwa [z] at this
abbrev bodyIn : List S := [.set 7 (.call "formed" [.v (.call "_law_pick" [.io 2, .v (.lst [.var 6, .blt .list [.var 6]])])]), .ite (.or (.not (.call "_law_is_form" [.v (.var 7)])) [.not (.call "_law_same" [.v (.call "formed" [.v (.var 7)]), .v (.var 7)]), .not (.call "_law_same" [.v (.call "joined" [.v (.lst [.var 6])]), .v (.var 7)])]) [.ret (.c (.bl false))] [], .ite (.not (.blt .all [.lc [8] (.nm 8) (.seq (.var 5)) none (.cmp .eq (.call "_law_clamped" [.v (.var 7), .v (.var 8)]) (.call "_law_clamped" [.v (.var 6), .v (.var 8)]))])) [.ret (.c (.bl false))] []]
abbrev bodyOut : List S := [.set 2 (.call "_law_source" [.io 0, .v (.var 1)]), .set 3 (.call "_law_clamp" [.io 2, .v (.c (.bl false))]), .set 4 (.ite (.cmp .gt (.call "_law_draw" [.io 2, .v (.c (.int 3))]) (.c (.int 0))) (.call "_law_near" [.io 2, .v (.var 3)]) (.call "_law_clamp" [.io 2, .v (.c (.bl false))])), .set 5 (.lrng [.neg (.c (.int 45)), .c (.int 46)]), .fz 5, .for_ (.nm 6) (.seq (.tup [.var 3, .var 4])) bodyIn, .set 9 (.blt .all [.lc [8] (.nm 8) (.seq (.var 5)) none (.cmp .eq (.call "_law_clamped" [.v (.var 3), .v (.var 8)]) (.call "_law_clamped" [.v (.var 4), .v (.var 8)]))]), .ite (.cmp .ne (.cmp .eq (.call "formed" [.v (.var 3)]) (.call "formed" [.v (.var 4)])) (.var 9)) [.ret (.c (.bl false))] [], .set 10 (.lc [11] (.nm 11) (.rng [.call "_law_draw" [.io 2, .v (.c (.int 6))]]) none (.call "_law_clamp" [.io 2, .v (.c (.bl false))])), .fz 10, .set 12 (.call "_law_draw" [.io 2, .v (.bin .add (.blt .len [.var 10]) (.c (.int 1)))]), .par [13, 14] [.call "joined" [.v (.var 10)], .lst [.call "joined" [.v (.slc (.var 10) none (some (.var 12)))], .call "joined" [.v (.slc (.var 10) (some (.var 12)) none)]]], .fz 14, .ite (.not (.call "_law_same" [.v (.lst [.call "joined" [.v (.var 14)], .call "joined" [.v (.bin .add (.bin .add (.slc (.var 10) none (some (.var 12))) (.lst [.tup [.c .non, .c (.int 0), .c .non]])) (.slc (.var 10) (some (.var 12)) none))]]), .v (.lst [.var 13, .var 13])])) [.ret (.c (.bl false))] []]
structure Fs (Φ : Tab) : Prop where
  source : Φ.fn "_law_source" = some F_l_source
  draw : Φ.fn "_law_draw" = some F_l_draw
  pick : Φ.fn "_law_pick" = some F_l_pick
  same : Φ.fn "_law_same" = some (Fsame 2)
  clamped : Φ.fn "_law_clamped" = some F_l_clamped
  formed : Φ.fn "formed" = some F_formed
  joined : Φ.fn "joined" = some F_joined
  clamp : ∃ F, Φ.fn "_law_clamp" = some F ∧ ∀ s, ∃ c s', bC c ∧ F [(.lst, dr s), (.sh, .bl false)] = some (.sh, mk true c, [dr s'])
  near : ∃ F, Φ.fn "_law_near" = some F ∧ ∀ s c, bC c → ∃ c' s', nC c' ∧ F [(.lst, dr s), (.sh, mk true c)] = some (.sh, mk true c', [dr s'])
  form : ∃ F, Φ.fn "_law_is_form" = some F ∧ ∀ c, okC c = true → formI c = c → F [(.sh, mk true c)] = some (.sh, .bl true, [])
theorem bools_one {f : D → Bool} (xs : List D) : boolsOf (xs.map fun d => D.bl (f d)) = some (xs.map f) := by
  induction xs with
  | nil => rfl
  | cons x xs ih => simp [boolsOf, ih]
def eqAt (a b : C) (d : D) : Bool := match d with | .int n => decide (lcI a n = lcI b n) | _ => false
theorem span_all (a b : C) : ((rngOf (-45) 46).map (eqAt a b)).all id = (List.range 91).all fun k => decide (lcI a (-45 + (k : Int)) = lcI b (-45 + (k : Int))) := by
  have e : rngOf (-45) 46 = (List.range 91).map fun (k : Nat) => D.int (-45 + (k : Int)) := rfl
  rw [e, List.map_map, List.all_map]
  rfl
theorem inBody {Φ : Tab} (f : Fs Φ) (xs : List D) {one oth c : C} (t : Nat) (ok : okC c = true) (s : Ds) {s7 s8 s9 s10 s11 s12 s13 s14 : Slot} (f7 : fr s7 = true) :
    ∃ s', ebs (lev Φ 22).s bodyIn [.at true .fro (.lst xs), .at false .sh (.int (t : Int)), .at false .lst (dr s), .at false .sh (mk true one), .at false .sh (mk true oth), .at false .sh (.lst (rngOf (-45) 46)), .at false .sh (mk true c), s7, s8, s9, s10, s11, s12, s13, s14] = some (.nx [.at true .fro (.lst xs), .at false .sh (.int (t : Int)), .at false .lst (dr s'), .at false .sh (mk true one), .at false .sh (mk true oth), .at false .sh (.lst (rngOf (-45) 46)), .at false .sh (mk true c), .at false .sh (mk true (formI c)), .no, s9, s10, s11, s12, s13, s14]) := by
  obtain ⟨Ff, hf, hf'⟩ := f.form
  have hp := f.pick
  have hm := f.same
  have hc := f.clamped
  have hfo := f.formed
  have hj := f.joined
  obtain ⟨k, pk⟩ := pick_c s c
  have okf : okC (formI c) = true := by rw [okC_form]; exact ok
  have v1 := f_formed ok k
  have v2 := hf' (formI c) okf (form_form c)
  have v3 := f_formed okf true
  rw [form_form] at v3
  have v4 := f_joined (cs := [c]) (by simpa using ok)
  rw [join_one] at v4
  simp only [List.map_cons, List.map_nil] at v4
  have v5 := same_eq (smOk_mk 1 (formI c))
  refine ⟨drawS s 2, ?_⟩
  refine ebs_nx (v' := [.at true .fro (.lst xs), .at false .sh (.int (t : Int)), .at false .lst (dr (drawS s 2)), .at false .sh (mk true one), .at false .sh (mk true oth), .at false .sh (.lst (rngOf (-45) 46)), .at false .sh (mk true c), .at false .sh (mk true (formI c)), s8, s9, s10, s11, s12, s13, s14]) ?_ ?_
  · simp [R.run, R.start, ebs, lev_s, lev_e, stepS, stepE, evv, evs, evss, evt, evAnd, evOr, evas, evo, evc, params, back, ioOf, setIo,  setNs, setN_eq, fr_no, fr_at, asgT, asgTs, b_add, b_sub, c_eq, c_ne, c_lt, c_le, c_gt, c_ge, c_is, c_isn, c_eqo, isNon_oE, c_eqB, c_neB, c_eqNN,  isNon_non, isNon_int, isNon_tup, isNon_lst, outs, leaf,  mostLen, isiOne, tyOf, intsOf, boolsOf, blt_len, blt_min, blt_list, blt_any, blt_all, hp, pk, hfo, v1, f7]
  refine ebs_nx (v' := [.at true .fro (.lst xs), .at false .sh (.int (t : Int)), .at false .lst (dr (drawS s 2)), .at false .sh (mk true one), .at false .sh (mk true oth), .at false .sh (.lst (rngOf (-45) 46)), .at false .sh (mk true c), .at false .sh (mk true (formI c)), s8, s9, s10, s11, s12, s13, s14]) ?_ ?_
  · simp [R.run, R.start, ebs, lev_s, lev_e, stepS, stepE, evv, evs, evss, evt, evAnd, evOr, evas, evo, evc, params, back, ioOf, setIo,  setNs, setN_eq, fr_no, fr_at, asgT, asgTs, b_add, b_sub, c_eq, c_ne, c_lt, c_le, c_gt, c_ge, c_is, c_isn, c_eqo, isNon_oE, c_eqB, c_neB, c_eqNN,  isNon_non, isNon_int, isNon_tup, isNon_lst, outs, leaf,  mostLen, isiOne, tyOf, intsOf, boolsOf, blt_len, blt_min, blt_list, blt_any, blt_all, hf, v2, hfo, v3, hm, v5, hj, v4]
  refine ebs_nx (v' := [.at true .fro (.lst xs), .at false .sh (.int (t : Int)), .at false .lst (dr (drawS s 2)), .at false .sh (mk true one), .at false .sh (mk true oth), .at false .sh (.lst (rngOf (-45) 46)), .at false .sh (mk true c), .at false .sh (mk true (formI c)), .no, s9, s10, s11, s12, s13, s14]) ?_ rfl
  have g := lc_go (L := (lev Φ 18).e) (vs := [8]) (t := .nm 8) (cond := none) (e := .cmp .eq (.call "_law_clamped" [.v (.var 7), .v (.var 8)]) (.call "_law_clamped" [.v (.var 6), .v (.var 8)])) (fun _ => true) (fun _ => .bl true) (v := [.at true .fro (.lst xs), .at false .sh (.int (t : Int)), .at false .lst (dr (drawS s 2)), .at false .sh (mk true one), .at false .sh (mk true oth), .at false .sh (.lst (rngOf (-45) 46)), .at false .sh (mk true c), .at false .sh (mk true (formI c)), .no, s9, s10, s11, s12, s13, s14]) (xs := rngOf (-45) 46) (acc := []) ?_
  · have fl : (rngOf (-45) 46).filter (fun _ => true) = rngOf (-45) 46 := List.filter_eq_self.mpr fun _ _ => rfl
    rw [fl] at g
    have an : ((rngOf (-45) 46).map fun _ => true).all id = true := rfl
    have bo := bools_true (rngOf (-45) 46)
    simp only [List.nil_append] at g
    simp [R.run, R.start, ebs, lev_s, lev_e, stepS, stepE, evv, evs, evss, evt, evAnd, evOr, evas, evo, evc, params, back, ioOf, setIo,  setNs, setN_eq, fr_no, fr_at, asgT, asgTs, b_add, b_sub, c_eq, c_ne, c_lt, c_le, c_gt, c_ge, c_is, c_isn, c_eqo, isNon_oE, c_eqB, c_neB, c_eqNN,  isNon_non, isNon_int, isNon_tup, isNon_lst, outs, leaf,  mostLen, isiOne, tyOf, intsOf, boolsOf, blt_len, blt_min, blt_list, blt_any, blt_all, evi, wipeE, g, bo, an]
  · intro y hy
    obtain ⟨n, _, rfl⟩ := List.mem_map.mp hy
    refine ⟨[.at true .fro (.lst xs), .at false .sh (.int (t : Int)), .at false .lst (dr (drawS s 2)), .at false .sh (mk true one), .at false .sh (mk true oth), .at false .sh (.lst (rngOf (-45) 46)), .at false .sh (mk true c), .at false .sh (mk true (formI c)), .at false .sh (.int (-45 + (n : Int))), s9, s10, s11, s12, s13, s14], rfl, rfl, fun _ => ?_, rfl⟩
    have c1 := f_lc true (formI c) (-45 + (n : Int))
    have c2 := f_lc true c (-45 + (n : Int))
    rw [lc_form ok] at c1
    simp [R.run, R.start, ebs, lev_s, lev_e, stepS, stepE, evv, evs, evss, evt, evAnd, evOr, evas, evo, evc, params, back, ioOf, setIo,  setNs, setN_eq, fr_no, fr_at, asgT, asgTs, b_add, b_sub, c_eq, c_ne, c_lt, c_le, c_gt, c_ge, c_is, c_isn, c_eqo, isNon_oE, c_eqB, c_neB, c_eqNN,  isNon_non, isNon_int, isNon_tup, isNon_lst, outs, leaf,  mostLen, isiOne, tyOf, intsOf, boolsOf, blt_len, blt_min, blt_list, blt_any, blt_all, hc, c1, c2]
theorem sp_source (ns : List Int) (p : Nat) : ∃ s, F_l_source [(.fro, .lst (ns.map .int)), (.sh, .int p)] = some (.lst, dr s, [.lst (ns.map .int)]) := by
  by_cases h : p < ns.length
  · have e : getAt (ns.map D.int) (p : Int) = some (.int ns[p]) := by
      rw [getAt_pos (by omega) (by simpa using h)]
      simp [h]
    simp [F_l_source, h, e]
    exact ⟨_, _, _, rfl⟩
  · simp [F_l_source, h]
    exact ⟨_, _, _, rfl⟩
theorem lc_clamps {Φ : Tab} (f : Fs Φ) (xs : List D) {one oth : C} (t : Nat) {s6 s7 s8 s9 s10 s11 s12 s13 s14 : Slot} : ∀ (ys : List D) (s : Ds) (acc : List D), ∃ (cs : List C) (s' : Ds), (∀ c ∈ cs, bC c) ∧ cs.length = ys.length ∧ lcGo (lev Φ 21).e [11] (.nm 11) none (.call "_law_clamp" [.io 2, .v (.c (.bl false))]) ys acc [.at true .fro (.lst xs), .at false .sh (.int (t : Int)), .at false .lst (dr s), .at false .sh (mk true one), .at false .sh (mk true oth), .at false .sh (.lst (rngOf (-45) 46)), s6, s7, s8, s9, s10, .no, s12, s13, s14] = some (acc ++ cs.map (mk true), [.at true .fro (.lst xs), .at false .sh (.int (t : Int)), .at false .lst (dr s'), .at false .sh (mk true one), .at false .sh (mk true oth), .at false .sh (.lst (rngOf (-45) 46)), s6, s7, s8, s9, s10, .no, s12, s13, s14])
  | [], s, acc => ⟨[], s, by simp, rfl, by simp [lcGo]⟩
  | y :: ys, s, acc => by
    obtain ⟨Fc, hc, hc'⟩ := f.clamp
    obtain ⟨c, s1, b, hv⟩ := hc' s
    obtain ⟨cs, s', h1, h2, h3⟩ := lc_clamps f xs (one := one) (oth := oth) t (s6 := s6) (s7 := s7) (s8 := s8) (s9 := s9) (s10 := s10) (s11 := s11) (s12 := s12) (s13 := s13) (s14 := s14) ys s1 (acc ++ [mk true c])
    refine ⟨c :: cs, s', ?_, by simp [h2], ?_⟩
    · intro d hd
      rcases List.mem_cons.mp hd with rfl | hd
      · exact b
      · exact h1 d hd
    · have e1 : asgT (.nm 11) y [.at true .fro (.lst xs), .at false .sh (.int (t : Int)), .at false .lst (dr s), .at false .sh (mk true one), .at false .sh (mk true oth), .at false .sh (.lst (rngOf (-45) 46)), s6, s7, s8, s9, s10, .no, s12, s13, s14] = some [.at true .fro (.lst xs), .at false .sh (.int (t : Int)), .at false .lst (dr s), .at false .sh (mk true one), .at false .sh (mk true oth), .at false .sh (.lst (rngOf (-45) 46)), s6, s7, s8, s9, s10, .at false .sh (y), s12, s13, s14] := rfl
      have e2 : evv (lev Φ 21).e (.call "_law_clamp" [.io 2, .v (.c (.bl false))]) [.at true .fro (.lst xs), .at false .sh (.int (t : Int)), .at false .lst (dr s), .at false .sh (mk true one), .at false .sh (mk true oth), .at false .sh (.lst (rngOf (-45) 46)), s6, s7, s8, s9, s10, .at false .sh (y), s12, s13, s14] = some (mk true c, [.at true .fro (.lst xs), .at false .sh (.int (t : Int)), .at false .lst (dr s1), .at false .sh (mk true one), .at false .sh (mk true oth), .at false .sh (.lst (rngOf (-45) 46)), s6, s7, s8, s9, s10, .at false .sh (y), s12, s13, s14]) := by simp [R.run, R.start, ebs, lev_s, lev_e, stepS, stepE, evv, evs, evss, evt, evAnd, evOr, evas, evo, evc, params, back, ioOf, setIo,  setNs, setN_eq, fr_no, fr_at, asgT, asgTs, b_add, b_sub, c_eq, c_ne, c_lt, c_le, c_gt, c_ge, c_is, c_isn, c_eqo, isNon_oE, c_eqB, c_neB, c_eqNN,  isNon_non, isNon_int, isNon_tup, isNon_lst, outs, leaf,  mostLen, isiOne, tyOf, intsOf, boolsOf, blt_len, blt_min, blt_list, blt_any, blt_all, hc, hv]
      have e3 : wipeE [.at true .fro (.lst xs), .at false .sh (.int (t : Int)), .at false .lst (dr s1), .at false .sh (mk true one), .at false .sh (mk true oth), .at false .sh (.lst (rngOf (-45) 46)), s6, s7, s8, s9, s10, .at false .sh (y), s12, s13, s14] [11] = [.at true .fro (.lst xs), .at false .sh (.int (t : Int)), .at false .lst (dr s1), .at false .sh (mk true one), .at false .sh (mk true oth), .at false .sh (.lst (rngOf (-45) 46)), s6, s7, s8, s9, s10, .no, s12, s13, s14] := rfl
      simp only [lcGo, e1, evc, e2, e3, h3]
      simp
end K

set_option Elab.async false
set_option linter.all false
set_option maxRecDepth 100000
set_option maxHeartbeats 4000000
namespace K
open PySem R
theorem outBody {Φ : Tab} (f : Fs Φ) (ns : List Int) (t : Nat) {xs : List D} (exs : xs = ns.map .int) {s2 s3 s4 s5 s6 s7 s8 s9 s10 s11 s12 s13 s14 : Slot} (f2 : fr s2 = true) (f3 : fr s3 = true) (f4 : fr s4 = true) (f5 : fr s5 = true) (f6 : fr s6 = true) (f7 : fr s7 = true) (f8 : fr s8 = true) (f9 : fr s9 = true) (f10 : fr s10 = true) (f11 : fr s11 = true) (f12 : fr s12 = true) (f13 : fr s13 = true) (f14 : fr s14 = true) :
    ∃ t2 t3 t4 t5 t6 t7 t8 t9 t10 t11 t12 t13 t14, fr t2 = true ∧ fr t3 = true ∧ fr t4 = true ∧ fr t5 = true ∧ fr t6 = true ∧ fr t7 = true ∧ fr t8 = true ∧ fr t9 = true ∧ fr t10 = true ∧ fr t11 = true ∧ fr t12 = true ∧ fr t13 = true ∧ fr t14 = true ∧ ebs (lev Φ 23).s bodyOut [.at true .fro (.lst xs), .at false .sh (.int (t : Int)), s2, s3, s4, s5, s6, s7, s8, s9, s10, s11, s12, s13, s14] = some (.nx [.at true .fro (.lst xs), .at false .sh (.int (t : Int)), t2, t3, t4, t5, t6, t7, t8, t9, t10, t11, t12, t13, t14]) := by
  obtain ⟨s0, hs0⟩ := sp_source ns t
  rw [← exs] at hs0
  obtain ⟨Fc, hc, hc'⟩ := f.clamp
  obtain ⟨Fn, hn, hn'⟩ := f.near
  have hso := f.source
  have hd := f.draw
  have hcl := f.clamped
  have hfo := f.formed
  have hj := f.joined
  have hm := f.same
  obtain ⟨one, sa, b1, hv1⟩ := hc' s0
  -- the other
  obtain ⟨oth, sb, n2, e4⟩ : ∃ oth sb, nC oth ∧ (lev Φ 23).s (.set 4 (.ite (.cmp .gt (.call "_law_draw" [.io 2, .v (.c (.int 3))]) (.c (.int 0))) (.call "_law_near" [.io 2, .v (.var 3)]) (.call "_law_clamp" [.io 2, .v (.c (.bl false))]))) [.at true .fro (.lst xs), .at false .sh (.int (t : Int)), .at false .lst (dr sa), .at false .sh (mk true one), s4, s5, s6, s7, s8, s9, s10, s11, s12, s13, s14] = some (.nx [.at true .fro (.lst xs), .at false .sh (.int (t : Int)), .at false .lst (dr sb), .at false .sh (mk true one), .at false .sh (mk true oth), s5, s6, s7, s8, s9, s10, s11, s12, s13, s14]) := by
    by_cases p : 0 < drawK sa 3
    · obtain ⟨c', s', n', hv⟩ := hn' (drawS sa 3) one b1
      refine ⟨c', s', n', ?_⟩
      simp [R.run, R.start, ebs, lev_s, lev_e, stepS, stepE, evv, evs, evss, evt, evAnd, evOr, evas, evo, evc, params, back, ioOf, setIo,  setNs, setN_eq, fr_no, fr_at, asgT, asgTs, b_add, b_sub, c_eq, c_ne, c_lt, c_le, c_gt, c_ge, c_is, c_isn, c_eqo, isNon_oE, c_eqB, c_neB, c_eqNN,  isNon_non, isNon_int, isNon_tup, isNon_lst, outs, leaf,  mostLen, isiOne, tyOf, intsOf, boolsOf, blt_len, blt_min, blt_list, blt_any, blt_all, hd, draw_dr, p, hn, hv, f4]
    · obtain ⟨c', s', b', hv⟩ := hc' (drawS sa 3)
      refine ⟨c', s', nC_of b', ?_⟩
      simp [R.run, R.start, ebs, lev_s, lev_e, stepS, stepE, evv, evs, evss, evt, evAnd, evOr, evas, evo, evc, params, back, ioOf, setIo,  setNs, setN_eq, fr_no, fr_at, asgT, asgTs, b_add, b_sub, c_eq, c_ne, c_lt, c_le, c_gt, c_ge, c_is, c_isn, c_eqo, isNon_oE, c_eqB, c_neB, c_eqNN,  isNon_non, isNon_int, isNon_tup, isNon_lst, outs, leaf,  mostLen, isiOne, tyOf, intsOf, boolsOf, blt_len, blt_min, blt_list, blt_any, blt_all, hd, draw_dr, p, hc, hv, f4]
  have n1 := nC_of b1
  -- the inner loop
  obtain ⟨v', hv', ⟨sc, t6, t7, t8, g6, g7, g8, rfl⟩⟩ := for_go (LSt := (lev Φ 22).s) (t := .nm 6) (b := bodyIn) (fun v => ∃ sc t6 t7 t8, fr t6 = true ∧ fr t7 = true ∧ fr t8 = true ∧ v = [.at true .fro (.lst xs), .at false .sh (.int (t : Int)), .at false .lst (dr sc), .at false .sh (mk true one), .at false .sh (mk true oth), .at false .sh (.lst (rngOf (-45) 46)), t6, t7, t8, s9, s10, s11, s12, s13, s14]) (xs := [mk true one, mk true oth]) (v := [.at true .fro (.lst xs), .at false .sh (.int (t : Int)), .at false .lst (dr sb), .at false .sh (mk true one), .at false .sh (mk true oth), .at false .sh (.lst (rngOf (-45) 46)), s6, s7, s8, s9, s10, s11, s12, s13, s14]) (by
      rintro y hy v ⟨s, t6, t7, t8, g6, g7, g8, rfl⟩
      have hy' : ∃ c, okC c = true ∧ y = mk true c := by
        simp only [List.mem_cons, List.not_mem_nil, or_false] at hy
        rcases hy with rfl | rfl
        · exact ⟨one, n1.1, rfl⟩
        · exact ⟨oth, n2.1, rfl⟩
      obtain ⟨c, ok, rfl⟩ := hy'
      obtain ⟨s', e⟩ := inBody f xs (one := one) (oth := oth) t ok s (s8 := t8) (s9 := s9) (s10 := s10) (s11 := s11) (s12 := s12) (s13 := s13) (s14 := s14) g7
      refine ⟨_, _, ?_, e, s', _, _, _, rfl, rfl, rfl, rfl⟩
      simp [R.run, R.start, ebs, lev_s, lev_e, stepS, stepE, evv, evs, evss, evt, evAnd, evOr, evas, evo, evc, params, back, ioOf, setIo,  setNs, setN_eq, fr_no, fr_at, asgT, asgTs, b_add, b_sub, c_eq, c_ne, c_lt, c_le, c_gt, c_ge, c_is, c_isn, c_eqo, isNon_oE, c_eqB, c_neB, c_eqNN,  isNon_non, isNon_int, isNon_tup, isNon_lst, outs, leaf,  mostLen, isiOne, tyOf, intsOf, boolsOf, blt_len, blt_min, blt_list, blt_any, blt_all, g6]) ⟨sb, s6, s7, s8, f6, f7, f8, rfl⟩
  -- due
  obtain ⟨b9, eb9⟩ : ∃ b, b = (List.range 91).all fun k => decide (lcI one (-45 + (k : Int)) = lcI oth (-45 + (k : Int))) := ⟨_, rfl⟩
  have e9 : (lev Φ 23).s (.set 9 (.blt .all [.lc [8] (.nm 8) (.seq (.var 5)) none (.cmp .eq (.call "_law_clamped" [.v (.var 3), .v (.var 8)]) (.call "_law_clamped" [.v (.var 4), .v (.var 8)]))])) [.at true .fro (.lst xs), .at false .sh (.int (t : Int)), .at false .lst (dr sc), .at false .sh (mk true one), .at false .sh (mk true oth), .at false .sh (.lst (rngOf (-45) 46)), t6, t7, t8, s9, s10, s11, s12, s13, s14] = some (.nx [.at true .fro (.lst xs), .at false .sh (.int (t : Int)), .at false .lst (dr sc), .at false .sh (mk true one), .at false .sh (mk true oth), .at false .sh (.lst (rngOf (-45) 46)), t6, t7, .no, .at false .sh (.bl b9), s10, s11, s12, s13, s14]) := by
    have g := lc_go (L := (lev Φ 20).e) (vs := [8]) (t := .nm 8) (cond := none) (e := .cmp .eq (.call "_law_clamped" [.v (.var 3), .v (.var 8)]) (.call "_law_clamped" [.v (.var 4), .v (.var 8)])) (fun _ => true) (fun d => .bl (eqAt one oth d)) (v := [.at true .fro (.lst xs), .at false .sh (.int (t : Int)), .at false .lst (dr sc), .at false .sh (mk true one), .at false .sh (mk true oth), .at false .sh (.lst (rngOf (-45) 46)), t6, t7, .no, s9, s10, s11, s12, s13, s14]) (xs := rngOf (-45) 46) (acc := []) ?_
    · have fl : (rngOf (-45) 46).filter (fun _ => true) = rngOf (-45) 46 := List.filter_eq_self.mpr fun _ _ => rfl
      rw [fl] at g
      have bo := bools_one (f := eqAt one oth) (rngOf (-45) 46)
      have an := span_all one oth
      rw [← eb9] at an
      simp only [List.nil_append] at g
      simp [R.run, R.start, ebs, lev_s, lev_e, stepS, stepE, evv, evs, evss, evt, evAnd, evOr, evas, evo, evc, params, back, ioOf, setIo,  setNs, setN_eq, fr_no, fr_at, asgT, asgTs, b_add, b_sub, c_eq, c_ne, c_lt, c_le, c_gt, c_ge, c_is, c_isn, c_eqo, isNon_oE, c_eqB, c_neB, c_eqNN,  isNon_non, isNon_int, isNon_tup, isNon_lst, outs, leaf,  mostLen, isiOne, tyOf, intsOf, boolsOf, blt_len, blt_min, blt_list, blt_any, blt_all, evi, wipeE, g, bo, an, f9]
      try simpa [List.all_map] using an
    · intro y hy
      obtain ⟨n, _, rfl⟩ := List.mem_map.mp hy
      refine ⟨[.at true .fro (.lst xs), .at false .sh (.int (t : Int)), .at false .lst (dr sc), .at false .sh (mk true one), .at false .sh (mk true oth), .at false .sh (.lst (rngOf (-45) 46)), t6, t7, .at false .sh (.int (-45 + (n : Int))), s9, s10, s11, s12, s13, s14], rfl, rfl, fun _ => ?_, rfl⟩
      have c1 := f_lc true one (-45 + (n : Int))
      have c2 := f_lc true oth (-45 + (n : Int))
      simp [R.run, R.start, ebs, lev_s, lev_e, stepS, stepE, evv, evs, evss, evt, evAnd, evOr, evas, evo, evc, params, back, ioOf, setIo,  setNs, setN_eq, fr_no, fr_at, asgT, asgTs, b_add, b_sub, c_eq, c_ne, c_lt, c_le, c_gt, c_ge, c_is, c_isn, c_eqo, isNon_oE, c_eqB, c_neB, c_eqNN,  isNon_non, isNon_int, isNon_tup, isNon_lst, outs, leaf,  mostLen, isiOne, tyOf, intsOf, boolsOf, blt_len, blt_min, blt_list, blt_any, blt_all, hcl, c1, c2, eqAt]
  have ee := span_form n1 n2
  rw [← eb9] at ee
  have w1 := f_formed n1.1 true
  have w2 := f_formed n2.1 true
  -- the clamps
  have kd := drawK_lt sc (m := 6) (by omega)
  obtain ⟨cs, sd, hcs, hlen, hlc⟩ := lc_clamps f xs (one := one) (oth := oth) t (s6 := t6) (s7 := t7) (s8 := .no) (s9 := .at false .sh (.bl b9)) (s10 := s10) (s11 := .no) (s12 := s12) (s13 := s13) (s14 := s14) (rngOf 0 (drawK sc 6)) (drawS sc 6) []
  have hcs' : ∀ c ∈ cs, okC c = true := fun c h => (hcs c h).1
  have l6 : cs.length < 6 := by rw [hlen]; simp [rngOf]; omega
  obtain ⟨i, ei⟩ : ∃ i, i = drawK sd ((cs.length : Int) + 1) := ⟨_, rfl⟩
  obtain ⟨se, es⟩ : ∃ i, i = drawS sd ((cs.length : Int) + 1) := ⟨_, rfl⟩
  have ki := drawK_lt sd (m := (cs.length : Int) + 1) (by omega)
  rw [← ei] at ki
  have sl := slc_l (xs := cs.map (mk true)) (i := i) ki.1 (by simp; omega)
  have sr := slc_r (xs := cs.map (mk true)) (i := i) ki.1 (by simp; omega)
  have ta : ∀ c ∈ cs.take i.toNat, okC c = true := fun c h => hcs' c (List.mem_of_mem_take h)
  have da : ∀ c ∈ cs.drop i.toNat, okC c = true := fun c h => hcs' c (List.mem_of_mem_drop h)
  have j1 := f_joined hcs'
  have j2 := f_joined ta
  have j3 := f_joined da
  rw [List.map_take] at j2
  rw [List.map_drop] at j3
  have j4 := f_joined (cs := [joinI (cs.take i.toNat), joinI (cs.drop i.toNat)]) (by simp [join_ok ta, join_ok da])
  rw [join_parts ta da, List.take_append_drop] at j4
  simp only [List.map_cons, List.map_nil] at j4
  have j5 := f_joined (cs := cs.take i.toNat ++ [(none, 0, none)] ++ cs.drop i.toNat) (by
    intro c hc
    rcases List.mem_append.mp hc with hc | hc
    · rcases List.mem_append.mp hc with hc | hc
      · exact ta c hc
      · simp at hc; subst hc; rfl
    · exact da c hc)
  rw [join_stay ta da, List.take_append_drop] at j5
  have j5' : F_joined [(.sh, .lst ((cs.take i.toNat).map (mk true) ++ [.tup [.non, .int 0, .non]] ++ (cs.drop i.toNat).map (mk true)))] = some (.sh, mk true (joinI cs), []) := by
    rw [← j5]
    simp only [List.map_append, List.map_cons, List.map_nil]
    rfl
  have a1 : R.bin .add (.lst ((cs.take i.toNat).map (mk true))) (.lst [.tup [.non, .int 0, .non]]) = some (.lst, .lst ((cs.take i.toNat).map (mk true) ++ [.tup [.non, .int 0, .non]])) := b_addL (by simp; omega)
  have a2 : R.bin .add (.lst ((cs.take i.toNat).map (mk true) ++ [.tup [.non, .int 0, .non]])) (.lst ((cs.drop i.toNat).map (mk true))) = some (.lst, .lst ((cs.take i.toNat).map (mk true) ++ [.tup [.non, .int 0, .non]] ++ (cs.drop i.toNat).map (mk true))) := b_addL (by simp; omega)
  have sm : smOk 2 (.lst [mk true (joinI cs), mk true (joinI cs)]) = true := by simp [smOk, smOks, smOk_mk]
  have v9 := same_eq sm
  refine ⟨.at false .lst (dr se), .at false .sh (mk true one), .at false .sh (mk true oth), .at false .sh (.lst (rngOf (-45) 46)), t6, t7, .no, .at false .sh (.bl b9), .at false .sh (.lst (cs.map (mk true))), .no, .at false .sh (.int i), .at false .sh (mk true (joinI cs)), .at false .sh (.lst [mk true (joinI (cs.take i.toNat)), mk true (joinI (cs.drop i.toNat))]), rfl, rfl, rfl, rfl, g6, g7, rfl, rfl, rfl, rfl, rfl, rfl, rfl, ?_⟩
  refine ebs_nx (v' := [.at true .fro (.lst xs), .at false .sh (.int (t : Int)), .at false .lst (dr s0), s3, s4, s5, s6, s7, s8, s9, s10, s11, s12, s13, s14]) ?_ ?_
  · simp [R.run, R.start, ebs, lev_s, lev_e, stepS, stepE, evv, evs, evss, evt, evAnd, evOr, evas, evo, evc, params, back, ioOf, setIo,  setNs, setN_eq, fr_no, fr_at, asgT, asgTs, b_add, b_sub, c_eq, c_ne, c_lt, c_le, c_gt, c_ge, c_is, c_isn, c_eqo, isNon_oE, c_eqB, c_neB, c_eqNN,  isNon_non, isNon_int, isNon_tup, isNon_lst, outs, leaf,  mostLen, isiOne, tyOf, intsOf, boolsOf, blt_len, blt_min, blt_list, blt_any, blt_all, hso, hs0, f2]
  refine ebs_nx (v' := [.at true .fro (.lst xs), .at false .sh (.int (t : Int)), .at false .lst (dr sa), .at false .sh (mk true one), s4, s5, s6, s7, s8, s9, s10, s11, s12, s13, s14]) ?_ ?_
  · simp [R.run, R.start, ebs, lev_s, lev_e, stepS, stepE, evv, evs, evss, evt, evAnd, evOr, evas, evo, evc, params, back, ioOf, setIo,  setNs, setN_eq, fr_no, fr_at, asgT, asgTs, b_add, b_sub, c_eq, c_ne, c_lt, c_le, c_gt, c_ge, c_is, c_isn, c_eqo, isNon_oE, c_eqB, c_neB, c_eqNN,  isNon_non, isNon_int, isNon_tup, isNon_lst, outs, leaf,  mostLen, isiOne, tyOf, intsOf, boolsOf, blt_len, blt_min, blt_list, blt_any, blt_all, hc, hv1, f3]
  refine ebs_nx e4 ?_
  refine ebs_nx (v' := [.at true .fro (.lst xs), .at false .sh (.int (t : Int)), .at false .lst (dr sb), .at false .sh (mk true one), .at false .sh (mk true oth), .at false .lst (.lst (rngOf (-45) 46)), s6, s7, s8, s9, s10, s11, s12, s13, s14]) ?_ ?_
  · simp [R.run, R.start, ebs, lev_s, lev_e, stepS, stepE, evv, evs, evss, evt, evAnd, evOr, evas, evo, evc, params, back, ioOf, setIo,  setNs, setN_eq, fr_no, fr_at, asgT, asgTs, b_add, b_sub, c_eq, c_ne, c_lt, c_le, c_gt, c_ge, c_is, c_isn, c_eqo, isNon_oE, c_eqB, c_neB, c_eqNN,  isNon_non, isNon_int, isNon_tup, isNon_lst, outs, leaf,  mostLen, isiOne, tyOf, intsOf, boolsOf, blt_len, blt_min, blt_list, blt_any, blt_all, f5]
  refine ebs_nx (v' := [.at true .fro (.lst xs), .at false .sh (.int (t : Int)), .at false .lst (dr sb), .at false .sh (mk true one), .at false .sh (mk true oth), .at false .sh (.lst (rngOf (-45) 46)), s6, s7, s8, s9, s10, s11, s12, s13, s14]) ?_ ?_
  · simp [R.run, R.start, ebs, lev_s, lev_e, stepS, stepE, evv, evs, evss, evt, evAnd, evOr, evas, evo, evc, params, back, ioOf, setIo,  setNs, setN_eq, fr_no, fr_at, asgT, asgTs, b_add, b_sub, c_eq, c_ne, c_lt, c_le, c_gt, c_ge, c_is, c_isn, c_eqo, isNon_oE, c_eqB, c_neB, c_eqNN,  isNon_non, isNon_int, isNon_tup, isNon_lst, outs, leaf,  mostLen, isiOne, tyOf, intsOf, boolsOf, blt_len, blt_min, blt_list, blt_any, blt_all]
  refine ebs_nx (v' := [.at true .fro (.lst xs), .at false .sh (.int (t : Int)), .at false .lst (dr sc), .at false .sh (mk true one), .at false .sh (mk true oth), .at false .sh (.lst (rngOf (-45) 46)), t6, t7, t8, s9, s10, s11, s12, s13, s14]) ?_ ?_
  · simp [R.run, R.start, ebs, lev_s, lev_e, stepS, stepE, evv, evs, evss, evt, evAnd, evOr, evas, evo, evc, params, back, ioOf, setIo,  setNs, setN_eq, fr_no, fr_at, asgT, asgTs, b_add, b_sub, c_eq, c_ne, c_lt, c_le, c_gt, c_ge, c_is, c_isn, c_eqo, isNon_oE, c_eqB, c_neB, c_eqNN,  isNon_non, isNon_int, isNon_tup, isNon_lst, outs, leaf,  mostLen, isiOne, tyOf, intsOf, boolsOf, blt_len, blt_min, blt_list, blt_any, blt_all, evi, hv']
  refine ebs_nx e9 ?_
  refine ebs_nx (v' := [.at true .fro (.lst xs), .at false .sh (.int (t : Int)), .at false .lst (dr sc), .at false .sh (mk true one), .at false .sh (mk true oth), .at false .sh (.lst (rngOf (-45) 46)), t6, t7, .no, .at false .sh (.bl b9), s10, s11, s12, s13, s14]) ?_ ?_
  · simp [R.run, R.start, ebs, lev_s, lev_e, stepS, stepE, evv, evs, evss, evt, evAnd, evOr, evas, evo, evc, params, back, ioOf, setIo,  setNs, setN_eq, fr_no, fr_at, asgT, asgTs, b_add, b_sub, c_eq, c_ne, c_lt, c_le, c_gt, c_ge, c_is, c_isn, c_eqo, isNon_oE, c_eqB, c_neB, c_eqNN,  isNon_non, isNon_int, isNon_tup, isNon_lst, outs, leaf,  mostLen, isiOne, tyOf, intsOf, boolsOf, blt_len, blt_min, blt_list, blt_any, blt_all, hfo, w1, w2, c_eqC, ee]
  refine ebs_nx (v' := [.at true .fro (.lst xs), .at false .sh (.int (t : Int)), .at false .lst (dr sd), .at false .sh (mk true one), .at false .sh (mk true oth), .at false .sh (.lst (rngOf (-45) 46)), t6, t7, .no, .at false .sh (.bl b9), .at false .lst (.lst (cs.map (mk true))), .no, s12, s13, s14]) ?_ ?_
  · have kb : -4611686018427387904 ≤ drawK sc 6 ∧ drawK sc 6 ≤ 16777216 := by omega
    simp only [List.nil_append] at hlc
    simp [R.run, R.start, ebs, lev_s, lev_e, stepS, stepE, evv, evs, evss, evt, evAnd, evOr, evas, evo, evc, params, back, ioOf, setIo,  setNs, setN_eq, fr_no, fr_at, asgT, asgTs, b_add, b_sub, c_eq, c_ne, c_lt, c_le, c_gt, c_ge, c_is, c_isn, c_eqo, isNon_oE, c_eqB, c_neB, c_eqNN,  isNon_non, isNon_int, isNon_tup, isNon_lst, outs, leaf,  mostLen, isiOne, tyOf, intsOf, boolsOf, blt_len, blt_min, blt_list, blt_any, blt_all, evi, hd, draw_dr, kb, wipeE, hlc, f10]
  refine ebs_nx (v' := [.at true .fro (.lst xs), .at false .sh (.int (t : Int)), .at false .lst (dr sd), .at false .sh (mk true one), .at false .sh (mk true oth), .at false .sh (.lst (rngOf (-45) 46)), t6, t7, .no, .at false .sh (.bl b9), .at false .sh (.lst (cs.map (mk true))), .no, s12, s13, s14]) ?_ ?_
  · simp [R.run, R.start, ebs, lev_s, lev_e, stepS, stepE, evv, evs, evss, evt, evAnd, evOr, evas, evo, evc, params, back, ioOf, setIo,  setNs, setN_eq, fr_no, fr_at, asgT, asgTs, b_add, b_sub, c_eq, c_ne, c_lt, c_le, c_gt, c_ge, c_is, c_isn, c_eqo, isNon_oE, c_eqB, c_neB, c_eqNN,  isNon_non, isNon_int, isNon_tup, isNon_lst, outs, leaf,  mostLen, isiOne, tyOf, intsOf, boolsOf, blt_len, blt_min, blt_list, blt_any, blt_all]
  refine ebs_nx (v' := [.at true .fro (.lst xs), .at false .sh (.int (t : Int)), .at false .lst (dr se), .at false .sh (mk true one), .at false .sh (mk true oth), .at false .sh (.lst (rngOf (-45) 46)), t6, t7, .no, .at false .sh (.bl b9), .at false .sh (.lst (cs.map (mk true))), .no, .at false .sh (.int i), s13, s14]) ?_ ?_
  · have p1 : (0 : Int) < (cs.length : Int) + 1 := by omega
    have p2 : (cs.length : Int) + 1 < 1073741824 := by omega
    simp [R.run, R.start, ebs, lev_s, lev_e, stepS, stepE, evv, evs, evss, evt, evAnd, evOr, evas, evo, evc, params, back, ioOf, setIo,  setNs, setN_eq, fr_no, fr_at, asgT, asgTs, b_add, b_sub, c_eq, c_ne, c_lt, c_le, c_gt, c_ge, c_is, c_isn, c_eqo, isNon_oE, c_eqB, c_neB, c_eqNN,  isNon_non, isNon_int, isNon_tup, isNon_lst, outs, leaf,  mostLen, isiOne, tyOf, intsOf, boolsOf, blt_len, blt_min, blt_list, blt_any, blt_all, hd, draw_dr, p1, p2, ← ei, ← es, f12]
  refine ebs_nx (v' := [.at true .fro (.lst xs), .at false .sh (.int (t : Int)), .at false .lst (dr se), .at false .sh (mk true one), .at false .sh (mk true oth), .at false .sh (.lst (rngOf (-45) 46)), t6, t7, .no, .at false .sh (.bl b9), .at false .sh (.lst (cs.map (mk true))), .no, .at false .sh (.int i), .at false .sh (mk true (joinI cs)), .at false .lst (.lst [mk true (joinI (cs.take i.toNat)), mk true (joinI (cs.drop i.toNat))])]) ?_ ?_
  · simp [R.run, R.start, ebs, lev_s, lev_e, stepS, stepE, evv, evs, evss, evt, evAnd, evOr, evas, evo, evc, params, back, ioOf, setIo,  setNs, setN_eq, fr_no, fr_at, asgT, asgTs, b_add, b_sub, c_eq, c_ne, c_lt, c_le, c_gt, c_ge, c_is, c_isn, c_eqo, isNon_oE, c_eqB, c_neB, c_eqNN,  isNon_non, isNon_int, isNon_tup, isNon_lst, outs, leaf,  mostLen, isiOne, tyOf, intsOf, boolsOf, blt_len, blt_min, blt_list, blt_any, blt_all, hj, j1, sl, sr, j2, j3, f13, f14]
  refine ebs_nx (v' := [.at true .fro (.lst xs), .at false .sh (.int (t : Int)), .at false .lst (dr se), .at false .sh (mk true one), .at false .sh (mk true oth), .at false .sh (.lst (rngOf (-45) 46)), t6, t7, .no, .at false .sh (.bl b9), .at false .sh (.lst (cs.map (mk true))), .no, .at false .sh (.int i), .at false .sh (mk true (joinI cs)), .at false .sh (.lst [mk true (joinI (cs.take i.toNat)), mk true (joinI (cs.drop i.toNat))])]) ?_ ?_
  · simp [R.run, R.start, ebs, lev_s, lev_e, stepS, stepE, evv, evs, evss, evt, evAnd, evOr, evas, evo, evc, params, back, ioOf, setIo,  setNs, setN_eq, fr_no, fr_at, asgT, asgTs, b_add, b_sub, c_eq, c_ne, c_lt, c_le, c_gt, c_ge, c_is, c_isn, c_eqo, isNon_oE, c_eqB, c_neB, c_eqNN,  isNon_non, isNon_int, isNon_tup, isNon_lst, outs, leaf,  mostLen, isiOne, tyOf, intsOf, boolsOf, blt_len, blt_min, blt_list, blt_any, blt_all]
  refine ebs_nx (v' := [.at true .fro (.lst xs), .at false .sh (.int (t : Int)), .at false .lst (dr se), .at false .sh (mk true one), .at false .sh (mk true oth), .at false .sh (.lst (rngOf (-45) 46)), t6, t7, .no, .at false .sh (.bl b9), .at false .sh (.lst (cs.map (mk true))), .no, .at false .sh (.int i), .at false .sh (mk true (joinI cs)), .at false .sh (.lst [mk true (joinI (cs.take i.toNat)), mk true (joinI (cs.drop i.toNat))])]) ?_ rfl
  simp only [List.append_assoc, List.singleton_append, List.map_take, List.map_drop, List.cons_append, List.nil_append] at j5' a2 a1
  simp [R.run, R.start, ebs, lev_s, lev_e, stepS, stepE, evv, evs, evss, evt, evAnd, evOr, evas, evo, evc, params, back, ioOf, setIo,  setNs, setN_eq, fr_no, fr_at, asgT, asgTs, b_add, b_sub, c_eq, c_ne, c_lt, c_le, c_gt, c_ge, c_is, c_isn, c_eqo, isNon_oE, c_eqB, c_neB, c_eqNN,  isNon_non, isNon_int, isNon_tup, isNon_lst, outs, leaf,  mostLen, isiOne, tyOf, intsOf, boolsOf, blt_len, blt_min, blt_list, blt_any, blt_all, hj, j4, sl, sr, a1, a2, j5', hm, v9]
theorem sp_law {Φ : Tab} (f : Fs Φ) (ns : List Int) : R.run Φ 24 N_law.length B_law [(.fro, .lst (ns.map .int))] = some (.sh, .bl true, [.lst (ns.map .int)]) := by
  obtain ⟨xs, exs⟩ : ∃ xs, xs = ns.map D.int := ⟨_, rfl⟩
  rw [← exs]
  have hl : xs.length = ns.length := by rw [exs]; simp
  obtain ⟨v', hv', ⟨t1, t2, t3, t4, t5, t6, t7, t8, t9, t10, t11, t12, t13, t14, g1, g2, g3, g4, g5, g6, g7, g8, g9, g10, g11, g12, g13, g14, rfl⟩⟩ := for_go (LSt := (lev Φ 23).s) (t := .nm 1) (b := bodyOut) (fun v => ∃ t1 t2 t3 t4 t5 t6 t7 t8 t9 t10 t11 t12 t13 t14, fr t1 = true ∧ fr t2 = true ∧ fr t3 = true ∧ fr t4 = true ∧ fr t5 = true ∧ fr t6 = true ∧ fr t7 = true ∧ fr t8 = true ∧ fr t9 = true ∧ fr t10 = true ∧ fr t11 = true ∧ fr t12 = true ∧ fr t13 = true ∧ fr t14 = true ∧ v = [.at true .fro (.lst xs), t1, t2, t3, t4, t5, t6, t7, t8, t9, t10, t11, t12, t13, t14]) (xs := rngOf 0 (4 + if (4 : Int) < xs.length then 4 else (xs.length : Int))) (v := [.at true .fro (.lst xs), .no, .no, .no, .no, .no, .no, .no, .no, .no, .no, .no, .no, .no, .no]) (by
      rintro y hy v ⟨t1, t2, t3, t4, t5, t6, t7, t8, t9, t10, t11, t12, t13, t14, g1, g2, g3, g4, g5, g6, g7, g8, g9, g10, g11, g12, g13, g14, rfl⟩
      obtain ⟨k, hk, rfl⟩ := List.mem_map.mp hy
      obtain ⟨u2, u3, u4, u5, u6, u7, u8, u9, u10, u11, u12, u13, u14, k2, k3, k4, k5, k6, k7, k8, k9, k10, k11, k12, k13, k14, e⟩ := outBody f ns k exs g2 g3 g4 g5 g6 g7 g8 g9 g10 g11 g12 g13 g14
      refine ⟨_, _, ?_, e, _, u2, u3, u4, u5, u6, u7, u8, u9, u10, u11, u12, u13, u14, rfl, k2, k3, k4, k5, k6, k7, k8, k9, k10, k11, k12, k13, k14, rfl⟩
      simp [R.run, R.start, ebs, lev_s, lev_e, stepS, stepE, evv, evs, evss, evt, evAnd, evOr, evas, evo, evc, params, back, ioOf, setIo,  setNs, setN_eq, fr_no, fr_at, asgT, asgTs, b_add, b_sub, c_eq, c_ne, c_lt, c_le, c_gt, c_ge, c_is, c_isn, c_eqo, isNon_oE, c_eqB, c_neB, c_eqNN,  isNon_non, isNon_int, isNon_tup, isNon_lst, outs, leaf,  mostLen, isiOne, tyOf, intsOf, boolsOf, blt_len, blt_min, blt_list, blt_any, blt_all, g1]) ⟨_, _, _, _, _, _, _, _, _, _, _, _, _, _, rfl, rfl, rfl, rfl, rfl, rfl, rfl, rfl, rfl, rfl, rfl, rfl, rfl, rfl, rfl⟩
  apply run_rt
  · refine ebs_nx (v' := [.at true .fro (.lst xs), t1, t2, t3, t4, t5, t6, t7, t8, t9, t10, t11, t12, t13, t14]) ?_ ?_
    · have hb : -4611686018427387904 ≤ (4 + if (4 : Int) < xs.length then 4 else (xs.length : Int)) ∧ (4 + if (4 : Int) < xs.length then 4 else (xs.length : Int)) ≤ 16777216 := by split <;> omega
      simp [R.run, R.start, ebs, lev_s, lev_e, stepS, stepE, evv, evs, evss, evt, evAnd, evOr, evas, evo, evc, params, back, ioOf, setIo,  setNs, setN_eq, fr_no, fr_at, asgT, asgTs, b_add, b_sub, c_eq, c_ne, c_lt, c_le, c_gt, c_ge, c_is, c_isn, c_eqo, isNon_oE, c_eqB, c_neB, c_eqNN,  isNon_non, isNon_int, isNon_tup, isNon_lst, outs, leaf,  mostLen, isiOne, tyOf, intsOf, boolsOf, blt_len, blt_min, blt_list, blt_any, blt_all, N_law, evi, hb, hv']
    apply ebs_rt
    simp [R.run, R.start, ebs, lev_s, lev_e, stepS, stepE, evv, evs, evss, evt, evAnd, evOr, evas, evo, evc, params, back, ioOf, setIo,  setNs, setN_eq, fr_no, fr_at, asgT, asgTs, b_add, b_sub, c_eq, c_ne, c_lt, c_le, c_gt, c_ge, c_is, c_isn, c_eqo, isNon_oE, c_eqB, c_neB, c_eqNN,  isNon_non, isNon_int, isNon_tup, isNon_lst, outs, leaf,  mostLen, isiOne, tyOf, intsOf, boolsOf, blt_len, blt_min, blt_list, blt_any, blt_all]
    rfl
  · rfl
end K

set_option Elab.async false
set_option linter.all false
set_option maxRecDepth 100000
set_option maxHeartbeats 4000000
namespace K
open PySem R L2
def d_is_integer : He.DefD := ⟨("is_integer", none), "is_integer", "is_integer", defArgs s_is_integer, defBody s_is_integer, defScope s_is_integer, [], []⟩
def d_is_list : He.DefD := ⟨("is_list", none), "is_list", "is_list", defArgs s_is_list, defBody s_is_list, defScope s_is_list, [], []⟩
def d_is_end : He.DefD := ⟨("is_end", none), "is_end", "is_end", defArgs s_is_end, defBody s_is_end, defScope s_is_end, [], []⟩
def d_is_clamp : He.DefD := ⟨("is_clamp", none), "is_clamp", "is_clamp", defArgs s_is_clamp, defBody s_is_clamp, defScope s_is_clamp, [], []⟩
def d_check_clamp : He.DefD := ⟨("check_clamp", none), "check_clamp", "check_clamp", defArgs s_check_clamp, defBody s_check_clamp, defScope s_check_clamp, [], []⟩
def d_made : He.DefD := ⟨("made", none), "made", "made", defArgs s_made, defBody s_made, defScope s_made, [], []⟩
def d_form_of : He.DefD := ⟨("form_of", none), "form_of", "form_of", defArgs s_form_of, defBody s_form_of, defScope s_form_of, [], []⟩
def d_clamp_behind : He.DefD := ⟨("clamp_behind", none), "clamp_behind", "clamp_behind", defArgs s_clamp_behind, defBody s_clamp_behind, defScope s_clamp_behind, [], []⟩
def d_joined_of : He.DefD := ⟨("joined_of", none), "joined_of", "joined_of", defArgs s_joined_of, defBody s_joined_of, defScope s_joined_of, [], []⟩
def d_formed : He.DefD := ⟨("formed", none), "formed", "formed", defArgs s_formed, defBody s_formed, defScope s_formed, [], []⟩
def d_joined : He.DefD := ⟨("joined", none), "joined", "joined", defArgs s_joined, defBody s_joined, defScope s_joined, [], []⟩
def d_l_source : He.DefD := ⟨("_law_source", none), "_law_source", "_law_source", defArgs s_l_source, defBody s_l_source, defScope s_l_source, [], []⟩
def d_l_draw : He.DefD := ⟨("_law_draw", none), "_law_draw", "_law_draw", defArgs s_l_draw, defBody s_l_draw, defScope s_l_draw, [], []⟩
def d_l_pick : He.DefD := ⟨("_law_pick", none), "_law_pick", "_law_pick", defArgs s_l_pick, defBody s_l_pick, defScope s_l_pick, [], []⟩
def d_l_same : He.DefD := ⟨("_law_same", none), "_law_same", "_law_same", defArgs s_l_same, defBody s_l_same, defScope s_l_same, [], []⟩
def d_l_clamp : He.DefD := ⟨("_law_clamp", none), "_law_clamp", "_law_clamp", defArgs s_l_clamp, defBody s_l_clamp, defScope s_l_clamp, [], []⟩
def d_l_clamped : He.DefD := ⟨("_law_clamped", none), "_law_clamped", "_law_clamped", defArgs s_l_clamped, defBody s_l_clamped, defScope s_l_clamped, [], []⟩
def d_l_is_form : He.DefD := ⟨("_law_is_form", none), "_law_is_form", "_law_is_form", defArgs s_l_is_form, defBody s_l_is_form, defScope s_l_is_form, [], []⟩
def d_l_near : He.DefD := ⟨("_law_near", none), "_law_near", "_law_near", defArgs s_l_near, defBody s_l_near, defScope s_l_near, [], []⟩
def d_law : He.DefD := ⟨("law", none), "law", "law", defArgs s_law, defBody s_law, defScope s_law, [], []⟩
def fnL : List He.DefD := [d_is_integer, d_is_list, d_is_end, d_is_clamp, d_check_clamp, d_made, d_form_of, d_clamp_behind, d_joined_of, d_formed, d_joined, d_l_source, d_l_draw, d_l_pick, d_l_same, d_l_clamp, d_l_clamped, d_l_is_form, d_l_near, d_law]
def faL : List He.Fa := [.glo "is_integer", .glo "is_list", .glo "is_end", .glo "is_clamp", .glo "check_clamp", .glo "made", .glo "form_of", .glo "clamp_behind", .glo "joined_of", .glo "formed", .glo "joined", .glo "_law_source", .glo "_law_draw", .glo "_law_pick", .glo "_law_same", .glo "_law_clamp", .glo "_law_clamped", .glo "_law_is_form", .glo "_law_near", .glo "law", .glo "STAYING", .free "len", .free "int", .free "min", .free "max", .free "abs", .free "list", .free "tuple", .free "all", .free "any", .free "sum", .free "sorted", .free "isinstance", .free "range", .free "zip", .free "enumerate", .free "bool", .free "str", .free "dict"]
def gl_STAYING : List He.Dv := [.non, .int (0), .non]
def exL (K : PySem.W.Frag) : Bool := He.tupB K "STAYING" gl_STAYING
abbrev Rw : PySem.W.OpenRow := PySem.W.OpenLaw.row PySem.Challenge.rw_heldnotes_k62_forms_of_clamps
abbrev hk : PySem.W.Hook := He.hookX 4 faL fnL [] [] exL
def ob (s : PySem.W.SharedT) : He.AlX := He.obsX 4 faL fnL [] [] exL (HandSHeadRun.getT s)
theorem ob_eq (s : PySem.W.SharedT) : ob s = hk.obs s.abs := He.obsX_eq (HandSHeadRun.getT_eq s)
def loose0 : List Str := ["__name__", "is_integer", "is_list", "HeldError", "BadClamp", "STAYING", "is_end", "is_clamp", "check_clamp", "made", "form_of", "clamp_behind", "joined_of", "formed", "joined", "_law_source", "_law_draw", "_law_pick", "_law_same", "_law_clamp", "_law_clamped", "_law_is_form", "_law_near"]
def loose : List Str := loose0
set_option maxHeartbeats 0 in
theorem runT (w : World) : HandSHeadRun.RunEq Rw (PySem.W.view Rw.prog [26]) hk ob 6000 loose w := by
  intro os
  kernel_rfl
end K

set_option Elab.async false
set_option linter.all false
set_option maxRecDepth 100000
set_option maxHeartbeats 4000000
namespace K
open PySem R L2
/-! ### the tables -/
noncomputable def T0 : Tab := ⟨fun _ => none, fun x => if x = "STAYING" then some (.tup [.non, .int 0, .non]) else none⟩
noncomputable def T1 : Tab := T0.add "is_integer" F_is_integer
noncomputable def T2 : Tab := T1.add "is_list" F_is_list
noncomputable def T3 : Tab := T2.add "is_end" F_is_end
noncomputable def T4 : Tab := T3.add "is_clamp" F_is_clamp
noncomputable def T5 : Tab := T4.add "check_clamp" F_check_clamp
noncomputable def T6 : Tab := T5.add "made" F_made
noncomputable def T7 : Tab := T6.add "form_of" F_form_of
noncomputable def T8 : Tab := T7.add "clamp_behind" F_clamp_behind
noncomputable def T9 : Tab := T8.add "joined_of" F_joined_of
noncomputable def T10 : Tab := T9.add "formed" F_formed
noncomputable def T11 : Tab := T10.add "joined" F_joined
noncomputable def T12 : Tab := T11.add "_law_source" F_l_source
noncomputable def T13 : Tab := T12.add "_law_draw" F_l_draw
noncomputable def T14 : Tab := T13.add "_law_pick" F_l_pick
noncomputable def T15 : Tab := T14.add "_law_same" (Fsame 0)
noncomputable def T16 : Tab := T15.add "_law_same" (Fsame 1)
noncomputable def T17 : Tab := T16.add "_law_same" (Fsame 2)
noncomputable def T18 : Tab := T17.add "_law_clamp" (runF T17 2 N_l_clamp.length B_l_clamp)
noncomputable def T19 : Tab := T18.add "_law_clamped" F_l_clamped
noncomputable def T20 : Tab := T19.add "_law_is_form" (runF T19 1 N_l_is_form.length B_l_is_form)
noncomputable def T21 : Tab := T20.add "_law_near" (runF T20 2 N_l_near.length B_l_near)
theorem fs_law : Fs T21 where
  source := rfl
  draw := rfl
  pick := rfl
  same := rfl
  clamped := rfl
  formed := rfl
  joined := rfl
  clamp := ⟨_, rfl, fun s => by
    obtain ⟨c, s', h1, h2⟩ := sp_clamp T17 rfl rfl s
    exact ⟨c, s', h1, h2⟩⟩
  near := ⟨_, rfl, fun s c b => by
    obtain ⟨c', s', h1, h2⟩ := sp_near T20 rfl rfl s b
    exact ⟨c', s', h1, h2⟩⟩
  form := ⟨_, rfl, fun c ok ff => sp_is_form T19 ok ff⟩
theorem rps_ints {K : PySem.W.Frag} {H : Hp} (ns : List Int) : Rps K H (ns.map V.int) (ns.map D.int) := by
  induction ns with
  | nil => exact .nil
  | cons n ns ih => exact .cons (.int n) ih
theorem sep_nil : Sep [[]] := by
  intro i j f g b hi _ hb
  have : f ∈ [([] : List Addr)] := List.mem_of_getElem? hi
  simp at this
  rw [this] at hb; cases hb
theorem mf_nil {H : Hp} : ∀ b, MF [[]] b → H b = none := by
  intro b h
  obtain ⟨f, hf, hb⟩ := h
  simp at hf
  rw [hf] at hb; cases hb
theorem rs_true {K : PySem.W.Frag} {H1 H : Hp} {u : V} {f : List Addr} (r : RS K H1 H .sh u (.bl true) f) : u = .bl true := by
  obtain ⟨r, _⟩ := r
  cases r
  rfl
section
variable {P : Program} {w : World} {K : PySem.W.Frag} {h : Heap} {mg : Str → Option Value} {f : Addr}
theorem md0 {base : Heap} (hb : ∀ y ∈ bltNames, mg y = none) (g : mg "STAYING" = some (.ref (He.ga K "STAYING"))) (tb : He.tupB K "STAYING" gl_STAYING = true) : Md P w K mg base T0 0 := by
  refine ⟨hb, fun x d hx => ?_, fun _ _ z => (by cases z)⟩
  have hx' : (if x = ("STAYING" : Str) then some (.tup [.non, .int 0, .non] : D) else none) = some d := hx
  split at hx'
  · rename_i e
    subst e
    cases hx'
    exact ⟨.ref (He.ga K "STAYING"), .ref (He.ga K "STAYING"), g, rfl, fun H => .tup (He.tupB_ok tb H) (by decide) (.cons .non (.cons (.int 0) (.cons .non .nil)))⟩
  · cases hx'
theorem free_all (X : K.In h) (G : h.Ns mainGlobals mg) (c : He.SaysD faL fnL K) : ∀ y ∈ bltNames, mg y = none := by
  intro y hy
  simp only [bltNames, List.mem_cons, List.not_mem_nil, or_false] at hy
  rcases hy with rfl | rfl | rfl | rfl | rfl | rfl | rfl | rfl | rfl | rfl | rfl | rfl | rfl | rfl | rfl | rfl | rfl | rfl
  · exact He.free_ok X G (c.fact 21 (f := .free "len") rfl)
  · exact He.free_ok X G (c.fact 22 (f := .free "int") rfl)
  · exact He.free_ok X G (c.fact 23 (f := .free "min") rfl)
  · exact He.free_ok X G (c.fact 24 (f := .free "max") rfl)
  · exact He.free_ok X G (c.fact 25 (f := .free "abs") rfl)
  · exact He.free_ok X G (c.fact 26 (f := .free "list") rfl)
  · exact He.free_ok X G (c.fact 27 (f := .free "tuple") rfl)
  · exact He.free_ok X G (c.fact 28 (f := .free "all") rfl)
  · exact He.free_ok X G (c.fact 29 (f := .free "any") rfl)
  · exact He.free_ok X G (c.fact 30 (f := .free "sum") rfl)
  · exact He.free_ok X G (c.fact 31 (f := .free "sorted") rfl)
  · exact He.free_ok X G (c.fact 32 (f := .free "isinstance") rfl)
  · exact He.free_ok X G (c.fact 33 (f := .free "range") rfl)
  · exact He.free_ok X G (c.fact 34 (f := .free "zip") rfl)
  · exact He.free_ok X G (c.fact 35 (f := .free "enumerate") rfl)
  · exact He.free_ok X G (c.fact 36 (f := .free "bool") rfl)
  · exact He.free_ok X G (c.fact 37 (f := .free "str") rfl)
  · exact He.free_ok X G (c.fact 38 (f := .free "dict") rfl)
theorem facts (X : K.In h) (G : h.Ns mainGlobals mg) (hfa : mg ("law" : Str) = some (.ref f)) (c : He.SaysD faL fnL K) (tb : exL K = true) :
    ∃ fd : FuncData, (∀ (s : Shared) (v : Value), BindsTo s fd ⟨[v], []⟩ [("_law_script", v)]) ∧ ∀ base : Heap, K.In base → base.Ns mainGlobals mg → FnOk P w K mg base CX0 22 f fd ["_law_script"] (spOf K (runF T21 1 N_law.length B_law)) := by
  have fb := free_all X G c
  obtain ⟨fd_is_integer, F_dis_integer⟩ := c.def_ 0 (d := d_is_integer) rfl
  have g_is_integer := He.glo_ok X G (c.fact 0 (f := .glo "is_integer") rfl)
  have b_is_integer : Binds K fd_is_integer _ [] := FunD.bindsN (ps := N_is_integer.take 1) F_dis_integer fun _ _ _ _ _ _ us hl => match us, hl with | [_], _ => rfl
  obtain ⟨fd_is_list, F_dis_list⟩ := c.def_ 1 (d := d_is_list) rfl
  have g_is_list := He.glo_ok X G (c.fact 1 (f := .glo "is_list") rfl)
  have b_is_list : Binds K fd_is_list _ [] := FunD.bindsN (ps := N_is_list.take 1) F_dis_list fun _ _ _ _ _ _ us hl => match us, hl with | [_], _ => rfl
  obtain ⟨fd_is_end, F_dis_end⟩ := c.def_ 2 (d := d_is_end) rfl
  have g_is_end := He.glo_ok X G (c.fact 2 (f := .glo "is_end") rfl)
  have b_is_end : Binds K fd_is_end _ [] := FunD.bindsN (ps := N_is_end.take 1) F_dis_end fun _ _ _ _ _ _ us hl => match us, hl with | [_], _ => rfl
  obtain ⟨fd_is_clamp, F_dis_clamp⟩ := c.def_ 3 (d := d_is_clamp) rfl
  have g_is_clamp := He.glo_ok X G (c.fact 3 (f := .glo "is_clamp") rfl)
  have b_is_clamp : Binds K fd_is_clamp _ [] := FunD.bindsN (ps := N_is_clamp.take 1) F_dis_clamp fun _ _ _ _ _ _ us hl => match us, hl with | [_], _ => rfl
  obtain ⟨fd_check_clamp, F_dcheck_clamp⟩ := c.def_ 4 (d := d_check_clamp) rfl
  have g_check_clamp := He.glo_ok X G (c.fact 4 (f := .glo "check_clamp") rfl)
  have b_check_clamp : Binds K fd_check_clamp _ [] := FunD.bindsN (ps := N_check_clamp.take 1) F_dcheck_clamp fun _ _ _ _ _ _ us hl => match us, hl with | [_], _ => rfl
  obtain ⟨fd_made, F_dmade⟩ := c.def_ 5 (d := d_made) rfl
  have g_made := He.glo_ok X G (c.fact 5 (f := .glo "made") rfl)
  have b_made : Binds K fd_made _ [] := FunD.bindsN (ps := N_made.take 2) F_dmade fun _ _ _ _ _ _ us hl => match us, hl with | [_, _], _ => rfl
  obtain ⟨fd_form_of, F_dform_of⟩ := c.def_ 6 (d := d_form_of) rfl
  have g_form_of := He.glo_ok X G (c.fact 6 (f := .glo "form_of") rfl)
  have b_form_of : Binds K fd_form_of _ [] := FunD.bindsN (ps := N_form_of.take 1) F_dform_of fun _ _ _ _ _ _ us hl => match us, hl with | [_], _ => rfl
  obtain ⟨fd_clamp_behind, F_dclamp_behind⟩ := c.def_ 7 (d := d_clamp_behind) rfl
  have g_clamp_behind := He.glo_ok X G (c.fact 7 (f := .glo "clamp_behind") rfl)
  have b_clamp_behind : Binds K fd_clamp_behind _ [] := FunD.bindsN (ps := N_clamp_behind.take 2) F_dclamp_behind fun _ _ _ _ _ _ us hl => match us, hl with | [_, _], _ => rfl
  obtain ⟨fd_joined_of, F_djoined_of⟩ := c.def_ 8 (d := d_joined_of) rfl
  have g_joined_of := He.glo_ok X G (c.fact 8 (f := .glo "joined_of") rfl)
  have b_joined_of : Binds K fd_joined_of _ [] := FunD.bindsN (ps := N_joined_of.take 1) F_djoined_of fun _ _ _ _ _ _ us hl => match us, hl with | [_], _ => rfl
  obtain ⟨fd_formed, F_dformed⟩ := c.def_ 9 (d := d_formed) rfl
  have g_formed := He.glo_ok X G (c.fact 9 (f := .glo "formed") rfl)
  have b_formed : Binds K fd_formed _ [] := FunD.bindsN (ps := N_formed.take 1) F_dformed fun _ _ _ _ _ _ us hl => match us, hl with | [_], _ => rfl
  obtain ⟨fd_joined, F_djoined⟩ := c.def_ 10 (d := d_joined) rfl
  have g_joined := He.glo_ok X G (c.fact 10 (f := .glo "joined") rfl)
  have b_joined : Binds K fd_joined _ [] := FunD.bindsN (ps := N_joined.take 1) F_djoined fun _ _ _ _ _ _ us hl => match us, hl with | [_], _ => rfl
  obtain ⟨fd_l_source, F_dl_source⟩ := c.def_ 11 (d := d_l_source) rfl
  have g_l_source := He.glo_ok X G (c.fact 11 (f := .glo "_law_source") rfl)
  have b_l_source : Binds K fd_l_source _ [] := FunD.bindsN (ps := N_l_source.take 2) F_dl_source fun _ _ _ _ _ _ us hl => match us, hl with | [_, _], _ => rfl
  obtain ⟨fd_l_draw, F_dl_draw⟩ := c.def_ 12 (d := d_l_draw) rfl
  have g_l_draw := He.glo_ok X G (c.fact 12 (f := .glo "_law_draw") rfl)
  have b_l_draw : Binds K fd_l_draw _ [] := FunD.bindsN (ps := N_l_draw.take 2) F_dl_draw fun _ _ _ _ _ _ us hl => match us, hl with | [_, _], _ => rfl
  obtain ⟨fd_l_pick, F_dl_pick⟩ := c.def_ 13 (d := d_l_pick) rfl
  have g_l_pick := He.glo_ok X G (c.fact 13 (f := .glo "_law_pick") rfl)
  have b_l_pick : Binds K fd_l_pick _ [] := FunD.bindsN (ps := N_l_pick.take 2) F_dl_pick fun _ _ _ _ _ _ us hl => match us, hl with | [_, _], _ => rfl
  obtain ⟨fd_l_same, F_dl_same⟩ := c.def_ 14 (d := d_l_same) rfl
  have g_l_same := He.glo_ok X G (c.fact 14 (f := .glo "_law_same") rfl)
  have b_l_same : Binds K fd_l_same _ [] := FunD.bindsN (ps := N_l_same.take 2) F_dl_same fun _ _ _ _ _ _ us hl => match us, hl with | [_, _], _ => rfl
  obtain ⟨fd_l_clamp, F_dl_clamp⟩ := c.def_ 15 (d := d_l_clamp) rfl
  have g_l_clamp := He.glo_ok X G (c.fact 15 (f := .glo "_law_clamp") rfl)
  have b_l_clamp : Binds K fd_l_clamp _ [] := FunD.bindsN (ps := N_l_clamp.take 2) F_dl_clamp fun _ _ _ _ _ _ us hl => match us, hl with | [_, _], _ => rfl
  obtain ⟨fd_l_clamped, F_dl_clamped⟩ := c.def_ 16 (d := d_l_clamped) rfl
  have g_l_clamped := He.glo_ok X G (c.fact 16 (f := .glo "_law_clamped") rfl)
  have b_l_clamped : Binds K fd_l_clamped _ [] := FunD.bindsN (ps := N_l_clamped.take 2) F_dl_clamped fun _ _ _ _ _ _ us hl => match us, hl with | [_, _], _ => rfl
  obtain ⟨fd_l_is_form, F_dl_is_form⟩ := c.def_ 17 (d := d_l_is_form) rfl
  have g_l_is_form := He.glo_ok X G (c.fact 17 (f := .glo "_law_is_form") rfl)
  have b_l_is_form : Binds K fd_l_is_form _ [] := FunD.bindsN (ps := N_l_is_form.take 1) F_dl_is_form fun _ _ _ _ _ _ us hl => match us, hl with | [_], _ => rfl
  obtain ⟨fd_l_near, F_dl_near⟩ := c.def_ 18 (d := d_l_near) rfl
  have g_l_near := He.glo_ok X G (c.fact 18 (f := .glo "_law_near") rfl)
  have b_l_near : Binds K fd_l_near _ [] := FunD.bindsN (ps := N_l_near.take 2) F_dl_near fun _ _ _ _ _ _ us hl => match us, hl with | [_, _], _ => rfl
  obtain ⟨fd_law, F_dlaw⟩ := c.def_ 19 (d := d_law) rfl
  have e := hfa.symm.trans (He.glo_ok X G (c.fact 19 (f := .glo "law") rfl))
  cases e
  have b := FunD.bindsA (ps := ["_law_script"]) F_dlaw fun _ _ _ _ _ _ us hl => match us, hl with | [_], _ => rfl
  refine ⟨fd_law, fun s v => b s [v] rfl, fun base _ _ => ?_⟩
  have m0 : Md P w K mg base T0 0 := md0 fb (He.glo_ok X G (c.fact 20 (f := .glo "STAYING") rfl)) tb
  have m1 : Md P w K mg base T1 1 := Md.add m0 (fn_ok m0 F_dis_integer sc_is_integer rfl ck_is_integer (r_is_integer T0) (by decide)) (Nat.le_refl _) g_is_integer F_dis_integer.kp b_is_integer
  have m2 : Md P w K mg base T2 2 := Md.add m1 (fn_ok m1 F_dis_list sc_is_list rfl ck_is_list (r_is_list T1) (by decide)) (Nat.le_refl _) g_is_list F_dis_list.kp b_is_list
  have m3 : Md P w K mg base T3 3 := Md.add m2 (fn_ok m2 F_dis_end sc_is_end rfl ck_is_end (r_is_end T2 rfl) (by decide)) (Nat.le_refl _) g_is_end F_dis_end.kp b_is_end
  have m4 : Md P w K mg base T4 4 := Md.add m3 (fn_ok m3 F_dis_clamp sc_is_clamp rfl ck_is_clamp (r_is_clamp T3 rfl rfl rfl) (by decide)) (Nat.le_refl _) g_is_clamp F_dis_clamp.kp b_is_clamp
  have m5 : Md P w K mg base T5 5 := Md.add m4 (fn_ok m4 F_dcheck_clamp sc_check_clamp rfl ck_check_clamp (r_check_clamp T4 rfl) (by decide)) (Nat.le_refl _) g_check_clamp F_dcheck_clamp.kp b_check_clamp
  have m6 : Md P w K mg base T6 6 := Md.add m5 (fn_ok m5 F_dmade sc_made rfl ck_made (r_made T5) (by decide)) (Nat.le_refl _) g_made F_dmade.kp b_made
  have m7 : Md P w K mg base T7 7 := Md.add m6 (fn_ok m6 F_dform_of sc_form_of rfl ck_form_of (r_form_of T6) (by decide)) (Nat.le_refl _) g_form_of F_dform_of.kp b_form_of
  have m8 : Md P w K mg base T8 8 := Md.add m7 (fn_ok m7 F_dclamp_behind sc_clamp_behind rfl ck_clamp_behind (r_clamp_behind T7 rfl rfl) (by decide)) (Nat.le_refl _) g_clamp_behind F_dclamp_behind.kp b_clamp_behind
  have m9 : Md P w K mg base T9 9 := Md.add m8 (fn_ok m8 F_djoined_of sc_joined_of rfl ck_joined_of (r_joined_of T8 rfl rfl) (by decide)) (Nat.le_refl _) g_joined_of F_djoined_of.kp b_joined_of
  have m10 : Md P w K mg base T10 10 := Md.add m9 (fn_ok m9 F_dformed sc_formed rfl ck_formed (r_formed T9 rfl rfl) (by decide)) (Nat.le_refl _) g_formed F_dformed.kp b_formed
  have m11 : Md P w K mg base T11 11 := Md.add m10 (fn_ok m10 F_djoined sc_joined rfl ck_joined (r_joined T10 rfl rfl rfl) (by decide)) (Nat.le_refl _) g_joined F_djoined.kp b_joined
  have m12 : Md P w K mg base T12 12 := Md.add m11 (fn_ok m11 F_dl_source sc_l_source rfl ck_l_source (r_l_source T11) (by decide)) (Nat.le_refl _) g_l_source F_dl_source.kp b_l_source
  have m13 : Md P w K mg base T13 13 := Md.add m12 (fn_ok m12 F_dl_draw sc_l_draw rfl ck_l_draw (r_l_draw T12) (by decide)) (Nat.le_refl _) g_l_draw F_dl_draw.kp b_l_draw
  have m14 : Md P w K mg base T14 14 := Md.add m13 (fn_ok m13 F_dl_pick sc_l_pick rfl ck_l_pick (r_l_pick T13 rfl) (by decide)) (Nat.le_refl _) g_l_pick F_dl_pick.kp b_l_pick
  have m15 : Md P w K mg base T15 15 := Md.add m14 (fn_ok m14 F_dl_same sc_l_same rfl ck_l_same (r_l_same0 T14) (by decide)) (Nat.le_refl _) g_l_same F_dl_same.kp b_l_same
  have m16 : Md P w K mg base T16 16 := Md.add m15 (fn_ok m15 F_dl_same sc_l_same rfl ck_l_same (r_l_same T15 0 rfl) (by decide)) (Nat.le_refl _) g_l_same F_dl_same.kp b_l_same
  have m17 : Md P w K mg base T17 17 := Md.add m16 (fn_ok m16 F_dl_same sc_l_same rfl ck_l_same (r_l_same T16 1 rfl) (by decide)) (Nat.le_refl _) g_l_same F_dl_same.kp b_l_same
  have m18 : Md P w K mg base T18 18 := Md.add m17 (fn_ok m17 F_dl_clamp sc_l_clamp rfl ck_l_clamp (r_runF T17 2 N_l_clamp.length B_l_clamp) (by decide)) (Nat.le_refl _) g_l_clamp F_dl_clamp.kp b_l_clamp
  have m19 : Md P w K mg base T19 19 := Md.add m18 (fn_ok m18 F_dl_clamped sc_l_clamped rfl ck_l_clamped (r_l_clamped T18) (by decide)) (Nat.le_refl _) g_l_clamped F_dl_clamped.kp b_l_clamped
  have m20 : Md P w K mg base T20 20 := Md.add m19 (fn_ok m19 F_dl_is_form sc_l_is_form rfl ck_l_is_form (r_runF T19 1 N_l_is_form.length B_l_is_form) (by decide)) (Nat.le_refl _) g_l_is_form F_dl_is_form.kp b_l_is_form
  have m21 : Md P w K mg base T21 21 := Md.add m20 (fn_ok m20 F_dl_near sc_l_near rfl ck_l_near (r_runF T20 2 N_l_near.length B_l_near) (by decide)) (Nat.le_refl _) g_l_near F_dl_near.kp b_l_near
  exact fn_ok m21 F_dlaw sc_law rfl ck_law (r_runF T21 1 N_law.length B_law) (by decide)
end
end K
open PySem PySem.W PySem.Calls PyProof.Rows
theorem PySem.Challenge.cw_heldnotes_k62_forms_of_clamps_holds : PySem.Challenge.rw_heldnotes_k62_forms_of_clamps.Holds := by
  w_on; o_law
  refine HandSHeadRun.head_any (r := OpenLaw.row PySem.Challenge.rw_heldnotes_k62_forms_of_clamps) (q := view (OpenLaw.row PySem.Challenge.rw_heldnotes_k62_forms_of_clamps).prog [26]) (H := K.hk) (ob := K.ob) (M := 6000) (loose := K.loose) (d := HandSHeadRun.topDef (OpenLaw.row PySem.Challenge.rw_heldnotes_k62_forms_of_clamps).prog 26) (kwd := []) K.ob_eq
    (by kernel_rfl) (fun s => by kernel_rfl) K.runT (by kernel_rfl) (by kernel_rfl) (by kernel_rfl) (by rfl) (by first | assumption | decide +kernel) (by decide +kernel) ⟨rfl, rfl, rfl, rfl, rfl, by decide +kernel⟩ ?hw ?hc
  case hw => w_witness2
  case hc =>
    refine L2.walk_ofE (l := PySem.Challenge.rw_heldnotes_k62_forms_of_clamps) (n := 63) (k := 22) (x := "_law_script") (CX := L2.CX0) rfl (by decide) (by kernel_rfl) ⟨rfl, by decide, by decide⟩ ?F (fun _ _ _ _ z => z)
    intro w mg fa h Y G hmg0
    obtain ⟨K, KX, c⟩ := Y
    have hmg : mg ("law" : PySem.Str) = some (.ref fa) := by
      have e : (HandSHeadRun.topDef (OpenLaw.row PySem.Challenge.rw_heldnotes_k62_forms_of_clamps).prog 26).name = ("law" : PySem.Str) := by kernel_rfl
      rw [← e]
      exact hmg0
    obtain ⟨fd, hb, hF⟩ := _root_.K.facts (P := (PySem.Challenge.rw_heldnotes_k62_forms_of_clamps).prog) (w := w) KX G hmg c.t.d c.more
    refine ⟨K, fd, R.spOf K _, KX, hb, fun H a ns hl _ hS => ?_, hF⟩
    refine ⟨[(.fro, .lst (ns.map .int))], .sh, .bl true, [.lst (ns.map .int)], H, [[]], fun _ _ z => z, .io (by intro z; cases z) ?_ .nil, ?_, ?_, ?_, ?_⟩
    · exact ⟨a, ns.map L2.V.int, ns.map R.D.int, rfl, rfl, rfl, hS, _root_.K.rps_ints ns, by simp only [List.length_map]; exact Nat.le_trans hl (by decide)⟩
    · exact _root_.K.sep_nil
    · exact _root_.K.mf_nil
    · exact _root_.K.sp_law _root_.K.fs_law ns
    · intro u H1' H' fs' f _ _ _ r _ _ _
      exact _root_.K.rs_true r
