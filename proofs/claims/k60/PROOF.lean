import PyProof.Rows.All
import Wide.All
import OpenK.AllK
import Wide.FinOn
import HandS.ForMost
import HandS.IsInst
import HandS.Deep
import HandS.Zip
import HandS.Flow
import HandS.Style
import HandS.Conv
import HandS.NoneIn
import KE.KDictKeyed
import KE.SortData
import HandS.TupLen
import HandS.TupAny
import HandS.TupMul
import HandS.MakeKw
import HandS.MakeKwOnly
import HandS.SortInts
import KE.KDictCopyH
import KE.KDictSum
import PyProof.Transfer
import KE.KDictDisplayH
import KE.KDictPairs
import KE.KDictWalk
import PyProof.Rows.TupDisplay
import HandS.SetFor
import HandS.SetKeys
import HandS.More
import KE.GoesEnum
import HandS.Defaults
import HandS.HeadEnd
import KE.KStateDown
import Lean
import HandS.Head0
import HandS.Head1
import HandS.Head2
import HandS.HeadHook1
import HandS.HeadHook2
import HandS.HeadHook3
import HandS.HeadHook4
import PySem.Challenge.RW_heldnotes_k60_clamps_joined
set_option Elab.async false
set_option linter.all false
set_option maxRecDepth 100000
set_option maxHeartbeats 2000000
/-! Q1: data by value, the annotated syntax, the interpreter. -/
namespace Q
open PySem

inductive D where
  | non | bl (b : Bool) | int (i : Int) | str (x : Str)
  | lst (xs : List D) | tup (xs : List D)
  | dct (ks vs : List D) | ins (c : Nat) (fs : List D)
  deriving Inhabited

mutual
/-- the library's data (dicts and instances: a mark that never stands in it) -/
def D.py : D → PyData
  | .non => .none
  | .bl b => .bool b
  | .int i => .int i
  | .str x => .str x
  | .lst xs => .list (D.pys xs)
  | .tup xs => .tuple (D.pys xs)
  | .dct _ _ => .dict []
  | .ins _ _ => .dict []
def D.pys : List D → List PyData
  | [] => []
  | d :: r => d.py :: D.pys r
end
mutual
/-- no dict, no instance in it -/
def D.pl : D → Bool
  | .non => true
  | .bl _ => true
  | .int _ => true
  | .str _ => true
  | .lst xs => D.pls xs
  | .tup xs => D.pls xs
  | .dct _ _ => false
  | .ins _ _ => false
def D.pls : List D → Bool
  | [] => true
  | d :: r => d.pl && D.pls r
end
/-- may be compared at depth -/
def D.wf (d : D) : Bool := d.pl && SeqAt.shaped d.py
def eqd (a b : D) : Bool := PyData.eqv a.py b.py

/-- how a field of an owned instance is held -/
inductive Fs where
  | sh | lst | dct
  deriving DecidableEq, Inhabited
/-- how a thing is held: shared; a list, a dict that is owned (its items shared); a list that stands outside (the script): read alone; an instance that is owned -/
inductive Sh where
  | sh | lst | fro | dct | ins (c : Nat) (fs : List Fs)
  deriving DecidableEq, Inhabited
def Fs.sh' : Fs → Sh
  | .sh => .sh | .lst => .lst | .dct => .dct
def Sh.fs? : Sh → Option Fs
  | .sh => some .sh | .lst => some .lst | .dct => some .dct | _ => none
/-! keys -/
mutual
def kOf : D → NestedKey
  | .non => .none
  | .bl b => .num (if b then 1 else 0)
  | .int i => .num i
  | .str x => .text x
  | .tup xs => .tup (kOfs xs)
  | .lst _ => .none
  | .dct _ _ => .none
  | .ins _ _ => .none
def kOfs : List D → List NestedKey
  | [] => []
  | d :: r => kOf d :: kOfs r
end
mutual
def kIs : D → Bool
  | .non => true
  | .bl _ => true
  | .int _ => true
  | .str _ => true
  | .tup xs => kIss xs
  | .lst _ => false
  | .dct _ _ => false
  | .ins _ _ => false
def kIss : List D → Bool
  | [] => true
  | d :: r => kIs d && kIss r
end
/-- the kind of a key: false: an int, a text; true: a tuple -/
def kd : D → Option Bool
  | .int _ => some false
  | .str _ => some false
  | .tup xs => if kIss xs && decide ((kOf (.tup xs)).depth ≤ 8) then some true else none
  | _ => none
def keq (a b : D) : Bool := decide (kOf a = kOf b)
def dHas (ks : List D) (k : D) : Bool := ks.any fun a => keq a k
def kinds (ks : List D) (b : Bool) : Bool := ks.all fun k => decide (kd k = some b)
/-- may be asked for -/
def kOk (ks : List D) (k : D) : Bool := match kd k with
  | some b => kinds ks b
  | none => false
def dGet : List D → List D → D → Option D
  | a :: ks, b :: vs, k => if keq a k then some b else dGet ks vs k
  | _, _, _ => none
def dPut : List D → List D → D → D → List D × List D
  | a :: ks, b :: vs, k, v => if keq a k then (a :: ks, v :: vs) else (a :: (dPut ks vs k v).1, b :: (dPut ks vs k v).2)
  | _, _, k, v => ([k], [v])
def dPuts : List D → List D → List (D × D) → List D × List D
  | ks, vs, [] => (ks, vs)
  | ks, vs, (k, v) :: r => dPuts (dPut ks vs k v).1 (dPut ks vs k v).2 r
inductive Slot where
  | no | at (io : Bool) (s : Sh) (d : D)
  deriving Inhabited
abbrev Ev := List Slot

inductive Bop where | add | sub | mul | fdiv | mod | pow
  deriving DecidableEq
inductive Cop where | eq | ne | lt | le | gt | ge | is | isn | inn | nin
  deriving DecidableEq
inductive Bi where | len | int | min | max | abs | list | tuple | all | any | sum | sorted | dict
  deriving DecidableEq
inductive Tg where
  | nm (i : Nat) | tp (ts : List Tg)
/-- a place: a slot; a field of the instance in a slot -/
inductive Pl where
  | s (i : Nat) | f (i c j : Nat)
mutual
inductive E where
  | c (d : D)
  | pv (p : Pl)
  | mv (i : Nat)
  | glob (x : Str)
  | tup (es : List E)
  | lst (es : List E)
  | dct (ks vs : List E)
  | bin (o : Bop) (a b : E)
  | neg (a : E)
  | not (a : E)
  | and (a : E) (es : List E)
  | or (a : E) (es : List E)
  | cmp (o : Cop) (a b : E)
  | chain (o p : Cop) (a b c : E)
  | ite (c a b : E)
  | idx (a i : E)
  | fld (a : E) (c j : Nat)
  | oidx (p : Pl) (e : E)
  | olen (p : Pl)
  | oin (neg : Bool) (e : E) (p : Pl)
  | get (a k x : E)
  | gget (x : Str) (k d : E)
  | oget (p : Pl) (k x : E)
  | ocpy (p : Pl)
  | sset (e : E)
  | olst (p : Pl)
  | osrt (p : Pl)
  | pop (p : Pl) (e : E)
  | popl (p : Pl)
  | slc (a : E) (lo hi : Option E)
  | st2 (a : E)
  | rev (a : E)
  | call (f : Str) (as : List Ar)
  | callo (f : Str) (e : E)
  | meth (c : Nat) (m : Str) (r : Ar) (as : List Ar)
  | new (c : Nat) (as : List E) (ks : List Str) (kes : List E)
  | blt (f : Bi) (es : List E)
  | isi (a : E) (ts : List String)
  | lrng (es : List E)
  | lc (vs : List Nat) (t : Tg) (it : It) (cond : Option E) (e : E)
  | lc2 (vs : List Nat) (t : Tg) (it : It) (cond : Option E) (vs1 : List Nat) (t1 : Tg) (it1 : It) (cond1 : Option E) (e : E)
  | bor (e : E)
  | frz (e : E)
inductive Ar where
  | v (e : E) | io (i : Nat)
inductive It where
  | seq (e : E) | rng (es : List E) | zip (a b : E) | enum (e : E) | vals (e : E)
end
inductive S where
  | asg (t : Tg) (e : E)
  | set (i : Nat) (e : E)
  | par (ts : List Nat) (es : List E)
  | expr (e : E)
  | ret (e : E)
  | retN
  | ite (c : E) (a b : List S)
  | for_ (t : Tg) (it : It) (b : List S)
  | while_ (n : Nat) (c : E) (b : List S)
  | pass
  | brk
  | cont
  | app (p : Pl) (e : E)
  | ext (p : Pl) (e : E)
  | put (p : Pl) (k e : E)
  | fset (i c j : Nat) (e : E)
  | aug (i : Nat) (o : Bop) (e : E)
  | fz (i : Nat)
  | wipe (is : List Nat)
  | raise_

inductive Out where
  | nx (v : Ev) | rt (s : Sh) (d : D) (v : Ev) | bk (v : Ev) | ct (v : Ev)

/-- a mirror: the parameters' shapes and data; the answer and the inout parameters' new shapes and data -/
abbrev Fn := List (Sh × D) → Option (Sh × D × List (Sh × D))
/-- cn: the class's name and its fields; kw: how a call of the class with so many values and such keywords fills the parameters -/
structure Ci where
  nm : Str
  fs : List Str
structure Tab where
  fn : Str → Option Fn
  gl : Str → Option D
  cl : Nat → Ci
  mt : Nat → Str → Option Fn
  nw : Nat → Nat → List Str → Option (Fn × List (Sum Nat D))
  gd : Str → Option (List (Str × Int)) := fun _ => none
  /-- the guards are known to be none -/
  gu : Bool := false

def mostLen : Nat := 16777216

/-! ### values -/
def bin : Bop → D → D → Option (Sh × D)
  | .add, .int a, .int b => some (.sh, .int (a + b))
  | .add, .tup a, .tup b => if a.length + b.length ≤ mostLen then some (.sh, .tup (a ++ b)) else none
  | .add, .lst a, .lst b => if a.length + b.length ≤ mostLen then some (.lst, .lst (a ++ b)) else none
  | .sub, .int a, .int b => some (.sh, .int (a - b))
  | .mul, .int a, .int b => if (-(2 ^ 64) < a ∧ a < 2 ^ 64) ∨ (-(2 ^ 64) < b ∧ b < 2 ^ 64) then some (.sh, .int (a * b)) else none
  | .mul, .lst a, .int b => if 0 ≤ b ∧ b < 1000 ∧ a.length * b.toNat ≤ mostLen then some (.lst, .lst (List.replicate b.toNat a).flatten) else none
  | .mul, .tup a, .int b => if 2 ≤ b ∧ b < 1000 ∧ a ≠ [] ∧ a.length ≤ 1000 then some (.sh, .tup (List.replicate b.toNat a).flatten) else none
  | .fdiv, .int a, .int b => if 0 < b ∧ b < 1073741824 then some (.sh, .int (a / b)) else none
  | .mod, .int a, .int b => if 0 < b then some (.sh, .int (a % b)) else none
  | .pow, .int a, .int b => if 0 ≤ b ∧ b ≤ 1000000 ∧ a.natAbs < 2 ^ 64 then some (.sh, .int (a ^ b.toNat)) else none
  | _, _, _ => none

def leaf : D → Bool
  | .non => true
  | .bl _ => true
  | .int _ => true
  | .str _ => true
  | _ => false
def eqq (a b : D) : Option Bool := if a.wf && b.wf then some (eqd a b) else none
def isNon : D → Bool
  | .non => true
  | _ => false
def cmp : Cop → D → D → Option Bool
  | .eq, a, b => eqq a b
  | .ne, a, b => (eqq a b).map (!·)
  | .lt, .int a, .int b => some (decide (a < b))
  | .le, .int a, .int b => some (decide (a ≤ b))
  | .gt, .int a, .int b => some (decide (b < a))
  | .ge, .int a, .int b => some (decide (b ≤ a))
  | .is, a, .non => some (isNon a)
  | .isn, a, .non => some (!isNon a)
  | .inn, a, .lst xs => if a.wf && (D.lst xs).wf then some (xs.any fun z => eqd z a) else none
  | .nin, a, .lst xs => if a.wf && (D.lst xs).wf then some (!xs.any fun z => eqd z a) else none
  | .inn, k, .dct ks _ => if kOk ks k then some (dHas ks k) else none
  | .nin, k, .dct ks _ => if kOk ks k then some (!(dHas ks k)) else none
  | .inn, .str a, .str b => some (!(Builtin.Str.occurrences b a 0 b.length 1).isEmpty)
  | .nin, .str a, .str b => some (!!(Builtin.Str.occurrences b a 0 b.length 1).isEmpty)
  | .inn, a, .tup xs => if leaf a && xs.all leaf then some (xs.any fun z => eqd z a) else none
  | .nin, a, .tup xs => if leaf a && xs.all leaf then some (!xs.any fun z => eqd z a) else none
  | _, _, _ => none
def getAt (xs : List D) (i : Int) : Option D := L2.atI xs i
def idx : D → D → Option D
  | .dct ks vs, k => if kOk ks k then dGet ks vs k else none
  | .lst xs, .int i => getAt xs i
  | .tup xs, .int i => getAt xs i
  | _, _ => none
def cutD (xs : List D) (lo hi : Option Int) : List D := (xs.drop (HT.sIx xs.length 0 lo)).take (HT.sIx xs.length xs.length hi - HT.sIx xs.length 0 lo)
def slc : D → Option Int → Option Int → Option (Sh × D)
  | .lst xs, lo, hi => some (.lst, .lst (cutD xs lo hi))
  | .tup xs, lo, hi => some (.sh, .tup (cutD xs lo hi))
  | _, _, _ => none
def tyOf : D → String
  | .non => "NoneType"
  | .bl _ => "bool"
  | .int _ => "int"
  | .str _ => "str"
  | .lst _ => "list"
  | .tup _ => "tuple"
  | .dct _ _ => "dict"
  | .ins _ _ => "object"
def isiOne (t u : String) : Bool := t == u || (t == "bool" && u == "int")
def intsOf : List D → Option (List Int)
  | [] => some []
  | .int i :: r => (intsOf r).map (i :: ·)
  | _ => none
def boolsOf : List D → Option (List Bool)
  | [] => some []
  | .bl b :: r => (boolsOf r).map (b :: ·)
  | _ => none
def strsOf : List D → Option (List Str)
  | [] => some []
  | .str i :: r => (strsOf r).map (i :: ·)
  | _ => none
/-- the pairs of dict(pairs): all keys of one kind -/
def pairsOf : List D → Option (List (D × D))
  | [] => some []
  | .tup [k, v] :: r => (pairsOf r).map ((k, v) :: ·)
  | _ => none
def rngOf (a b : Int) : List D := (List.range (b - a).toNat).map fun (k : Nat) => D.int (a + (k : Int))
/-- lists that are sorted: of ints; of data that are alike -/
def srtOk (xs : List D) : Bool := xs.all (fun a => a.pl && decide (a.py.depth ≤ 16)) && xs.all (fun a => xs.all fun b => PySem.W.alike a.py b.py) && (xs.all (fun a => match a with | .tup (_ :: _) => true | _ => false) || xs.all (fun a => match a with | .non => false | .tup _ => false | _ => true))
def srt (xs : List D) : Option (Sh × D) := match intsOf xs with
  | some ns => some (.lst, .lst ((ns.mergeSort fun a b => decide (a ≤ b)).map .int))
  | none => if srtOk xs then some (.lst, .lst (xs.mergeSort (PySem.W.dataLe false D.py))) else none
def ddup {α : Type} [DecidableEq α] : List α → List α
  | [] => []
  | x :: r => if x ∈ r then ddup r else x :: ddup r
/-- sorted(set(xs)): ints, or texts -/
def ssrt (xs : List D) : Option (List D) := match intsOf xs with
  | some ns => if ns.length < 1000 then some (((ddup ns).mergeSort fun a b => decide (a ≤ b)).map .int) else none
  | none => (match strsOf xs with
    | some ss => if ss.length < 1000 then some (((ddup ss).mergeSort fun a b => decide (a.cps.toList ≤ b.cps.toList)).map .str) else none
    | none => none)
def blt : Bi → List D → Option (Sh × D)
  | .len, [.lst xs] => some (.sh, .int xs.length)
  | .len, [.str x] => if x.length ≤ mostLen then some (.sh, .int x.length) else none
  | .len, [.dct ks _] => if kinds ks false || kinds ks true then some (.sh, .int ks.length) else none
  | .len, [.tup xs] => some (.sh, .int xs.length)
  | .int, [.int i] => some (.sh, .int i)
  | .int, [.bl b] => some (.sh, .int (if b then 1 else 0))
  | .min, [.int i, .int j] => some (.sh, .int (if j < i then j else i))
  | .max, [.int i, .int j] => some (.sh, .int (if j > i then j else i))
  | .min, [.lst xs] => (match intsOf xs with
    | some (n :: ns) => some (.sh, .int (ns.foldl min n))
    | _ => none)
  | .max, [.lst xs] => (match intsOf xs with
    | some (n :: ns) => some (.sh, .int (ns.foldl max n))
    | _ => none)
  | .abs, [.int i] => some (.sh, .int (if i < 0 then -i else i))
  | .list, [.lst xs] => some (.lst, .lst xs)
  | .list, [.tup xs] => some (.lst, .lst xs)
  | .list, [.dct ks _] => some (.lst, .lst ks)
  | .dict, [.dct ks vs] => if kinds ks false then some (.dct, .dct ks vs) else none
  | .dict, [.lst xs] => (match pairsOf xs with
    | some ps => if kinds (ps.map (·.1)) false || kinds (ps.map (·.1)) true then some (.dct, .dct (dPuts [] [] ps).1 (dPuts [] [] ps).2) else none
    | none => none)
  | .tuple, [.lst xs] => some (.sh, .tup xs)
  | .tuple, [.tup xs] => some (.sh, .tup xs)
  | .all, [.lst xs] => (boolsOf xs).map fun bs => (.sh, .bl (bs.all id))
  | .any, [.lst xs] => (boolsOf xs).map fun bs => (.sh, .bl (bs.any id))
  | .sum, [.lst xs] => (intsOf xs).map fun ns => (.sh, .int ns.sum)
  | .sorted, [.lst xs] => srt xs
  | .sorted, [.dct ks _] => if srtOk ks then some (.lst, .lst (ks.mergeSort (PySem.W.dataLe false D.py))) else none
  | _, _ => none

/-! ### the interpreter, a level at a time -/
abbrev LE := E → Ev → Option (Sh × D × Ev)
abbrev LS := S → Ev → Option Out
def evv (L : LE) (e : E) (v : Ev) : Option (D × Ev) :=
  match L e v with
  | some (.fro, _, _) => none
  | some (_, d, v') => some (d, v')
  | none => none
def evs (L : LE) : List E → Ev → Option (List D × Ev)
  | [], v => some ([], v)
  | e :: r, v =>
    match evv L e v with
    | some (d, v1) => (match evs L r v1 with
      | some (ds, v2) => some (d :: ds, v2)
      | none => none)
    | none => none
/-- with the shapes -/
def evss (L : LE) : List E → Ev → Option (List (Sh × D) × Ev)
  | [], v => some ([], v)
  | e :: r, v =>
    match L e v with
    | some (s, d, v1) => (match evss L r v1 with
      | some (ds, v2) => some ((s, d) :: ds, v2)
      | none => none)
    | none => none
def evt (L : LE) (e : E) (v : Ev) : Option (Bool × Ev) :=
  match evv L e v with
  | some (.bl b, v') => some (b, v')
  | _ => none
def evAnd (L : LE) : E → List E → Ev → Option (D × Ev)
  | a, [], v => evv L a v
  | a, b :: r, v =>
    match evt L a v with
    | some (true, v1) => evAnd L b r v1
    | some (false, v1) => some (.bl false, v1)
    | none => none
def evOr (L : LE) : E → List E → Ev → Option (D × Ev)
  | a, [], v => evv L a v
  | a, b :: r, v =>
    match evt L a v with
    | some (false, v1) => evOr L b r v1
    | some (true, v1) => some (.bl true, v1)
    | none => none
def evo (L : LE) : Option E → Ev → Option (Option Int × Ev)
  | none, v => some (none, v)
  | some e, v =>
    match evv L e v with
    | some (.int i, v') => some (some i, v')
    | _ => none
/-- the plain arguments, in order; an inout one by its place -/
def evas (L : LE) : List Ar → Ev → Option (List (Option D) × Ev)
  | [], v => some ([], v)
  | .io i :: r, v => (match v[i]? with
    | some (.at _ _ _) => (match evas L r v with
      | some (ds, v2) => some (none :: ds, v2)
      | none => none)
    | _ => none)
  | .v e :: r, v =>
    match evv L e v with
    | some (d, v1) => (match evas L r v1 with
      | some (ds, v2) => some (some d :: ds, v2)
      | none => none)
    | none => none
/-- the places that are handed over to be changed -/
def ioOf (v : Ev) : List Ar → List Nat
  | [] => []
  | .io i :: r => (match v[i]? with
    | some (.at _ .sh _) => ioOf v r
    | _ => i :: ioOf v r)
  | .v _ :: r => ioOf v r
/-- the parameters' shapes and data at the call -/
def params (v : Ev) : List Ar → List (Option D) → Option (List (Sh × D))
  | [], [] => some []
  | .v _ :: r, some d :: ds => (params v r ds).map ((.sh, d) :: ·)
  | .io i :: r, none :: ds => (match v[i]? with
    | some (.at _ s d) => (params v r ds).map ((s, d) :: ·)
    | _ => none)
  | _, _ => none
def setIo (v : Ev) (i : Nat) (s : Sh) (d : D) : Ev :=
  match v[i]? with
  | some (.at io _ _) => v.set i (.at io s d)
  | _ => v
def back : Ev → List Nat → List (Sh × D) → Option Ev
  | v, [], [] => some v
  | v, i :: is, (s, d) :: ds => back (setIo v i s d) is ds
  | _, _, _ => none
/-- what stands at a place -/
def getP (v : Ev) : Pl → Option (Sh × D)
  | .s i => (match v[i]? with
    | some (.at _ s d) => some (s, d)
    | _ => none)
  | .f i c j => (match v[i]? with
    | some (.at _ .sh (.ins c' ds)) => if c = c' then (match ds[j]? with
      | some d => some (.sh, d)
      | none => none) else none
    | some (.at _ (.ins c' fs) (.ins c'' ds)) => if c = c' ∧ c = c'' then (match fs[j]?, ds[j]? with
      | some f, some d => some (f.sh', d)
      | _, _ => none) else none
    | _ => none)
/-- other data at a place that is owned -/
def putP (v : Ev) (d : D) : Pl → Ev
  | .s i => (match v[i]? with
    | some (.at io s _) => v.set i (.at io s d)
    | _ => v)
  | .f i _ j => (match v[i]? with
    | some (.at io s (.ins c ds)) => v.set i (.at io s (.ins c (ds.set j d)))
    | _ => v)
def Pl.isF : Pl → Bool
  | .f _ _ _ => true
  | _ => false
/-- all that is owned seen as shared -/
def fzS : Slot → Slot
  | .no => .no
  | .at io .fro d => .at io .fro d
  | .at _ _ d => .at false .sh d
def fzA (v : Ev) : Ev := v.map fzS
/-! an expression that changes nothing -/
mutual
def smp : E → Bool
  | .c _ => true
  | .pv _ => true
  | .glob _ => true
  | .tup es => smps es
  | .idx a i => smp a && smp i
  | .fld a _ _ => smp a
  | .ocpy _ => true
  | _ => false
def smps : List E → Bool
  | [] => true
  | e :: r => smp e && smps r
end
/-- the receiver of a method stands there -/
def recvOk (v : Ev) (c : Nat) : Ar → Bool
  | .v _ => true
  | .io i => (match v[i]? with
    | some (.at _ _ (.ins c' _)) => decide (c = c')
    | _ => false)
def fill (ds : List D) : List (Sum Nat D) → Option (List (Sh × D))
  | [] => some []
  | .inl k :: r => (match ds[k]?, fill ds r with
    | some d, some q => some ((.sh, d) :: q)
    | _, _ => none)
  | .inr d :: r => (match fill ds r with
    | some q => some ((.sh, d) :: q)
    | none => none)
def wipeE (v : Ev) : List Nat → Ev
  | [] => v
  | i :: is => (wipeE v is).set i .no
/-- a shared datum goes to a target -/
def setN (v : Ev) (i : Nat) (s : Sh) (d : D) : Option Ev :=
  match v[i]? with
  | some .no => some (v.set i (.at false s d))
  | some (.at false _ _) => some (v.set i (.at false s d))
  | _ => none
def setNs : List Nat → List (Sh × D) → Ev → Option Ev
  | [], [], v => some v
  | i :: is, (s, d) :: r, v => (match setN v i s d with
    | some v' => setNs is r v'
    | none => none)
  | _, _, _ => none
mutual
def asgT : Tg → D → Ev → Option Ev
  | .nm i, d, v => setN v i .sh d
  | .tp ts, .tup ds, v => asgTs ts ds v
  | .tp ts, .lst ds, v => asgTs ts ds v
  | _, _, _ => none
def asgTs : List Tg → List D → Ev → Option Ev
  | [], [], v => some v
  | t :: ts, d :: ds, v => (match asgT t d v with
    | some v' => asgTs ts ds v'
    | none => none)
  | _, _, _ => none
end
/-- what is walked -/
def evi (L : LE) : It → Ev → Option (List D × Ev)
  | .seq e, v => (match evv L e v with
    | some (.lst xs, v') => some (xs, v')
    | some (.tup xs, v') => some (xs, v')
    | some (.dct ks _, v') => some (ks, v')
    | some (.str x, v') => if x.cps.size ≤ mostLen then some (x.cps.toList.map fun c => .str ⟨#[c]⟩, v') else none
    | _ => none)
  | .vals e, v => (match evv L e v with
    | some (.dct _ vs, v') => some (vs, v')
    | _ => none)
  | .rng es, v => (match evs L es v with
    | some ([.int b], v') => if -(2 ^ 62) ≤ b ∧ b ≤ 16777216 then some (rngOf 0 b, v') else none
    | some ([.int a, .int b], v') => if -(2 ^ 62) ≤ a ∧ a < 2 ^ 62 ∧ -(2 ^ 62) ≤ b ∧ b < 2 ^ 62 ∧ b - a ≤ 16777216 then some (rngOf a b, v') else none
    | _ => none)
  | .zip a b, v => (match evs L [a, b] v with
    | some ([.lst xs, .lst ys], v') => some (List.zipWith (fun x y => .tup [x, y]) xs ys, v')
    | some ([.tup xs, .tup ys], v') => some (List.zipWith (fun x y => .tup [x, y]) xs ys, v')
    | _ => none)
  | .enum e, v => (match evv L e v with
    | some (.lst xs, v') => some (xs.zipIdx.map fun p => .tup [.int p.2, p.1], v')
    | some (.tup xs, v') => some (xs.zipIdx.map fun p => .tup [.int p.2, p.1], v')
    | _ => none)
def evc (L : LE) : Option E → Ev → Option (Bool × Ev)
  | none, v => some (true, v)
  | some c, v => evt L c v
def lcGo (L : LE) (vs : List Nat) (t : Tg) (cond : Option E) (e : E) : List D → List D → Ev → Option (List D × Ev)
  | [], acc, v => some (acc, v)
  | x :: r, acc, v =>
    match asgT t x v with
    | none => none
    | some v1 =>
      match evc L cond v1 with
      | none => none
      | some (false, v2) => lcGo L vs t cond e r acc (wipeE v2 vs)
      | some (true, v2) =>
        match evv L e v2 with
        | none => none
        | some (d, v3) => lcGo L vs t cond e r (acc ++ [d]) (wipeE v3 vs)
def lc2Go (L : LE) (vs : List Nat) (t : Tg) (cond : Option E) (vs1 : List Nat) (t1 : Tg) (it1 : It) (cond1 : Option E) (e : E) : List D → List D → Ev → Option (List D × Ev)
  | [], acc, v => some (acc, v)
  | x :: r, acc, v =>
    match asgT t x v with
    | none => none
    | some v1 =>
      match evc L cond v1 with
      | none => none
      | some (false, v2) => lc2Go L vs t cond vs1 t1 it1 cond1 e r acc (wipeE v2 vs)
      | some (true, v2) =>
        match evi L it1 v2 with
        | none => none
        | some (ys, v3) => if acc.length + ys.length ≤ mostLen then
          (match lcGo L vs1 t1 cond1 e ys acc (wipeE v3 vs1) with
          | none => none
          | some (acc', v4) => lc2Go L vs t cond vs1 t1 it1 cond1 e r acc' (wipeE v4 vs)) else none
def ebs (LSt : LS) : List S → Ev → Option Out
  | [], v => some (.nx v)
  | s :: r, v =>
    match LSt s v with
    | some (.nx v') => ebs LSt r v'
    | o => o
def forGo (LSt : LS) (t : Tg) (b : List S) : List D → Ev → Option Out
  | [], v => some (.nx v)
  | x :: r, v =>
    match asgT t x v with
    | none => none
    | some v1 =>
      match ebs LSt b v1 with
      | some (.nx v2) => forGo LSt t b r v2
      | some (.ct v2) => forGo LSt t b r v2
      | some (.bk v2) => some (.nx v2)
      | o => o
def whGo (L : LE) (LSt : LS) (c : E) (b : List S) : Nat → Ev → Option Out
  | 0, _ => none
  | n + 1, v =>
    match evt L c v with
    | none => none
    | some (false, v1) => some (.nx v1)
    | some (true, v1) =>
      match ebs LSt b v1 with
      | some (.nx v2) => whGo L LSt c b n v2
      | some (.ct v2) => whGo L LSt c b n v2
      | some (.bk v2) => some (.nx v2)
      | o => o

def stepE (Φ : Tab) (L : LE) : LE
  | .c d, v => if leaf d then some (.sh, d, v) else none
  | .pv p, v => (match getP v p with
    | some (.sh, d) => some (.sh, d, v)
    | _ => none)
  | .mv i, v => (match v[i]? with
    | some (.at false s d) => some (s, d, v.set i .no)
    | _ => none)
  | .glob x, v => (match Φ.gl x with
    | some d => some (.sh, d, v)
    | none => none)
  | .tup es, v => (match evs L es v with
    | some (ds, v') => some (.sh, .tup ds, v')
    | none => none)
  | .lst es, v => (match evs L es v with
    | some (ds, v') => some (.lst, .lst ds, v')
    | none => none)
  | .dct ks es, v => (match evs L (ks ++ es) v with
    | some (ds, v') => (match ks, es with
      | [], [] => some (.dct, .dct [] [], v')
      | [_], [_] => (match ds with
        | [k, d] => if (kd k).isSome then some (.dct, .dct [k] [d], v') else none
        | _ => none)
      | _, _ => none)
    | none => none)
  | .bin o a b, v => (match evs L [a, b] v with
    | some ([x, y], v') => (bin o x y).map fun p => (p.1, p.2, v')
    | _ => none)
  | .neg a, v => (match evv L a v with
    | some (.int i, v') => some (.sh, .int (-i), v')
    | _ => none)
  | .not a, v => (match evt L a v with
    | some (b, v') => some (.sh, .bl (!b), v')
    | _ => none)
  | .and a es, v => (match evAnd L a es v with
    | some (d, v') => some (.sh, d, v')
    | none => none)
  | .or a es, v => (match evOr L a es v with
    | some (d, v') => some (.sh, d, v')
    | none => none)
  | .cmp o a b, v => (match evs L [a, b] v with
    | some ([x, y], v') => (cmp o x y).map fun p => (.sh, .bl p, v')
    | _ => none)
  | .chain o p a b c, v => (match evs L [a, b] v with
    | some ([x, y], v') => (match cmp o x y with
      | some true => (match evv L c v' with
        | some (z, v2) => (cmp p y z).map fun q => (.sh, .bl q, v2)
        | none => none)
      | some false => some (.sh, .bl false, v')
      | none => none)
    | _ => none)
  | .ite c a b, v => (match evt L c v with
    | some (true, v') => L a v'
    | some (false, v') => L b v'
    | none => none)
  | .idx a i, v => (match evs L [a, i] v with
    | some ([x, y], v') => (idx x y).map fun d => (.sh, d, v')
    | _ => none)
  | .fld a c j, v => (match evv L a v with
    | some (.ins c' ds, v') => if c = c' then (match ds[j]? with
      | some d => some (.sh, d, v')
      | none => none) else none
    | _ => none)
  | .oidx p e, v => (match getP v p with
    | some (.ins _ _, _) => none
    | some _ => (match evv L e v with
      | some (y, v') => (match getP v' p with
        | some (.ins _ _, _) => none
        | some (_, x) => (idx x y).map fun d => (.sh, d, v')
        | _ => none)
      | _ => none)
    | _ => none)
  | .olen p, v => (match getP v p with
    | some (.ins _ _, _) => none
    | some (_, .lst xs) => some (.sh, .int xs.length, v)
    | some (.dct, .dct ks _) => if kinds ks false || kinds ks true then some (.sh, .int ks.length, v) else none
    | some (.sh, .dct ks _) => if kinds ks false || kinds ks true then some (.sh, .int ks.length, v) else none
    | _ => none)
  | .oin neg e p, v => (match evv L e v with
    | some (k, v') => (match getP v' p with
      | some (.ins _ _, _) => none
      | some (_, .dct ks _) => if kOk ks k then some (.sh, .bl (if neg then !dHas ks k else dHas ks k), v') else none
      | _ => none)
    | _ => none)
  | .get a k x, v => (match evs L [a, k, x] v with
    | some ([.dct ks vs, k, x], v') => if kOk ks k then some (.sh, (dGet ks vs k).getD x, v') else none
    | _ => none)
  | .gget x k d, v => (match Φ.gd x, evs L [k, d] v with
    | some kvs, some ([.str z, .int _], v') => (match kvs.lookup z with
      | some i => some (.sh, .int i, v')
      | none => none)
    | _, _ => none)
  | .oget p k x, v => (match getP v p with
    | some (_, .dct _ _) => (match evs L [k, x] v with
      | some ([k, x], v') => (match getP v' p with
        | some (_, .dct ks vs) => if kOk ks k then some (.sh, (dGet ks vs k).getD x, v') else none
        | _ => none)
      | _ => none)
    | _ => none)
  | .ocpy p, v => (match getP v p with
    | some (_, .dct ks vs) => if kinds ks false then some (.dct, .dct ks vs, v) else none
    | _ => none)
  | .sset e, v => (match evv L e v with
    | some (.lst xs, v') => (ssrt xs).map fun ds => (.lst, .lst ds, v')
    | some (.tup xs, v') => (ssrt xs).map fun ds => (.lst, .lst ds, v')
    | _ => none)
  | .olst p, v => (match getP v p with
    | some (_, .dct ks _) => some (.lst, .lst ks, v)
    | some (.lst, .lst xs) => some (.lst, .lst xs, v)
    | _ => none)
  | .osrt p, v => (match getP v p with
    | some (_, .dct ks _) => if srtOk ks then some (.lst, .lst (ks.mergeSort (PySem.W.dataLe false D.py)), v) else none
    | some (.lst, .lst xs) => (srt xs).map fun r => (r.1, r.2, v)
    | _ => none)
  | .pop p e, v => (match getP v p with
    | some (.lst, _) => (match evv L e v with
      | some (.int j, v1) => (match getP v1 p with
        | some (.lst, .lst xs) => if -(2 ^ 63) ≤ j ∧ j < 2 ^ 63 then (match seqIndex? j xs.length with
          | some k => (match xs[k]? with
            | some d => some (.sh, d, putP v1 (.lst (xs.eraseIdx k)) p)
            | none => none)
          | none => none) else none
        | _ => none)
      | _ => none)
    | _ => none)
  | .popl p, v => (match getP v p with
    | some (.lst, .lst xs) => (match xs[xs.length - 1]? with
      | some d => some (.sh, d, putP v (.lst xs.dropLast) p)
      | none => none)
    | _ => none)
  | .slc a lo hi, v => (match evv L a v with
    | some (x, v1) => (match evo L lo v1 with
      | some (l, v2) => (match evo L hi v2 with
        | some (h, v3) => (slc x l h).map fun p => (p.1, p.2, v3)
        | none => none)
      | none => none)
    | none => none)
  | .st2 a, v => (match evv L a v with
    | some (.tup [x, _, z], v') => some (.sh, .tup [x, z], v')
    | _ => none)
  | .rev a, v => (match evv L a v with
    | some (.lst xs, v') => some (.lst, .lst xs.reverse, v')
    | _ => none)
  | .call f as, v => (match Φ.fn f, evas L as v with
    | some F, some (ds, v1) => if (ioOf v1 as).Nodup then (match params v1 as ds with
      | some ps => (match F ps with
        | some (s, d, new) => (back v1 (ioOf v1 as) new).map fun v2 => (s, d, v2)
        | none => none)
      | none => none) else none
    | _, _ => none)
  | .callo f e, v => (match Φ.fn f, L e v with
    | some F, some (.lst, d, v1) => (match F [(.lst, d)] with
      | some (s, d', [_]) => some (s, d', v1)
      | _ => none)
    | _, _ => none)
  | .meth c m r as, v => (match Φ.mt c m, evas L (r :: as) v with
    | some F, some (ds, v1) => if recvOk v c r ∧ (ioOf v1 (r :: as)).Nodup then (match params v1 (r :: as) ds with
      | some ((s0, .ins c' d0) :: ps) => if c = c' then (match F ((s0, .ins c' d0) :: ps) with
        | some (s, d, new) => (back v1 (ioOf v1 (r :: as)) new).map fun v2 => (s, d, v2)
        | none => none) else none
      | _ => none) else none
    | _, _ => none)
  | .new c es ks kes, v => (match Φ.nw c es.length ks, evs L (es ++ kes) v with
    | some (F, fl), some (ds, v1) => (match fill ds fl with
      | some ps => (match F ((.ins c [], .ins c []) :: ps) with
        | some (.sh, .non, [(s, d)]) => some (s, d, v1)
        | _ => none)
      | none => none)
    | _, _ => none)
  | .blt f es, v => (match evs L es v with
    | some (ds, v') => (blt f ds).map fun p => (p.1, p.2, v')
    | none => none)
  | .isi a ts, v => (match evv L a v with
    | some (d, v') => (match d with
      | .ins _ _ => none
      | _ => some (.sh, .bl (ts.any fun t => isiOne (tyOf d) t), v'))
    | none => none)
  | .lrng es, v => (match evs L es v with
    | some ([.int b], v') => if -(2 ^ 62) ≤ b ∧ b ≤ 16777216 then some (.lst, .lst (rngOf 0 b), v') else none
    | some ([.int a, .int b], v') => if -(2 ^ 62) ≤ a ∧ a < 2 ^ 62 ∧ -(2 ^ 62) ≤ b ∧ b < 2 ^ 62 ∧ b - a ≤ 16777216 then some (.lst, .lst (rngOf a b), v') else none
    | _ => none)
  | .lc vs t it cond e, v => (match evi L it v with
    | some (xs, v1) => (match lcGo L vs t cond e xs [] (wipeE v1 vs) with
      | some (ds, v2) => some (.lst, .lst ds, v2)
      | none => none)
    | none => none)
  | .lc2 vs t it cond vs1 t1 it1 cond1 e, v => (match evi L it v with
    | some (xs, v1) => (match lc2Go L vs t cond vs1 t1 it1 cond1 e xs [] (wipeE v1 vs) with
      | some (ds, v2) => some (.lst, .lst ds, v2)
      | none => none)
    | none => none)
  | .frz e, v => (match evv L e v with
    | some (d, v') => some (.sh, d, v')
    | none => none)
  | .bor e, v => (match L e (fzA v) with
    | some (.sh, d, _) => if leaf d then some (.sh, d, v) else none
    | some (.lst, .lst ds, _) => if ds.all leaf then some (.lst, .lst ds, v) else none
    | _ => none)

def stepS (L : LE) (LSt : LS) : LS
  | .asg t e, v => (match evv L e v with
    | some (d, v1) => (match asgT t d v1 with
      | some v2 => some (.nx v2)
      | none => none)
    | none => none)
  | .set i e, v => (match L e v with
    | some (s, d, v1) => (match setN v1 i s d with
      | some v2 => some (.nx v2)
      | none => none)
    | none => none)
  | .par ts es, v => (match evss L es v with
    | some (sds, v1) => (match setNs ts sds v1 with
      | some v2 => some (.nx v2)
      | none => none)
    | none => none)
  | .expr e, v => (match evv L e v with
    | some (_, v1) => some (.nx v1)
    | none => none)
  | .ret e, v => (match L e v with
    | some (s, d, v1) => some (.rt s d v1)
    | none => none)
  | .retN, v => some (.rt .sh .non v)
  | .ite c a b, v => (match evt L c v with
    | some (true, v1) => ebs LSt a v1
    | some (false, v1) => ebs LSt b v1
    | none => none)
  | .for_ t it b, v => (match evi L it v with
    | some (xs, v1) => forGo LSt t b xs v1
    | none => none)
  | .while_ n c b, v => whGo L LSt c b n v
  | .pass, v => some (.nx v)
  | .brk, v => some (.bk v)
  | .cont, v => some (.ct v)
  | .app p e, v => (match getP v p with
    | some (.lst, _) => (match evv L e v with
      | some (d, v1) => (match getP v1 p with
        | some (.lst, .lst xs) => if xs.length < mostLen then some (.nx (putP v1 (.lst (xs ++ [d])) p)) else none
        | _ => none)
      | none => none)
    | _ => none)
  | .ext p e, v => (match getP v p with
    | some (.lst, _) => (match evv L e v with
      | some (.lst ys, v1) => (match getP v1 p with
        | some (.lst, .lst xs) => if xs.length + ys.length ≤ mostLen then some (.nx (putP v1 (.lst (xs ++ ys)) p)) else none
        | _ => none)
      | _ => none)
    | _ => none)
  | .put p k e, v => (match evv L e v with
    | some (d, v1) => (match getP v1 p with
      | some (.lst, _) => (match evv L k v1 with
        | some (.int j, v2) => (match getP v2 p with
          | some (.lst, .lst xs) => (match L2.ixN xs.length j with
            | some n => some (.nx (putP v2 (.lst (xs.set n d)) p))
            | none => none)
          | _ => none)
        | _ => none)
      | some (.dct, _) => (match evv L k v1 with
        | some (k, v2) => (match getP v2 p with
          | some (.dct, .dct ks vs) => if kOk ks k ∧ ks.length < mostLen then some (.nx (putP v2 (.dct (dPut ks vs k d).1 (dPut ks vs k d).2) p)) else none
          | _ => none)
        | _ => none)
      | _ => none)
    | none => none)
  | .fset i c j e, v => (match L e v with
    | some (s, d, v1) => (match s.fs?, v1[i]? with
      | some f, some (.at io (.ins c' fs) (.ins c'' ds)) => if c = c' ∧ c = c'' then
          (if j < fs.length then some (.nx (v1.set i (.at io (.ins c (fs.set j f)) (.ins c (ds.set j d)))))
          else if j = fs.length then some (.nx (v1.set i (.at io (.ins c (fs ++ [f])) (.ins c (ds ++ [d]))))) else none) else none
      | _, _ => none)
    | none => none)
  | .aug i o e, v => (match v[i]? with
    | some (.at false .sh x) => (match evv L e v with
      | some (y, v1) => (match x, y with
        | .int a, .int b => (match bin o (.int a) (.int b) with
          | some (.sh, d) => (match setN v1 i .sh d with
            | some v2 => some (.nx v2)
            | none => none)
          | _ => none)
        | _, _ => none)
      | none => none)
    | _ => none)
  | .fz i, v => (match v[i]? with
    | some (.at false .fro _) => none
    | some (.at false _ d) => some (.nx (v.set i (.at false .sh d)))
    | _ => none)
  | .wipe is, v => some (.nx (wipeE v is))
  | .raise_, _ => none

structure Lev where
  e : LE
  s : LS
def lev (Φ : Tab) : Nat → Lev
  | 0 => ⟨fun _ _ => none, fun _ _ => none⟩
  | n + 1 => ⟨stepE Φ (lev Φ n).e, stepS (lev Φ n).e (lev Φ n).s⟩

/-- a def's run: the parameters, then all other slots empty; what it hands back, and the inout parameters' data -/
def start (n : Nat) (ps : List (Sh × D)) : Ev := ps.map (fun p => match p.1 with | .sh => Slot.at false .sh p.2 | s => Slot.at true s p.2) ++ List.replicate (n - ps.length) .no
def outs : List (Sh × D) → Ev → Option (List (Sh × D))
  | [], _ => some []
  | (.sh, _) :: r, _ :: v => outs r v
  | _ :: r, .at true s' d :: v => (outs r v).map ((s', d) :: ·)
  | _, _ => none
def run (Φ : Tab) (k n : Nat) (body : List S) : Fn := fun ps =>
  match ebs (lev Φ k).s body (start n ps) with
  | some (.nx v) => (outs ps v).map fun ds => (.sh, .non, ds)
  | some (.rt s d v) => (outs ps v).map fun ds => (s, d, ds)
  | _ => none
end Q

set_option Elab.async false
set_option linter.all false
set_option maxRecDepth 100000
set_option maxHeartbeats 2000000
/-! Q2: how data stand in the abstract heap; states; what a step may change. -/
namespace Q
open PySem L2

structure Mw where
  K : PySem.W.Frag
  P : Program
  w : World
  cl : Nat → Addr × List Str
/-- a dict, by its very object -/
def DX (a : Addr) (o : Obj) : HO := .ext fun h => h.get? a = some o
mutual
inductive Rp (M : Mw) (H : Hp) : V → D → Prop
  | non : Rp M H .non .non
  | bl (b : Bool) : Rp M H (.bl b) (.bl b)
  | int (i : Int) : Rp M H (.int i) (.int i)
  | str (x : Str) : Rp M H (.str x) (.str x)
  | lst {a : Addr} {vs : List V} {ds : List D} : H a = some (.lst vs) → ds.length ≤ sizeLine → Rps M H vs ds → Rp M H (.ref a) (.lst ds)
  | tup {a : Addr} {vs : List V} {ds : List D} : SqT M.K H a vs → ds.length ≤ sizeLine → Rps M H vs ds → Rp M H (.ref a) (.tup ds)
  | dct {a : Addr} {o : Obj} {es : Array DictEntry} {ep : Nat} {ks vs : List D} : H a = some (DX a o) → (a == sysModules) = false → o.ExactDict → o.data = .dict es ep → RE M H es.toList ks vs → (ks.map kOf).Nodup → ks.length ≤ sizeLine → Rp M H (.ref a) (.dct ks vs)
  | ins {a dx : Addr} {c : Nat} {us : List V} {ds : List D} : H a = some (.ins (M.cl c).1 dx ((M.cl c).2.zip us)) → us.length ≤ (M.cl c).2.length → Rps M H us ds → Rp M H (.ref a) (.ins c ds)
inductive Rps (M : Mw) (H : Hp) : List V → List D → Prop
  | nil : Rps M H [] []
  | cons {v : V} {vs : List V} {d : D} {ds : List D} : Rp M H v d → Rps M H vs ds → Rps M H (v :: vs) (d :: ds)
/-- the entries of a dict -/
inductive RE (M : Mw) (H : Hp) : List DictEntry → List D → List D → Prop
  | nil : RE M H [] [] []
  | cons {e : DictEntry} {l : List DictEntry} {kv vv : V} {k v : D} {ks vs : List D} : e.hash = (kOf k).hash M.w → RelV kv e.key → Rp M H kv k → RelV vv e.val → Rp M H vv v → RE M H l ks vs → RE M H (e :: l) (k :: ks) (v :: vs)
end

theorem same_seqT {K : PySem.W.Frag} {H H' : Hp} {a : Addr} {xs : List V} (e : Same H H') (h : SqT K H a xs) : SqT K H' a xs := by
  rcases h with (h | ⟨o, h⟩) | h
  · exact .inl (.inl (e _ _ h))
  · exact .inl (.inr ⟨o, e _ _ h⟩)
  · exact .inr h
section
variable {M : Mw} {H H' : Hp}
mutual
theorem Rp.mono (e : Same H H') : ∀ {d : D} {v : V}, Rp M H v d → Rp M H' v d
  | _, _, .non => .non
  | _, _, .bl b => .bl b
  | _, _, .int i => .int i
  | _, _, .str x => .str x
  | _, _, .lst q z r => .lst (e _ _ q) z (Rps.mono e r)
  | _, _, .tup q z r => .tup (same_seqT e q) z (Rps.mono e r)
  | _, _, .dct q s x y r n z => .dct (e _ _ q) s x y (RE.mono e r) n z
  | _, _, .ins q z r => .ins (e _ _ q) z (Rps.mono e r)
theorem Rps.mono (e : Same H H') : ∀ {ds : List D} {vs : List V}, Rps M H vs ds → Rps M H' vs ds
  | _, _, .nil => .nil
  | _, _, .cons h t => .cons (Rp.mono e h) (Rps.mono e t)
theorem RE.mono (e : Same H H') : ∀ {es : List DictEntry} {ks vs : List D}, RE M H es ks vs → RE M H' es ks vs
  | _, _, _, .nil => .nil
  | _, _, _, .cons h1 h2 h3 h4 h5 t => .cons h1 h2 (Rp.mono e h3) h4 (Rp.mono e h5) (RE.mono e t)
end
theorem Rps.length : ∀ {ds : List D} {vs : List V}, Rps M H vs ds → vs.length = ds.length
  | _, _, .nil => rfl
  | _, _, .cons _ t => by simp [Rps.length t]
theorem Rps.get : ∀ {ds : List D} {vs : List V} {i : Nat} {v : V}, Rps M H vs ds → vs[i]? = some v → ∃ d, ds[i]? = some d ∧ Rp M H v d
  | _, _, _, _, .nil, e => by simp at e
  | _, _, 0, _, .cons h _, e => by simp at e; subst e; exact ⟨_, rfl, h⟩
  | _, _, i + 1, _, .cons _ t, e => by
    obtain ⟨d, h1, h2⟩ := Rps.get (i := i) t (by simpa using e)
    exact ⟨d, by simpa using h1, h2⟩
theorem Rps.get' : ∀ {ds : List D} {vs : List V} {i : Nat} {d : D}, Rps M H vs ds → ds[i]? = some d → ∃ v, vs[i]? = some v ∧ Rp M H v d
  | _, _, _, _, .nil, e => by simp at e
  | _, _, 0, _, .cons h _, e => by simp at e; subst e; exact ⟨_, rfl, h⟩
  | _, _, i + 1, _, .cons _ t, e => by
    obtain ⟨d, h1, h2⟩ := Rps.get' (i := i) t (by simpa using e)
    exact ⟨d, by simpa using h1, h2⟩
theorem Rps.append : ∀ {ds es : List D} {vs us : List V}, Rps M H vs ds → Rps M H us es → Rps M H (vs ++ us) (ds ++ es)
  | _, _, _, _, .nil, s => s
  | _, _, _, _, .cons h t, s => .cons h (Rps.append t s)
theorem Rps.take : ∀ {ds : List D} {vs : List V} (n : Nat), Rps M H vs ds → Rps M H (vs.take n) (ds.take n)
  | _, _, 0, _ => by simpa using Rps.nil
  | _, _, _ + 1, .nil => .nil
  | _, _, n + 1, .cons h t => .cons h (Rps.take n t)
theorem Rps.drop : ∀ {ds : List D} {vs : List V} (n : Nat), Rps M H vs ds → Rps M H (vs.drop n) (ds.drop n)
  | _, _, 0, r => r
  | _, _, _ + 1, .nil => .nil
  | _, _, n + 1, .cons _ t => Rps.drop n t
theorem Rps.set {v : V} {d : D} (h : Rp M H v d) : ∀ {ds : List D} {vs : List V} (n : Nat), Rps M H vs ds → Rps M H (vs.set n v) (ds.set n d)
  | _, _, _, .nil => .nil
  | _, _, 0, .cons _ t => .cons h t
  | _, _, n + 1, .cons q t => .cons q (Rps.set h n t)
mutual
theorem Rp.dp : ∀ {d : D} {v : V}, Rp M H v d → d.pl = true → Dp M.K H v d.py
  | _, _, .non, _ => .non
  | _, _, .bl b, _ => .bl b
  | _, _, .int i, _ => .int i
  | _, _, .str x, _ => .str x
  | _, _, .lst q _ r, p => .lst (SqL.of q) (Rps.dp r p)
  | _, _, .tup q _ r, p => .tup q (Rps.dp r p)
  | _, _, .dct _ _ _ _ _ _ _, p => by cases p
  | _, _, .ins _ _ _, p => by cases p
theorem Rps.dp : ∀ {ds : List D} {vs : List V}, Rps M H vs ds → D.pls ds = true → DpAll M.K H vs (D.pys ds)
  | _, _, .nil, _ => .nil
  | _, _, .cons h t, p => by
    have p' := Bool.and_eq_true_iff.mp p
    exact .cons (Rp.dp h p'.1) (Rps.dp t p'.2)
end
theorem Rps.at {ds : List D} {vs : List V} {i : Int} {d : D} (r : Rps M H vs ds) (e : atI ds i = some d) : ∃ v, atI vs i = some v ∧ Rp M H v d := by
  unfold atI at e ⊢
  rw [r.length]
  cases q : ixN ds.length i with
  | none => rw [q] at e; cases e
  | some j =>
    rw [q] at e
    obtain ⟨v, h1, h2⟩ := r.get' (show ds[j]? = some d from e)
    exact ⟨v, h1, h2⟩
theorem Rps.cut {ds : List D} {vs : List V} (lo hi : Option Int) (r : Rps M H vs ds) : Rps M H (cutV vs lo hi) (cutD ds lo hi) := by
  unfold cutV cutD
  rw [r.length]
  exact (r.drop _).take _
theorem cutD_length (xs : List D) (lo hi : Option Int) : (cutD xs lo hi).length ≤ xs.length := by
  unfold cutD
  rw [List.length_take, List.length_drop]
  omega
end

/-! ### owned things -/
def RL (M : Mw) (H1 H : Hp) (v : V) (d : D) (f : List Addr) : Prop := ∃ a vs ds, v = .ref a ∧ d = .lst ds ∧ f = [a] ∧ H a = some (.lst vs) ∧ Rps M H1 vs ds ∧ ds.length ≤ sizeLine
/-- a dict's object tells these entries -/
structure DOb (M : Mw) (H1 : Hp) (a : Addr) (o : Obj) (ks vs : List D) : Prop where
  sys : (a == sysModules) = false
  ex : o.ExactDict
  dat : ∃ es ep, o.data = .dict es ep ∧ RE M H1 es.toList ks vs
  nd : (ks.map kOf).Nodup
  z : ks.length ≤ sizeLine
theorem DOb.mono {M : Mw} {H1 H1' : Hp} {a : Addr} {o : Obj} {ks vs : List D} (h : DOb M H1 a o ks vs) (e : Same H1 H1') : DOb M H1' a o ks vs := by
  obtain ⟨h1, h2, ⟨es, ep, h3, h4⟩, h5, h6⟩ := h
  exact ⟨h1, h2, ⟨es, ep, h3, h4.mono e⟩, h5, h6⟩
def RD (M : Mw) (H1 H : Hp) (v : V) (d : D) (f : List Addr) : Prop := ∃ a o ks vs, v = .ref a ∧ d = .dct ks vs ∧ f = [a] ∧ H a = some (DX a o) ∧ DOb M H1 a o ks vs
def RF (M : Mw) (H1 H : Hp) : Fs → V → D → List Addr → Prop
  | .sh, v, d, f => Rp M H1 v d ∧ f = []
  | .lst, v, d, f => RL M H1 H v d f
  | .dct, v, d, f => RD M H1 H v d f
inductive RFs (M : Mw) (H1 H : Hp) : List Fs → List V → List D → List (List Addr) → Prop
  | nil : RFs M H1 H [] [] [] []
  | cons {s : Fs} {v : V} {d : D} {f : List Addr} {ss : List Fs} {vs : List V} {ds : List D} {fs : List (List Addr)} : RF M H1 H s v d f → RFs M H1 H ss vs ds fs → RFs M H1 H (s :: ss) (v :: vs) (d :: ds) (f :: fs)
def RS (M : Mw) (H1 H : Hp) : Sh → V → D → List Addr → Prop
  | .sh, v, d, f => Rp M H1 v d ∧ f = []
  | .lst, v, d, f => RL M H1 H v d f
  | .dct, v, d, f => RD M H1 H v d f
  | .fro, v, d, f => ∃ a vs ds, v = .ref a ∧ d = .lst ds ∧ f = [] ∧ SqL M.K H1 a vs ∧ Rps M H1 vs ds ∧ ds.length ≤ sizeLine
  | .ins c ss, v, d, f => ∃ a dx us ds ff, v = .ref a ∧ d = .ins c ds ∧ f = a :: dx :: ff.flatten ∧ H a = some (.ins (M.cl c).1 dx ((M.cl c).2.zip us)) ∧ H dx = some (.own a) ∧ us.length ≤ (M.cl c).2.length ∧ RFs M H1 H ss us ds ff ∧ f.Nodup
theorem RF.rs {M : Mw} {H1 H : Hp} {s : Fs} {v : V} {d : D} {f : List Addr} : RF M H1 H s v d f ↔ RS M H1 H s.sh' v d f := by cases s <;> exact Iff.rfl
section
variable {M : Mw} {H1 H H1' H' : Hp} {v : V} {d : D} {f : List Addr}
theorem RF.step {s : Fs} (h : RF M H1 H s v d f) (m : Same H1 H1') (k : ∀ b o, b ∈ f → H b = some o → H' b = some o) : RF M H1' H' s v d f := by
  cases s with
  | sh => exact ⟨h.1.mono m, h.2⟩
  | lst =>
    obtain ⟨a, vs, ds, rfl, rfl, rfl, ha, r, z⟩ := h
    exact ⟨a, vs, ds, rfl, rfl, rfl, k _ _ (by simp) ha, r.mono m, z⟩
  | dct =>
    obtain ⟨a, o, ks, vs, rfl, rfl, rfl, ha, r⟩ := h
    exact ⟨a, o, ks, vs, rfl, rfl, rfl, k _ _ (by simp) ha, r.mono m⟩
theorem RFs.step {ss : List Fs} {vs : List V} {ds : List D} {fs : List (List Addr)} (h : RFs M H1 H ss vs ds fs) (m : Same H1 H1') (k : ∀ b o, b ∈ fs.flatten → H b = some o → H' b = some o) : RFs M H1' H' ss vs ds fs := by
  induction h with
  | nil => exact .nil
  | cons r _ ih => exact .cons (r.step m fun b o hb => k b o (by simp [hb])) (ih fun b o hb => k b o (by
      rw [List.flatten_cons, List.mem_append]; exact .inr hb))
theorem RS.step {s : Sh} (h : RS M H1 H s v d f) (m : Same H1 H1') (k : ∀ b o, b ∈ f → H b = some o → H' b = some o) : RS M H1' H' s v d f := by
  cases s with
  | sh => exact ⟨h.1.mono m, h.2⟩
  | lst => exact RF.step (s := .lst) h m k
  | dct => exact RF.step (s := .dct) h m k
  | fro =>
    obtain ⟨a, vs, ds, rfl, rfl, rfl, ha, r, z⟩ := h
    exact ⟨a, vs, ds, rfl, rfl, rfl, m.seq ha, r.mono m, z⟩
  | ins c ss =>
    obtain ⟨a, dx, us, ds, ff, rfl, rfl, rfl, ha, hd, z, r, nd⟩ := h
    exact ⟨a, dx, us, ds, ff, rfl, rfl, rfl, k _ _ (by simp) ha, k _ _ (by simp) hd, z, r.step m fun b o hb => k b o (by simp only [List.mem_cons]; exact .inr (.inr hb)), nd⟩
theorem RF.there {s : Fs} (h : RF M H1 H s v d f) : ∀ b ∈ f, H b ≠ none := by
  intro b hb
  cases s with
  | sh => rw [h.2] at hb; simp at hb
  | lst =>
    obtain ⟨a, vs, ds, rfl, rfl, rfl, ha, r, z⟩ := h
    have e : b = a := by simpa using hb
    rw [e, ha]; simp
  | dct =>
    obtain ⟨a, o, ks, vs, rfl, rfl, rfl, ha, r⟩ := h
    have e : b = a := by simpa using hb
    rw [e, ha]; simp
theorem RFs.there {ss : List Fs} {vs : List V} {ds : List D} {fs : List (List Addr)} (h : RFs M H1 H ss vs ds fs) : ∀ b ∈ fs.flatten, H b ≠ none := by
  induction h with
  | nil => intro b hb; simp at hb
  | cons r _ ih =>
    intro b hb
    rw [List.flatten_cons, List.mem_append] at hb
    rcases hb with hb | hb
    · exact r.there b hb
    · exact ih b hb
theorem RS.there {s : Sh} (h : RS M H1 H s v d f) : ∀ b ∈ f, H b ≠ none := by
  intro b hb
  cases s with
  | sh => rw [h.2] at hb; simp at hb
  | lst => exact RF.there (s := .lst) h b hb
  | dct => exact RF.there (s := .dct) h b hb
  | fro =>
    obtain ⟨a, vs, ds, rfl, rfl, ef, ha, _, _⟩ := h
    rw [ef] at hb; simp at hb
  | ins c ss =>
    obtain ⟨a, dx, us, ds, ff, rfl, rfl, rfl, ha, hd, z, r, nd⟩ := h
    simp only [List.mem_cons] at hb
    rcases hb with hb | hb | hb
    · rw [hb, ha]; simp
    · rw [hb, hd]; simp
    · exact r.there b hb
theorem RF.froze {s : Fs} (h : RF M H1 H s v d f) (m : Same H1 H1') (k : ∀ b o, b ∈ f → H b = some o → H1' b = some o) : Rp M H1' v d := by
  cases s with
  | sh => exact h.1.mono m
  | lst =>
    obtain ⟨a, vs, ds, rfl, rfl, rfl, ha, r, z⟩ := h
    exact .lst (k _ _ (by simp) ha) z (r.mono m)
  | dct =>
    obtain ⟨a, o, ks, vs, rfl, rfl, rfl, ha, h1, h2, ⟨es, ep, h3, h4⟩, h5, h6⟩ := h
    exact .dct (k _ _ (by simp) ha) h1 h2 h3 (h4.mono m) h5 h6
theorem RFs.froze {ss : List Fs} {vs : List V} {ds : List D} {fs : List (List Addr)} (h : RFs M H1 H ss vs ds fs) (m : Same H1 H1') (k : ∀ b o, b ∈ fs.flatten → H b = some o → H1' b = some o) : Rps M H1' vs ds := by
  induction h with
  | nil => exact .nil
  | cons r _ ih => exact .cons (r.froze m fun b o hb => k b o (by simp [hb])) (ih fun b o hb => k b o (by
      rw [List.flatten_cons, List.mem_append]; exact .inr hb))
theorem RS.frozeG {s : Sh} (h : RS M H1 H s v d f) (m : Same H1 H1') (k : ∀ b o, b ∈ f → H b = some o → H1' b = some o) (hs : s ≠ .fro) : Rp M H1' v d := by
  cases s with
  | sh => exact h.1.mono m
  | lst => exact RF.froze (s := .lst) h m k
  | dct => exact RF.froze (s := .dct) h m k
  | fro => exact absurd rfl hs
  | ins c ss =>
    obtain ⟨a, dx, us, ds, ff, rfl, rfl, rfl, ha, hd, z, r, nd⟩ := h
    exact .ins (k _ _ (by simp) ha) z (r.froze m fun b o hb => k b o (by simp only [List.mem_cons]; exact .inr (.inr hb)))
end
/-- frozen: what was owned is shared from now on -/
def join (H1 H : Hp) (f : List Addr) : Hp := fun b => if b ∈ f then H b else H1 b
theorem join_nil (H1 H : Hp) : join H1 H [] = H1 := by funext b; simp [join]
theorem join_up {H1 H : Hp} {f : List Addr} (d : ∀ b ∈ f, H1 b = none) : Same H1 (join H1 H f) := fun b o e => by
  unfold join
  rw [if_neg (fun z => by rw [d b z] at e; cases e)]
  exact e
theorem join_sub {H1 H : Hp} {f : List Addr} (s : Same H1 H) : Same (join H1 H f) H := fun b o e => by
  unfold join at e
  split at e
  · exact e
  · exact s b o e
theorem RS.froze {M : Mw} {H1 H : Hp} {s : Sh} {v : V} {d : D} {f : List Addr} (h : RS M H1 H s v d f) (dj : ∀ b ∈ f, H1 b = none) (hs : s ≠ .fro) : Rp M (join H1 H f) v d :=
  h.frozeG (join_up dj) (fun b o hb e => by unfold join; rw [if_pos hb]; exact e) hs

/-! ### states -/
def SlotOk (M : Mw) (ent : Nat → Option V) (σ : L2.St) (H1 H : Hp) (i : Nat) (f : List Addr) : Slot → Prop
  | .no => f = []
  | .at io s d => ∃ u, σ[i]? = some (some u) ∧ RS M H1 H s u d f ∧ (io = true → ent i = some u)
structure SV (M : Mw) (ent : Nat → Option V) (σ : L2.St) (v : Ev) (H1 H : Hp) (F : Nat → List Addr) : Prop where
  sub : Same H1 H
  len : v.length = σ.length
  slot : ∀ i sl, v[i]? = some sl → SlotOk M ent σ H1 H i (F i) sl
  out : ∀ i, v.length ≤ i → F i = []
  nd : ∀ i j b, b ∈ F i → b ∈ F j → i = j
  dis : ∀ i b, b ∈ F i → H1 b = none
/-- O: what may change; O': what is owned behind -/
structure Tr (O : Addr → Prop) (H1 H H1' H' : Hp) (O' : Addr → Prop) : Prop where
  mono : Same H1 H1'
  frame : ∀ b o, H b = some o → ¬ O b → H' b = some o
  new : ∀ b, H1' b ≠ none → H1 b ≠ none ∨ H b = none ∨ O b
  own : ∀ b, O' b → H b = none ∨ O b
def OF (F : Nat → List Addr) (b : Addr) : Prop := ∃ i, b ∈ F i
theorem Tr.refl {O O' : Addr → Prop} {H1 H : Hp} (h : ∀ b, O' b → O b) : Tr O H1 H H1 H O' := ⟨fun _ _ e => e, fun _ _ e _ => e, fun _ e => .inl e, fun b e => .inr (h b e)⟩
theorem Tr.trans {O O1 O2 : Addr → Prop} {H1 H H1' H' H1'' H'' : Hp} (a : Tr O H1 H H1' H' O1) (b : Tr O1 H1' H' H1'' H'' O2) : Tr O H1 H H1'' H'' O2 := by
  have key : ∀ c, H' c = none ∨ O1 c → H c = none ∨ O c := fun c h => by
    rcases h with h | h
    · by_cases hO : O c
      · exact .inr hO
      · cases q : H c with
        | none => exact .inl rfl
        | some o => rw [a.frame c o q hO] at h; cases h
    · exact a.own c h
  refine ⟨fun c o e => b.mono c o (a.mono c o e), fun c o e n => b.frame c o (a.frame c o e n) fun z => ?_, fun c e => ?_, fun c e => key c (b.own c e)⟩
  · rcases a.own c z with q | q
    · rw [q] at e; cases e
    · exact n q
  · rcases b.new c e with q | q
    · exact a.new c q
    · exact .inr (key c q)
theorem Tr.weak {O P O' P' : Addr → Prop} {H1 H H1' H' : Hp} (a : Tr O H1 H H1' H' O') (h : ∀ b, O b → P b) (h' : ∀ b, P' b → O' b ∨ P b) : Tr P H1 H H1' H' P' :=
  ⟨a.mono, fun b o e n => a.frame b o e fun z => n (h b z), fun b e => (a.new b e).imp_right fun q => q.imp_right (h b), fun b e => by
    rcases h' b e with q | q
    · exact (a.own b q).imp_right (h b)
    · exact .inr q⟩
/-- a new object, shared -/
theorem Tr.laidS {O : Addr → Prop} {H1 H : Hp} {p : Addr} {o : HO} (hp : H p = none) (s : Same H1 H) : Tr O H1 H (upd H1 p o) (upd H p o) O := by
  have h1 : H1 p = none := s.free hp
  refine ⟨fun b u e => by rw [upd_ne (ne_of_none e h1)]; exact e, fun b u e _ => by rw [upd_ne (ne_of_none e hp)]; exact e, fun b e => ?_, fun b e => .inr e⟩
  by_cases hb : b = p
  · subst hb; exact .inr (.inl hp)
  · rw [upd_ne hb] at e; exact .inl e
theorem same_upd2 {H1 H : Hp} {p : Addr} {o : HO} (s : Same H1 H) : Same (upd H1 p o) (upd H p o) := fun b u e => by
  by_cases hb : b = p
  · subst hb; rw [upd_same] at e ⊢; exact e
  · rw [upd_ne hb] at e ⊢; exact s b u e
theorem same_new {H : Hp} {p : Addr} {o : HO} (hp : H p = none) : Same H (upd H p o) := fun b u e => by rw [upd_ne (ne_of_none e hp)]; exact e
/-- a new object, owned -/
theorem Tr.laidO {O : Addr → Prop} {H1 H : Hp} {p : Addr} {o : HO} (hp : H p = none) : Tr O H1 H H1 (upd H p o) (fun b => O b ∨ b = p) :=
  ⟨fun _ _ e => e, fun b u e _ => by rw [upd_ne (ne_of_none e hp)]; exact e, fun _ e => .inl e, fun b e => by
    rcases e with e | e
    · exact .inr e
    · subst e; exact .inl hp⟩

section
variable {M : Mw} {ent : Nat → Option V} {σ : L2.St} {v : Ev} {H1 H H1' H' : Hp} {F : Nat → List Addr}
/-- nothing of ours has changed -/
theorem SV.keep (S : SV M ent σ v H1 H F) (m : Same H1 H1') (s : Same H1' H') (k : ∀ b o, OF F b → H b = some o → H' b = some o) (n : ∀ b, OF F b → H1' b = none) : SV M ent σ v H1' H' F := by
  refine ⟨s, S.len, fun i sl e => ?_, S.out, S.nd, fun i b hb => n b ⟨i, hb⟩⟩
  have q := S.slot i sl e
  cases sl with
  | no => exact q
  | «at» io sh d =>
    obtain ⟨u, h1, h2, h3⟩ := q
    exact ⟨u, h1, h2.step m fun b o hb e => k b o ⟨i, hb⟩ e, h3⟩
/-- what is owned stands in the heap -/
theorem SV.there (S : SV M ent σ v H1 H F) {b : Addr} (hb : OF F b) : H b ≠ none := by
  obtain ⟨i, hb⟩ := hb
  by_cases hi : i < v.length
  · have q := S.slot i (v[i]) (by simp [hi])
    generalize v[i] = sl at q
    cases sl with
    | no => rw [show F i = [] from q] at hb; cases hb
    | «at» io sh d =>
      obtain ⟨u, _, h2, _⟩ := q
      exact h2.there b hb
  · rw [S.out i (Nat.le_of_not_lt hi)] at hb; cases hb
theorem SV.laidS (S : SV M ent σ v H1 H F) {p : Addr} {o : HO} (hp : H p = none) (hF : True) : SV M ent σ v (upd H1 p o) (upd H p o) F := by
  have h1 : H1 p = none := S.sub.free hp
  refine S.keep (fun b u e => by rw [upd_ne (ne_of_none e h1)]; exact e) (same_upd2 S.sub) (fun b o _ e => by rw [upd_ne (ne_of_none e hp)]; exact e) fun b hb => ?_
  have hbp : b ≠ p := fun z => S.there hb (by rw [z]; exact hp)
  obtain ⟨i, hi⟩ := hb
  rw [upd_ne hbp]
  exact S.dis i b hi
theorem SV.laidO (S : SV M ent σ v H1 H F) {p : Addr} {o : HO} (hp : H p = none) : SV M ent σ v H1 (upd H p o) F :=
  S.keep (fun _ _ e => e) (fun b u e => by rw [upd_ne (ne_of_none (S.sub b u e) hp)]; exact S.sub b u e) (fun b u _ e => by rw [upd_ne (ne_of_none e hp)]; exact e) fun b ⟨i, hb⟩ => S.dis i b hb
theorem SV.new (S : SV M ent σ v H1 H F) {p : Addr} (hp : H p = none) : ¬ OF F p := fun hb => S.there hb hp
theorem SV.freeze (S : SV M ent σ v H1 H F) {f : List Addr} (hf : ∀ b ∈ f, ¬ OF F b) (dj : ∀ b ∈ f, H1 b = none) : SV M ent σ v (join H1 H f) H F :=
  S.keep (join_up dj) (join_sub S.sub) (fun _ _ _ e => e) fun b ⟨i, hb⟩ => by
    unfold join
    rw [if_neg (fun z => hf b z ⟨i, hb⟩)]
    exact S.dis i b hb
theorem Tr.froze {O O' : Addr → Prop} {f : List Addr} (t : Tr O H1 H H1' H' (fun b => O' b ∨ b ∈ f)) (s : Same H1' H') (dj : ∀ b ∈ f, H1' b = none) : Tr O H1 H (join H1' H' f) H' O' :=
  ⟨fun b o e => join_up dj b o (t.mono b o e), t.frame, fun b e => by
    unfold join at e
    split at e
    · rename_i hb
      exact .inr (t.own b (.inr hb))
    · exact t.new b e, fun b e => t.own b (.inl e)⟩
end

/-! ### readings -/
section
variable (M : Mw) (ent : Nat → Option V)
/-- behind an expression: the answer u, of shape s, d; the owned -/
structure Post (σ : L2.St) (F : Nat → List Addr) (H1 H : Hp) (s : Sh) (d : D) (v' : Ev) (u : V) (H1' H' : Hp) (F' : Nat → List Addr) (f : List Addr) : Prop where
  tr : Tr (OF F) H1 H H1' H' (fun b => OF F' b ∨ b ∈ f)
  sv : SV M ent σ v' H1' H' F'
  rs : RS M H1' H' s u d f
  ap : ∀ b ∈ f, ¬ OF F' b
  dj : ∀ b ∈ f, H1' b = none
structure PostV (σ : L2.St) (F : Nat → List Addr) (H1 H : Hp) (d : D) (v' : Ev) (u : V) (H1' H' : Hp) (F' : Nat → List Addr) : Prop where
  tr : Tr (OF F) H1 H H1' H' (OF F')
  sv : SV M ent σ v' H1' H' F'
  rp : Rp M H1' u d
def tE (L : LE) (e : E) : TE := fun σ H Q => ∃ v H1 F s d v', SV M ent σ v H1 H F ∧ L e v = some (s, d, v') ∧ ∀ u H1' H' F' f, Post M ent σ F H1 H s d v' u H1' H' F' f → Q u H'
def tV (L : LE) (e : E) : TE := fun σ H Q => ∃ v H1 F d v', SV M ent σ v H1 H F ∧ evv L e v = some (d, v') ∧ ∀ u H1' H' F', PostV M ent σ F H1 H d v' u H1' H' F' → Q u H'
def tB (L : LE) (e : E) : TT := fun σ H Q => ∃ v H1 F b v', SV M ent σ v H1 H F ∧ evt L e v = some (b, v') ∧ ∀ H1' H' F', Tr (OF F) H1 H H1' H' (OF F') → SV M ent σ v' H1' H' F' → Q b H'
structure PostA (σ : L2.St) (F : Nat → List Addr) (H1 H : Hp) (ds : List D) (v' : Ev) (us : List V) (H1' H' : Hp) (F' : Nat → List Addr) : Prop where
  tr : Tr (OF F) H1 H H1' H' (OF F')
  sv : SV M ent σ v' H1' H' F'
  rp : Rps M H1' us ds
def tA (L : LE) (es : List E) : TA := fun σ H Q => ∃ v H1 F ds v', SV M ent σ v H1 H F ∧ evs L es v = some (ds, v') ∧ ∀ us H1' H' F', PostA M ent σ F H1 H ds v' us H1' H' F' → Q us H'
end
section
variable {M : Mw} {ent : Nat → Option V} {σ : L2.St} {F F' : Nat → List Addr} {H1 H H1' H' : Hp} {s : Sh} {d : D} {v' : Ev} {u : V} {f : List Addr}
theorem Post.v (p : Post M ent σ F H1 H s d v' u H1' H' F' f) (hs : s ≠ .fro) : PostV M ent σ F H1 H d v' u (join H1' H' f) H' F' :=
  ⟨p.tr.froze p.sv.sub p.dj, p.sv.freeze p.ap p.dj, p.rs.froze p.dj hs⟩
theorem evv_some {L : LE} {e : E} {v v' : Ev} {d : D} (h : evv L e v = some (d, v')) : ∃ s, L e v = some (s, d, v') ∧ s ≠ .fro := by
  unfold evv at h
  cases z : L e v with
  | none => rw [z] at h; cases h
  | some r =>
    obtain ⟨s, d0, v0⟩ := r
    rw [z] at h
    cases s with
    | fro => cases h
    | _ => cases h; exact ⟨_, rfl, by simp⟩
theorem PostV.post (p : PostV M ent σ F H1 H d v' u H1' H' F') : Post M ent σ F H1 H .sh d v' u H1' H' F' [] := by
  refine ⟨p.tr.weak (fun _ q => q) fun b q => ?_, p.sv, ⟨p.rp, rfl⟩, fun b q => by simp at q, fun b q => by simp at q⟩
  rcases q with q | q
  · exact .inl q
  · simp at q
theorem PE.mono {X : Cx} {e : Expr} {t t' : TE} (h : PE X e t) (m : ∀ σ H Q, t' σ H Q → t σ H Q) : PE X e t' := ⟨fun pins s σ H Q I q => h.run pins s σ H Q I (m σ H Q q)⟩
theorem PT.mono {X : Cx} {e : Expr} {t t' : TT} (h : PT X e t) (m : ∀ σ H Q, t' σ H Q → t σ H Q) : PT X e t' := ⟨fun pins s σ H Q I q => h.run pins s σ H Q I (m σ H Q q)⟩
theorem PA.mono {X : Cx} {e : List Expr} {t t' : TA} (h : PA X e t) (m : ∀ σ H Q, t' σ H Q → t σ H Q) : PA X e t' := ⟨fun pos pins s σ H Q I q => h.run pos pins s σ H Q I (m σ H Q q)⟩
theorem PS.mono {X : Cx} {e : Stmt} {t t' : TS} (h : PS X e t) (m : ∀ D σ H, t' D σ H → t D σ H) : PS X e t' := ⟨fun pins s σ H D I q => h.run pins s σ H D I (m D σ H q)⟩
theorem PSs.mono {X : Cx} {e : List Stmt} {t t' : TS} (h : PSs X e t) (m : ∀ D σ H, t' D σ H → t D σ H) : PSs X e t' := ⟨fun pins s σ H D I q => h.run pins s σ H D I (m D σ H q)⟩
theorem tV_tE {L : LE} {e : E} {Q : VK} (h : tV M ent L e σ H Q) : tE M ent L e σ H Q := by
  obtain ⟨v, H1, F, d, v', S, ev, q⟩ := h
  obtain ⟨s, z, hs⟩ := evv_some ev
  exact ⟨v, H1, F, s, _, _, S, z, fun u H1' H' F' f p => q u _ H' F' (p.v hs)⟩
theorem pe_v {X : Cx} {x : Expr} {L : LE} {e : E} (h : PE X x (tE M ent L e)) : PE X x (tV M ent L e) := PE.mono h fun _ _ _ q => tV_tE q
/-- an expression whose value is a bool, as a test -/
theorem pt_b {X : Cx} {x : Expr} {L : LE} {e : E} (h : PE X x (tE M ent L e)) (he : ∀ whole, isTrue x X.env whole = (do let v ← whole; standAt x.pos; holding [v] (truthy v))) : PT X x (tB M ent L e) := by
  refine PT.mono (pt_val (pe_v h) he) fun σ H Q q => ?_
  obtain ⟨v, H1, F, b, v', S, ev, q⟩ := q
  unfold evt at ev
  cases z : evv L e v with
  | none => rw [z] at ev; cases ev
  | some r =>
    obtain ⟨d, v1⟩ := r
    rw [z] at ev
    cases d with
    | bl b' =>
      cases ev
      refine ⟨v, H1, F, _, _, S, z, fun u H1' H' F' p => ?_⟩
      have r := p.rp
      cases r
      exact ⟨b, rfl, q H1' H' F' p.tr p.sv⟩
    | _ => cases ev
end
end Q

set_option Elab.async false
set_option linter.all false
set_option maxRecDepth 100000
set_option maxHeartbeats 2000000
/-! Q3: dicts in the heap. -/
namespace Q
open PySem L2
abbrev mw (X : Cx) (cl : Nat → Addr × List Str) : Mw := ⟨X.K, X.prog, X.w, cl⟩
def kKey : D → Key
  | .int i => .inl i
  | .str x => .inr x
  | _ => .inl 0
def RelOD (M : Mw) (H : Hp) : Option Value → Option D → Prop
  | some u, some d => ∃ v, RelV v u ∧ Rp M H v d
  | none, none => True
  | _, _ => False
section
variable {M : Mw} {H H' : Hp}
theorem kd_false {k : D} (h : kd k = some false) : (∃ i, k = .int i) ∨ ∃ x, k = .str x := by
  cases k with
  | int i => exact .inl ⟨i, rfl⟩
  | str x => exact .inr ⟨x, rfl⟩
  | tup xs => simp only [kd] at h; split at h <;> cases h
  | _ => cases h
theorem kd_true {k : D} (h : kd k = some true) : ∃ xs, k = .tup xs ∧ kIss xs = true ∧ (kOf k).depth ≤ 8 := by
  cases k with
  | tup xs =>
    simp only [kd] at h
    split at h
    · rename_i q
      have q' := Bool.and_eq_true_iff.mp q
      exact ⟨xs, rfl, q'.1, of_decide_eq_true q'.2⟩
    · cases h
  | int i => cases h
  | str x => cases h
  | _ => cases h
theorem Rp.kv {v : V} {k : D} (r : Rp M H v k) (h : kd k = some false) : v = kV (kKey k) := by
  rcases kd_false h with ⟨i, rfl⟩ | ⟨x, rfl⟩ <;> (cases r; rfl)
theorem rp_kv {k : D} (h : kd k = some false) : Rp M H (kV (kKey k)) k := by
  rcases kd_false h with ⟨i, rfl⟩ | ⟨x, rfl⟩
  · exact .int i
  · exact .str x
theorem kOf_key {a b : D} (ha : kd a = some false) (hb : kd b = some false) : kOf a = kOf b ↔ kKey a = kKey b := by
  rcases kd_false ha with ⟨i, rfl⟩ | ⟨x, rfl⟩ <;> rcases kd_false hb with ⟨j, rfl⟩ | ⟨y, rfl⟩ <;> simp [kOf, kKey]
theorem hash_key {w : World} {k : D} (h : kd k = some false) : (kOf k).hash w = keyH w (kKey k) := by
  rcases kd_false h with ⟨i, rfl⟩ | ⟨x, rfl⟩ <;> simp [kOf, kKey, keyH, NestedKey.hash]
theorem kinds_cons {k : D} {ks : List D} {b : Bool} (h : kinds (k :: ks) b = true) : kd k = some b ∧ kinds ks b = true := by
  unfold kinds at h ⊢
  rw [List.all_cons, Bool.and_eq_true_iff] at h
  exact ⟨of_decide_eq_true h.1, h.2⟩
theorem kOk_of {ks : List D} {k : D} (h : kOk ks k = true) : ∃ b, kd k = some b ∧ kinds ks b = true := by
  unfold kOk at h
  split at h
  · rename_i b e; exact ⟨b, e, h⟩
  · cases h
theorem RE.length {es : List DictEntry} {ks vs : List D} : RE M H es ks vs → es.length = ks.length ∧ vs.length = ks.length
  | .nil => ⟨rfl, rfl⟩
  | .cons _ _ _ _ _ t => by
    obtain ⟨h1, h2⟩ := RE.length t
    exact ⟨by simp [h1], by simp [h2]⟩

/-! ### keys by value -/
inductive RK (M : Mw) (H : Hp) : List (Key × Value) → List D → List D → Prop
  | nil : RK M H [] [] []
  | cons {k d : D} {u : Value} {v : V} {kvs : List (Key × Value)} {ks vs : List D} : kd k = some false → RelV v u → Rp M H v d → RK M H kvs ks vs → RK M H ((kKey k, u) :: kvs) (k :: ks) (d :: vs)
theorem RK.length {kvs : List (Key × Value)} {ks vs : List D} (h : RK M H kvs ks vs) : kvs.length = ks.length ∧ vs.length = ks.length := by
  induction h with
  | nil => exact ⟨rfl, rfl⟩
  | cons _ _ _ _ ih => simp [ih.1, ih.2]
theorem RE.rk : ∀ {es : List DictEntry} {ks vs : List D}, RE M H es ks vs → kinds ks false = true → ∃ kvs, RK M H kvs ks vs ∧ Pairs (mixKind M.P M.w) es kvs ∧ ∀ e ∈ es, ∃ k, (mixKind M.P M.w).is k e.key = true ∧ e.hash = (mixKind M.P M.w).hash k
  | _, _, _, .nil, _ => ⟨[], .nil, .nil, fun e h => by simp at h⟩
  | _, _, _, @RE.cons _ _ e l kv vv k v ks vs h1 h2 h3 h4 h5 t, hk => by
    obtain ⟨k1, k2⟩ := kinds_cons hk
    obtain ⟨kvs, r, p, q⟩ := RE.rk t k2
    have e1 := h3.kv k1
    subst e1
    have is := kV_is (P := M.P) (w := M.w) h2
    refine ⟨(kKey k, e.val) :: kvs, .cons k1 h4 h5 r, .cons is rfl p, fun e' he => ?_⟩
    rcases List.mem_cons.mp he with rfl | he
    · exact ⟨kKey k, is, by rw [h1, hash_key k1]; rfl⟩
    · exact q e' he
theorem RK.re : ∀ {kvs : List (Key × Value)} {ks vs : List D} {es : List DictEntry}, RK M H kvs ks vs → Pairs (mixKind M.P M.w) es kvs → (∀ e ∈ es, ∃ k, (mixKind M.P M.w).is k e.key = true ∧ e.hash = (mixKind M.P M.w).hash k) → RE M H es ks vs
  | _, _, _, _, .nil, p, _ => by cases p; exact .nil
  | _, _, _, _, @RK.cons _ _ k d u v kvs ks vs h1 h2 h3 t, p, q => by
    cases p with
    | @cons e _ es _ p1 p2 pt =>
      obtain ⟨k', q1, q2⟩ := q e (by simp)
      have ek : k' = kKey k := (mixKind M.P M.w).inj _ _ _ q1 p1
      subst ek
      refine .cons (kv := kV (kKey k)) (vv := v) (by rw [q2, hash_key h1]; rfl) ?_ (rp_kv h1) (by rw [p2]; exact h2) h3 (RK.re t pt fun e' he => q e' (by simp [he]))
      rcases keyIs_shape (show keyIs (kKey k) e.key = true from p1) with ⟨i, t, e1, e2⟩ | ⟨x, t, e1, e2⟩
      · rw [e1, e2]; exact ⟨t, rfl⟩
      · rw [e1, e2]; exact ⟨t, rfl⟩
theorem RK.val {kvs : List (Key × Value)} {ks vs : List D} (h : RK M H kvs ks vs) {k : D} (hk : kd k = some false) : RelOD M H (valueAt kvs (kKey k)) (dGet ks vs k) := by
  induction h with
  | nil => exact True.intro
  | @cons a d u v kvs ks vs h1 h2 h3 t ih =>
    by_cases e : kKey a = kKey k
    · have e' : keq a k = true := by unfold keq; exact decide_eq_true ((kOf_key h1 hk).mpr e)
      have b : valueAt ((kKey a, u) :: kvs) (kKey k) = some u := by simp [valueAt, List.find?_cons, e]
      rw [b]
      simp only [dGet, e', if_true]
      exact ⟨v, h2, h3⟩
    · have e' : keq a k = false := by unfold keq; exact decide_eq_false fun z => e ((kOf_key h1 hk).mp z)
      have b : valueAt ((kKey a, u) :: kvs) (kKey k) = valueAt kvs (kKey k) := by simp [valueAt, List.find?_cons, e]
      rw [b]
      simp only [dGet, e', Bool.false_eq_true, if_false]
      exact ih
theorem dGet_has : ∀ {ks vs : List D} {k : D}, vs.length = ks.length → (dGet ks vs k).isSome = dHas ks k
  | [], _, k, _ => by simp [dGet, dHas]
  | a :: ks, [], k, h => by simp at h
  | a :: ks, b :: vs, k, h => by
    have ih := dGet_has (k := k) (show vs.length = ks.length by simpa using h)
    unfold dHas at ih ⊢
    simp only [dGet, List.any_cons]
    cases keq a k with
    | true => simp
    | false => simpa using ih
theorem RelOD.isSome {u : Option Value} {d : Option D} (h : RelOD M H u d) : u.isSome = d.isSome := by
  cases u <;> cases d <;> first | rfl | exact h.elim
theorem repl_id {kvs : List (Key × Value)} {k : Key} {u : Value} (h : ∀ p ∈ kvs, p.1 ≠ k) : (kvs.map fun kv => if kv.1 = k then (kv.1, u) else kv) = kvs := by
  induction kvs with
  | nil => rfl
  | cons p r ih =>
    rw [List.map_cons, if_neg (h p (by simp)), ih fun q hq => h q (by simp [hq])]
theorem stored_cons {a : Key} {b : Value} {kvs : List (Key × Value)} {k : Key} {u : Value} : stored ((a, b) :: kvs) k u = if a = k then (a, u) :: (kvs.map fun kv => if kv.1 = k then (kv.1, u) else kv) else (a, b) :: stored kvs k u := by
  unfold stored
  by_cases e : a = k
  · simp [e]
  · simp only [List.any_cons, e, decide_false, Bool.false_or, if_false, List.map_cons]
    split <;> simp
theorem RK.keys {kvs : List (Key × Value)} {ks vs : List D} (h : RK M H kvs ks vs) : ∀ p ∈ kvs, ∃ a ∈ ks, kd a = some false ∧ p.1 = kKey a := by
  induction h with
  | nil => intro p hp; simp at hp
  | @cons a d u v kvs ks vs h1 h2 h3 t ih =>
    intro p hp
    rcases List.mem_cons.mp hp with rfl | hp
    · exact ⟨a, by simp, h1, rfl⟩
    · obtain ⟨a', m, x, y⟩ := ih p hp
      exact ⟨a', by simp [m], x, y⟩
theorem RK.put {kvs : List (Key × Value)} {ks vs : List D} (h : RK M H kvs ks vs) {k d : D} {u : Value} {v : V} (hk : kd k = some false) (r1 : RelV v u) (r2 : Rp M H v d) : (ks.map kOf).Nodup →
    RK M H (stored kvs (kKey k) u) (dPut ks vs k d).1 (dPut ks vs k d).2 := by
  induction h with
  | nil => intro _; exact .cons hk r1 r2 .nil
  | @cons a d0 u0 v0 kvs ks vs h1 h2 h3 t ih =>
    intro nd
    rw [List.map_cons, List.nodup_cons] at nd
    rw [stored_cons]
    by_cases e : kKey a = kKey k
    · have ek := (kOf_key h1 hk).mpr e
      have e' : keq a k = true := by unfold keq; exact decide_eq_true ek
      rw [if_pos e]
      simp only [dPut, e', if_true]
      rw [repl_id]
      · exact .cons h1 r1 r2 t
      · intro p hp z
        obtain ⟨a', m, x, y⟩ := t.keys p hp
        refine nd.1 (List.mem_map.mpr ⟨a', m, ?_⟩)
        rw [ek]
        exact (kOf_key x hk).mpr (y.symm.trans z)
    · have e' : keq a k = false := by unfold keq; exact decide_eq_false fun z => e ((kOf_key h1 hk).mp z)
      rw [if_neg e]
      simp only [dPut, e', Bool.false_eq_true, if_false]
      exact .cons h1 h2 h3 (ih nd.2)
theorem dPut_keys : ∀ {ks vs : List D} {k d : D}, vs.length = ks.length → (dPut ks vs k d).1 = if dHas ks k then ks else ks ++ [k]
  | [], _, k, d, _ => by simp [dPut, dHas]
  | a :: ks, [], k, d, h => by simp at h
  | a :: ks, b :: vs, k, d, h => by
    have ih := dPut_keys (k := k) (d := d) (show vs.length = ks.length by simpa using h)
    unfold dHas at ih ⊢
    simp only [dPut, List.any_cons]
    by_cases e : keq a k = true
    · simp [e]
    · have e' : keq a k = false := by simpa using e
      simp only [e', Bool.false_eq_true, if_false, Bool.false_or]
      rw [ih]
      split <;> simp
theorem dPut_len : ∀ {ks vs : List D} {k d : D}, vs.length = ks.length → (dPut ks vs k d).2.length = (dPut ks vs k d).1.length
  | [], _, k, d, _ => by simp [dPut]
  | a :: ks, [], k, d, h => by simp at h
  | a :: ks, b :: vs, k, d, h => by
    have ih := dPut_len (k := k) (d := d) (show vs.length = ks.length by simpa using h)
    simp only [dPut]
    split
    · simpa using h
    · simp [ih]
theorem dPut_nodup {ks vs : List D} {k d : D} (hl : vs.length = ks.length) (nd : (ks.map kOf).Nodup) : ((dPut ks vs k d).1.map kOf).Nodup := by
  rw [dPut_keys hl]
  split
  · exact nd
  · rename_i h
    rw [List.map_append, List.nodup_append]
    refine ⟨nd, by simp, fun x hx y hy z => ?_⟩
    obtain ⟨a, ha, rfl⟩ := List.mem_map.mp hx
    simp only [List.map_cons, List.map_nil, List.mem_singleton] at hy
    apply h
    unfold dHas
    rw [List.any_eq_true]
    exact ⟨a, ha, by unfold keq; exact decide_eq_true (z.trans hy)⟩

/-! ### tuples as keys -/
inductive RX (M : Mw) (H : Hp) : List (NestedKey × Addr × Value) → List D → List D → Prop
  | nil : RX M H [] [] []
  | cons {k d : D} {b : Addr} {u : Value} {v : V} {xs : List (NestedKey × Addr × Value)} {ks vs : List D} : kd k = some true → Rp M H (.ref b) k → RelV v u → Rp M H v d → RX M H xs ks vs → RX M H ((kOf k, b, u) :: xs) (k :: ks) (d :: vs)
theorem Rp.kref {v : V} {k : D} (r : Rp M H v k) (h : kd k = some true) : ∃ b, v = .ref b := by
  obtain ⟨xs, rfl, _⟩ := kd_true h
  cases r with
  | tup _ _ _ => exact ⟨_, rfl⟩
theorem RX.length {kvs : List (NestedKey × Addr × Value)} {ks vs : List D} (h : RX M H kvs ks vs) : kvs.length = ks.length ∧ vs.length = ks.length := by
  induction h with
  | nil => exact ⟨rfl, rfl⟩
  | cons _ _ _ _ _ ih => simp [ih.1, ih.2]
theorem RX.ks {xs : List (NestedKey × Addr × Value)} {ks vs : List D} (h : RX M H xs ks vs) : xs.map (·.1) = ks.map kOf := by
  induction h with
  | nil => rfl
  | cons _ _ _ _ _ ih => simp [ih]
theorem RE.rx {w : World} {P : Program} (hw : w = M.w) : ∀ {es : List DictEntry} {ks vs : List D}, RE M H es ks vs → kinds ks true = true → ∃ xs, RX M H xs ks vs ∧ es = xs.map (entryOfKey (nestedKind P w))
  | _, _, _, .nil, _ => ⟨[], .nil, rfl⟩
  | _, _, _, @RE.cons _ _ e l kv vv k v ks vs h1 h2 h3 h4 h5 t, hk => by
    obtain ⟨k1, k2⟩ := kinds_cons hk
    obtain ⟨xs, r, p⟩ := RE.rx hw t k2
    obtain ⟨b, rfl⟩ := h3.kref k1
    have eb : e.key = .ref b := h2
    refine ⟨(kOf k, b, e.val) :: xs, .cons k1 h3 h4 h5 r, ?_⟩
    rw [List.map_cons, ← p]
    congr 1
    obtain ⟨eh, ek, ev⟩ := e
    subst hw
    unfold entryOfKey
    congr 1
theorem RX.re {w : World} {P : Program} (hw : w = M.w) : ∀ {xs : List (NestedKey × Addr × Value)} {ks vs : List D}, RX M H xs ks vs → RE M H (xs.map (entryOfKey (nestedKind P w))) ks vs
  | _, _, _, .nil => .nil
  | _, _, _, @RX.cons _ _ k d b u v xs ks vs h1 h2 h3 h4 t => by
    rw [List.map_cons]
    subst hw
    exact .cons (kv := .ref b) (vv := v) rfl rfl h2 h3 h4 (RX.re rfl t)
theorem RX.val {xs : List (NestedKey × Addr × Value)} {ks vs : List D} (h : RX M H xs ks vs) {k : D} : RelOD M H ((atKey xs (kOf k)).map (·.2)) (dGet ks vs k) := by
  induction h with
  | nil => exact True.intro
  | @cons a d b u v xs ks vs h1 h2 h3 h4 t ih =>
    by_cases e : kOf a = kOf k
    · have e' : keq a k = true := by unfold keq; exact decide_eq_true e
      have q : atKey ((kOf a, b, u) :: xs) (kOf k) = some (b, u) := by simp [atKey, List.find?_cons, e]
      rw [q]
      simp only [dGet, e', if_true]
      exact ⟨v, h3, h4⟩
    · have e' : keq a k = false := by unfold keq; exact decide_eq_false e
      have q : atKey ((kOf a, b, u) :: xs) (kOf k) = atKey xs (kOf k) := by simp [atKey, List.find?_cons, e]
      rw [q]
      simp only [dGet, e', Bool.false_eq_true, if_false]
      exact ih
theorem put_id {xs : List (NestedKey × Addr × Value)} {k : NestedKey} {u : Value} (h : ∀ p ∈ xs, p.1 ≠ k) : xs.map (putAt k u) = xs := by
  induction xs with
  | nil => rfl
  | cons p r ih =>
    rw [List.map_cons, ih fun q hq => h q (by simp [hq])]
    unfold putAt
    rw [if_neg (h p (by simp))]
theorem storedH_cons {a : NestedKey} {p : Addr × Value} {xs : List (NestedKey × Addr × Value)} {k : NestedKey} {b : Addr} {u : Value} : storedH ((a, p) :: xs) k b u = if a = k then (a, p.1, u) :: xs.map (putAt k u) else (a, p) :: storedH xs k b u := by
  unfold storedH
  by_cases e : a = k
  · simp [e, atKey, putAt]
  · have q : atKey ((a, p) :: xs) k = atKey xs k := by simp [atKey, List.find?_cons, e]
    rw [q, if_neg e]
    split
    · rw [List.map_cons]; simp [putAt, e]
    · simp
theorem RX.put {xs : List (NestedKey × Addr × Value)} {ks vs : List D} (h : RX M H xs ks vs) {k d : D} {b : Addr} {u : Value} {v : V} (hk : kd k = some true) (rb : Rp M H (.ref b) k) (r1 : RelV v u) (r2 : Rp M H v d) : (ks.map kOf).Nodup →
    RX M H (storedH xs (kOf k) b u) (dPut ks vs k d).1 (dPut ks vs k d).2 := by
  induction h with
  | nil => intro _; exact .cons hk rb r1 r2 .nil
  | @cons a d0 b0 u0 v0 xs ks vs h1 h2 h3 h4 t ih =>
    intro nd
    rw [List.map_cons, List.nodup_cons] at nd
    rw [storedH_cons]
    by_cases e : kOf a = kOf k
    · have e' : keq a k = true := by unfold keq; exact decide_eq_true e
      rw [if_pos e]
      simp only [dPut, e', if_true]
      rw [put_id]
      · exact .cons h1 h2 r1 r2 t
      · intro p hp z
        have := t.ks
        refine nd.1 ?_
        rw [e, ← z, ← this]
        exact List.mem_map.mpr ⟨p, hp, rfl⟩
    · have e' : keq a k = false := by unfold keq; exact decide_eq_false e
      rw [if_neg e]
      simp only [dPut, e', Bool.false_eq_true, if_false]
      exact .cons h1 h2 h3 h4 (ih nd.2)
end

/-! ### a value is a key -/
section
variable {X : Cx} {cl : Nat → Addr × List Str} {pins : List (Addr × Obj)} {σ : L2.St} {H H1 : Hp} {s : Shared}
mutual
theorem Rp.nested (I : Inv X pins σ H s) : ∀ {d : D} {v : V} {u : Value}, Rp (mw X cl) H v d → RelV v u → kIs d = true → NestedIs s.heap (kOf d) u
  | _, _, u, .non, r, _ => by cases (show u = Value.none from r); exact .none
  | _, _, u, .bl b, r, _ => by cases (show u = Value.bool b from r); exact .bool rfl
  | _, _, u, .int i, r, _ => by obtain ⟨t, rfl⟩ := (show ∃ t, u = Value.int i t from r); exact .int i t
  | _, _, u, .str x, r, _ => by obtain ⟨t, rfl⟩ := (show ∃ t, u = Value.str x t from r); exact .text x t
  | _, _, u, .lst _ _ _, _, h => by cases h
  | _, _, u, @Rp.tup _ _ a vs ds q _ rs, r, h => by
    cases (show u = Value.ref a from r)
    obtain ⟨its, rv, ⟨o, e1, e2, n, e3⟩, _⟩ := I.tuple q
    exact .tup e1 e2 e3 (by simpa using Rps.nested I rs rv h)
  | _, _, u, .dct _ _ _ _ _ _ _, _, h => by cases h
  | _, _, u, .ins _ _ _, _, h => by cases h
theorem Rps.nested (I : Inv X pins σ H s) : ∀ {ds : List D} {vs : List V} {us : List Value}, Rps (mw X cl) H vs ds → Vals vs us → kIss ds = true → NestedAll s.heap (kOfs ds) us
  | _, _, _, .nil, r, _ => by cases r; exact .nil
  | _, _, _, .cons h t, r, k => by
    cases r with
    | cons r1 rt =>
      have k' := Bool.and_eq_true_iff.mp k
      exact .cons (Rp.nested I h r1 k'.1) (Rps.nested I t rt k'.2)
end
theorem dx_get {a : Addr} {o : Obj} (I : Inv X pins σ H s) (e : H a = some (DX a o)) : s.heap.get? a = some o := (I.hok a _ e).1
theorem DOb.dictOf {a : Addr} {o : Obj} {ks vs : List D} (I : Inv X pins σ H s) (e : H a = some (DX a o)) (d : DOb (mw X cl) H1 a o ks vs) (k : kinds ks false = true) :
    ∃ kvs, RK (mw X cl) H1 kvs ks vs ∧ s.heap.DictOf (mixKind X.prog X.w) a kvs ∧ ∃ es ep, o.data = .dict es ep ∧ s.heap.DictAt (mixKind X.prog X.w) a kvs ep := by
  obtain ⟨_, h2, ⟨es, ep, h3, h4⟩, h5, h6⟩ := d
  obtain ⟨kvs, r, p, q⟩ := h4.rk k
  have nd : (kvs.map (·.1)).Nodup := by
    have : ∀ {kvs : List (Key × Value)} {ks vs : List D}, RK (mw X cl) H1 kvs ks vs → (ks.map kOf).Nodup → (kvs.map (·.1)).Nodup := by
      intro kvs ks vs r
      induction r with
      | nil => intro _; exact List.nodup_nil
      | @cons a d u v kvs ks vs h1 h2 h3 t ih =>
        intro nd
        rw [List.map_cons, List.nodup_cons] at nd ⊢
        refine ⟨fun hm => ?_, ih nd.2⟩
        obtain ⟨p, hp, z⟩ := List.mem_map.mp hm
        obtain ⟨a', m, x, y⟩ := t.keys p hp
        exact nd.1 (List.mem_map.mpr ⟨a', m, (kOf_key x h1).mpr (y.symm.trans z)⟩)
    exact this r h5
  have hk : KeysOf (mixKind X.prog X.w) es := fun e he => q e (by simpa using he)
  exact ⟨kvs, r, ⟨o, es, ep, dx_get I e, h2, h3, hk, p, nd⟩, es, ep, h3, ⟨o, es, dx_get I e, h2, h3, hk, p, nd⟩⟩
theorem DOb.dictOfH {a : Addr} {o : Obj} {ks vs : List D} (I : Inv X pins σ H s) (sub : Same H1 H) (e : H a = some (DX a o)) (d : DOb (mw X cl) H1 a o ks vs) (k : kinds ks true = true) :
    ∃ xs, RX (mw X cl) H1 xs ks vs ∧ s.heap.DictOfH (nestedKind X.prog X.w) a xs := by
  obtain ⟨_, h2, ⟨es, ep, h3, h4⟩, h5, h6⟩ := d
  obtain ⟨xs, r, p⟩ := h4.rx (P := X.prog) (w := X.w) rfl k
  refine ⟨xs, r, o, es, ep, dx_get I e, h2, h3, p, ?_, by rw [r.ks]; exact h5⟩
  have all : ∀ {xs : List (NestedKey × Addr × Value)} {ks vs : List D}, RX (mw X cl) H1 xs ks vs → ∀ x ∈ xs, (nestedKind X.prog X.w).is s.heap x.1 x.2.1 := by
    intro xs ks vs r
    induction r with
    | nil => intro x hx; simp at hx
    | @cons a d b u v xs ks vs h1 h2 h3 h4 t ih =>
      intro x hx
      rcases List.mem_cons.mp hx with rfl | hx
      · obtain ⟨xs', rfl, k1, k2⟩ := kd_true h1
        exact ⟨(h2.mono sub).nested I rfl k1, k2⟩
      · exact ih x hx
  exact all r
theorem key_is {v : V} {u : Value} {k : D} (I : Inv X pins σ H s) (r : Rp (mw X cl) H v k) (ru : RelV v u) (h : kd k = some true) : ∃ b, u = .ref b ∧ (nestedKind X.prog X.w).is s.heap (kOf k) b := by
  obtain ⟨b, rfl⟩ := r.kref h
  cases (show u = Value.ref b from ru)
  obtain ⟨xs', rfl, k1, k2⟩ := kd_true h
  exact ⟨b, rfl, r.nested I rfl k1, k2⟩
theorem DOb.mk' {a : Addr} {o : Obj} {ks vs : List D} {kvs : List (Key × Value)} {h' : Heap} (hs : (a == sysModules) = false) (z : ks.length ≤ sizeLine) (r : RK (mw X cl) H1 kvs ks vs) (d : h'.DictOf (mixKind X.prog X.w) a kvs) (nd : (ks.map kOf).Nodup) : ∃ o, h'.get? a = some o ∧ DOb (mw X cl) H1 a o ks vs := by
  obtain ⟨o, es, ep, h1, h2, h3, h4, h5, h6⟩ := d
  exact ⟨o, h1, hs, h2, ⟨es, ep, h3, r.re h5 fun e he => h4 e (by simpa using he)⟩, nd, z⟩
theorem DOb.mkH {a : Addr} {ks vs : List D} {xs : List (NestedKey × Addr × Value)} {h' : Heap} (hs : (a == sysModules) = false) (z : ks.length ≤ sizeLine) (r : RX (mw X cl) H1 xs ks vs) (d : h'.DictOfH (nestedKind X.prog X.w) a xs) (nd : (ks.map kOf).Nodup) : ∃ o, h'.get? a = some o ∧ DOb (mw X cl) H1 a o ks vs := by
  obtain ⟨o, es, ep, h1, h2, h3, h4, h5, h6⟩ := d
  exact ⟨o, h1, hs, h2, ⟨es, ep, h3, by rw [h4]; exact r.re rfl⟩, nd, z⟩
end
end Q

set_option Elab.async false
set_option linter.all false
set_option maxRecDepth 100000
set_option maxHeartbeats 2000000
/-! Q4: operations of dicts. -/
namespace Q
open PySem L2
section
variable {X : Cx} {cl : Nat → Addr × List Str} {pins : List (Addr × Obj)} {σ : L2.St} {H H1 : Hp} {s : Shared} {a : Addr} {o : Obj} {ks vs : List D} {A : Around} {E : Value → Shared → Prop} {y x : V} {u r : Value} {k d : D}
theorem DOb.tyIs (I : Inv X pins σ H s) (e : H a = some (DX a o)) (dd : DOb (mw X cl) H1 a o ks vs) : s.TypeIs (.ref a) "dict" := ⟨o, dx_get I e, dd.ex.1⟩
theorem DOb.lens (dd : DOb (mw X cl) H1 a o ks vs) : vs.length = ks.length := by
  obtain ⟨_, _, ⟨es, ep, _, h4⟩, _, _⟩ := dd
  exact h4.length.2
theorem RelOD.some_of {M : Mw} {H : Hp} {u : Option Value} {d : D} (h : RelOD M H u (some d)) : ∃ w v, u = some w ∧ RelV v w ∧ Rp M H v d := by
  cases u with
  | none => exact h.elim
  | some w => obtain ⟨v, h1, h2⟩ := h; exact ⟨w, v, rfl, h1, h2⟩
theorem RelOD.getD {M : Mw} {H : Hp} {u : Option Value} {o : Option D} {x : V} {r : Value} {d : D} (h : RelOD M H u o) (rx : RelV x r) (rp : Rp M H x d) : ∃ v, RelV v (u.getD r) ∧ Rp M H v (o.getD d) := by
  cases u <;> cases o
  · exact ⟨x, rx, rp⟩
  · exact h.elim
  · exact h.elim
  · exact h
/-- d[k], there -/
theorem dx_getItem {Q : Value → Shared → Prop} (hu : A.units + 9 < cLine) (I : Inv X pins σ H s) (sub : Same H1 H) (e : H a = some (DX a o)) (dd : DOb (mw X cl) H1 a o ks vs) (ok : kOk ks k = true) (g : dGet ks vs k = some d) (ry : RelV y u) (rk : Rp (mw X cl) H1 y k)
    (h : ∀ v w s', Inv X pins σ H s' → RelV v w → Rp (mw X cl) H1 v d → Q w s') : wpAny (model X.prog X.w) A (getItem (.ref a) u) Q E s := by
  obtain ⟨b, hb, hk⟩ := kOk_of ok
  cases b with
  | false =>
    obtain ⟨kvs, rr, dof, _⟩ := dd.dictOf I e hk
    have q := rr.val hb
    rw [g] at q
    obtain ⟨w, v, ew, r1, r2⟩ := q.some_of
    have ey := rk.kv hb
    subst ey
    exact wpAny_getItem_of (kV_is ry) dof.mapOf ew (h v w _ (I.tok _) r1 r2)
  | true =>
    obtain ⟨xs, rr, dof⟩ := dd.dictOfH I sub e hk
    have q := rr.val (k := k)
    rw [g] at q
    obtain ⟨w, v, ew, r1, r2⟩ := q.some_of
    obtain ⟨p, hp, hp2⟩ := Option.map_eq_some_iff.mp ew
    obtain ⟨b, rfl, is⟩ := key_is I (rk.mono sub) ry hb
    refine wpAny_getItem_heap (show A.in1.units + 8 < cLine from by show A.units + 1 + 8 < cLine; omega) is dof hp ?_
    rw [hp2]
    exact h v w _ (I.tok _) r1 r2
/-- k in d, k not in d -/
theorem dx_in {Q : Value → Shared → Prop} (hu : A.units + 9 < cLine) (I : Inv X pins σ H s) (sub : Same H1 H) (e : H a = some (DX a o)) (dd : DOb (mw X cl) H1 a o ks vs) (ok : kOk ks k = true) (ry : RelV y u) (rk : Rp (mw X cl) H1 y k)
    (h : ∀ s', Inv X pins σ H s' → Q (.bool (dHas ks k)) s') : wpAny (model X.prog X.w) A (compareOp .In u (.ref a)) Q E s := by
  obtain ⟨b, hb, hk⟩ := kOk_of ok
  have hl := dd.lens
  cases b with
  | false =>
    obtain ⟨kvs, rr, dof, _⟩ := dd.dictOf I e hk
    have ey := rk.kv hb
    subst ey
    refine wpAny_in_of (kV_is ry) dd.sys dof.mapOf ?_
    rw [(rr.val hb).isSome, dGet_has hl]
    exact h _ (I.tok _)
  | true =>
    obtain ⟨xs, rr, dof⟩ := dd.dictOfH I sub e hk
    obtain ⟨b, rfl, is⟩ := key_is I (rk.mono sub) ry hb
    refine wpAny_in_heap (show A.in1.units + 8 < cLine from by show A.units + 1 + 8 < cLine; omega) is dd.sys dof ?_
    have q := (rr.val (k := k)).isSome
    rw [Option.isSome_map] at q
    rw [q, dGet_has hl]
    exact h _ (I.tok _)
theorem dx_notIn {Q : Value → Shared → Prop} (hu : A.units + 9 < cLine) (I : Inv X pins σ H s) (sub : Same H1 H) (e : H a = some (DX a o)) (dd : DOb (mw X cl) H1 a o ks vs) (ok : kOk ks k = true) (ry : RelV y u) (rk : Rp (mw X cl) H1 y k)
    (h : ∀ s', Inv X pins σ H s' → Q (.bool (!dHas ks k)) s') : wpAny (model X.prog X.w) A (compareOp .NotIn u (.ref a)) Q E s := by
  obtain ⟨b, hb, hk⟩ := kOk_of ok
  have hl := dd.lens
  cases b with
  | false =>
    obtain ⟨kvs, rr, dof, _⟩ := dd.dictOf I e hk
    have ey := rk.kv hb
    subst ey
    refine wpAny_notIn_of (kV_is ry) dd.sys dof.mapOf ?_
    rw [(rr.val hb).isSome, dGet_has hl]
    exact h _ (I.tok _)
  | true =>
    obtain ⟨xs, rr, dof⟩ := dd.dictOfH I sub e hk
    obtain ⟨b, rfl, is⟩ := key_is I (rk.mono sub) ry hb
    refine PyProof.Rows.wpAny_notIn_heap (show A.in1.units + 8 < cLine from by show A.units + 1 + 8 < cLine; omega) is dd.sys dof ?_
    have q := (rr.val (k := k)).isSome
    rw [Option.isSome_map] at q
    rw [q, dGet_has hl]
    exact h _ (I.tok _)
/-- d.get(k, x) -/
theorem dx_get2 {Q : Value → Shared → Prop} (hu : A.units + 9 < cLine) (I : Inv X pins σ H s) (sub : Same H1 H) (e : H a = some (DX a o)) (dd : DOb (mw X cl) H1 a o ks vs) (ok : kOk ks k = true) (ry : RelV y u) (rk : Rp (mw X cl) H1 y k) (rx : RelV x r) (rxd : Rp (mw X cl) H1 x d)
    (h : ∀ v w s', Inv X pins σ H s' → RelV v w → Rp (mw X cl) H1 v ((dGet ks vs k).getD d) → Q w s') : wpAny (model X.prog X.w) A (call (.builtin "dict.get") [.ref a, u, r]) Q E s := by
  obtain ⟨b, hb, hk⟩ := kOk_of ok
  cases b with
  | false =>
    obtain ⟨kvs, rr, dof, _⟩ := dd.dictOf I e hk
    have ey := rk.kv hb
    subst ey
    obtain ⟨v, r1, r2⟩ := (rr.val hb).getD rx rxd
    exact call_meetsIn PySem.F.slot_dict_get dof.typeIs PySem.F.entry_dict_get (PySem.F.args_dict_get_3 _ _ _) (meets_dict_get_default (mixKind X.prog X.w) a (kV_is ry) dd.sys r) ⟨_, dof.mapOf, h v _ _ (I.tok _) r1 r2⟩
  | true =>
    obtain ⟨xs, rr, dof⟩ := dd.dictOfH I sub e hk
    obtain ⟨b, rfl, is⟩ := key_is I (rk.mono sub) ry hb
    obtain ⟨v, r1, r2⟩ := (rr.val (k := k)).getD rx rxd
    exact call_meetsIn PySem.F.slot_dict_get dof.typeIs PySem.F.entry_dict_get (PySem.F.args_dict_get_3 _ _ _) (meetsH_dict_get_default (nestedKind X.prog X.w) a b dd.sys r) ⟨show A.in1.units + 8 < cLine from by show A.units + 1 + 8 < cLine; omega, _, xs, is, dof, h v _ _ (I.tok _) r1 r2⟩
/-- the dict's object is another one -/
theorem dx_write {h' : Heap} {t' : Nat} {o' : Obj} (I : Inv X pins σ H s) (e : H a = some (DX a o)) (hs : Heap.SameBut a s.heap h') (he : h'.get? a = some o') : Inv X pins σ (upd H a (DX a o')) { s with heap := h', toks := t' } :=
  I.write (x := a) (e := a) (by rw [e]; exact True.intro) (.inl rfl) (fun b q hb z => (hs.2 b hb).trans z) ⟨o', he⟩ ⟨he, ⟨o', he⟩, fun h1 h2 p q => q _ p⟩
/-- d[k] = x -/
theorem dx_setItem {Q : Unit → Shared → Prop} (hu : A.units + 9 < cLine) (I : Inv X pins σ H s) (sub : Same H1 H) (e : H a = some (DX a o)) (dd : DOb (mw X cl) H1 a o ks vs) (ok : kOk ks k = true) (hz : ks.length < sizeLine) (ry : RelV y u) (rk : Rp (mw X cl) H1 y k) (rx : RelV x r) (rxd : Rp (mw X cl) H1 x d)
    (h : ∀ o' s', DOb (mw X cl) H1 a o' (dPut ks vs k d).1 (dPut ks vs k d).2 → Inv X pins σ (upd H a (DX a o')) s' → Q () s') : wpAny (model X.prog X.w) A (setItem (.ref a) u r) Q E s := by
  obtain ⟨b, hb, hk⟩ := kOk_of ok
  have hl := dd.lens
  have z' : (dPut ks vs k d).1.length ≤ sizeLine := by
    rw [dPut_keys hl]
    split
    · omega
    · rw [List.length_append, List.length_singleton]; omega
  have nd' := dPut_nodup (k := k) (d := d) hl dd.nd
  cases b with
  | false =>
    obtain ⟨kvs, rr, dof, _⟩ := dd.dictOf I e hk
    have ey := rk.kv hb
    subst ey
    refine wpAny_setItem_pairs (hsz := by rw [rr.length.1]; omega) (kV_is ry) dof fun h' dd' hs => ?_
    obtain ⟨o', g1, g2⟩ := DOb.mk' (o := o) dd.sys z' (rr.put hb rx rxd dd.nd) dd' nd'
    exact h o' _ g2 (dx_write I e hs g1)
  | true =>
    obtain ⟨xs, rr, dof⟩ := dd.dictOfH I sub e hk
    obtain ⟨b, rfl, is⟩ := key_is I (rk.mono sub) ry hb
    refine wpAny_setItem_heap (hsz := by rw [rr.length.1]; omega) (show A.in1.units + 8 < cLine from by show A.units + 1 + 8 < cLine; omega) is dof fun h' dd' hs => ?_
    have rb : y = .ref b := by
      obtain ⟨b', rfl⟩ := rk.kref hb
      cases (show Value.ref b = Value.ref b' from ry)
      rfl
    subst rb
    obtain ⟨o', g1, g2⟩ := DOb.mkH dd.sys z' (rr.put hb rk rx rxd dd.nd) dd' nd'
    exact h o' _ g2 (dx_write I e hs g1)
/-- len(d) -/
theorem dx_len {Q : Value → Shared → Prop} (I : Inv X pins σ H s) (sub : Same H1 H) (e : H a = some (DX a o)) (dd : DOb (mw X cl) H1 a o ks vs) (hk : (kinds ks false || kinds ks true) = true) (h : ∀ t s', Inv X pins σ H s' → Q (.int ks.length t) s') : wpAny (model X.prog X.w) A (call (.builtin "len") [.ref a]) Q E s := by
  have z : (ks.length : Int) < 2 ^ 63 := by have := dd.z; rw [sizeLine_eq] at this; omega
  rcases Bool.or_eq_true_iff.mp hk with hk | hk
  · obtain ⟨kvs, rr, dof, _⟩ := dd.dictOf I e hk
    have l := rr.length.1
    rw [← l] at z h
    exact call_len_dict dd.sys dof z (h _ _ (I.tok _))
  · obtain ⟨xs, rr, dof⟩ := dd.dictOfH I sub e hk
    have l := rr.length.1
    rw [← l] at z h
    exact call_len_dictH dd.sys dof z (h _ _ (I.tok _))
/-- a new dict -/
theorem dx_laid {h' : Heap} {t' : Nat} {o' : Obj} (I : Inv X pins σ H s) (k : ∀ b u, s.heap.get? b = some u → h'.get? b = some u) (he : h'.get? s.heap.objs.size = some o') : Inv X pins σ (upd H s.heap.objs.size (DX s.heap.objs.size o')) { s with heap := h', toks := t' } :=
  I.laid (a := s.heap.objs.size) (o := DX s.heap.objs.size o') k (Nat.le_refl _) ⟨he, ⟨o', he⟩, fun h1 h2 p q => q _ p⟩
theorem newSys (I : Inv X pins σ H s) : (s.heap.objs.size == sysModules) = false := beq_eq_false_iff_ne.mpr (Ne.symm (Nat.ne_of_lt I.big))
/-- {} -/
theorem pe_dnew {pos : Pos} : PE X (.Dict [] [] pos) (fun _ H Q => ∀ p o H1, H p = none → DOb (mw X cl) H1 p o [] [] → Q (.ref p) (upd H p (DX p o))) := ⟨fun pins s σ H Q I h =>
  wpAny_Dict_empty ⟨.ref s.heap.objs.size, _, dx_laid (t' := s.toks) I (fun _ _ q => Heap.get?_push_of_some _ q) (Heap.get?_push_size _ rfl), rfl, h _ _ H (I.hok.fresh (Nat.le_refl _))
    ⟨newSys I, ⟨rfl, rfl, rfl⟩, ⟨#[], 0, rfl, .nil⟩, List.nodup_nil, Nat.zero_le _⟩⟩⟩
/-- dict(d), keys by value -/
theorem dx_copy {Q : Value → Shared → Prop} (I : Inv X pins σ H s) (e : H a = some (DX a o)) (dd : DOb (mw X cl) H1 a o ks vs) (hk : kinds ks false = true) (h : ∀ p o' s', H p = none → DOb (mw X cl) H1 p o' ks vs → Inv X pins σ (upd H p (DX p o')) s' → Q (.ref p) s') :
    wpAny (model X.prog X.w) A (call (.type "dict") [.ref a]) Q E s := by
  obtain ⟨kvs, rr, dof, _⟩ := dd.dictOf I e hk
  refine kt_call_dict dd.sys dof (by rw [rr.length.1]; exact dd.z) fun h' dd' hs => ?_
  obtain ⟨o', g1, g2⟩ := DOb.mk' (o := o) (newSys I) dd.z rr dd' dd.nd
  refine h _ o' _ (I.hok.fresh (Nat.le_refl _)) g2 (dx_laid (t' := s.toks) I (fun b q hq => ?_) g1)
  exact (hs.2 b (Nat.ne_of_lt (Heap.lt_size hq))).trans (Heap.get?_push_of_some _ hq)
/-! ### dict(pairs) -/
theorem RK.merge {M : Mw} {H : Hp} : ∀ {ps : List (D × D)} {prs : List (Key × Value)} {kvs : List (Key × Value)} {ks vs : List D}, RK M H kvs ks vs → (ks.map kOf).Nodup → RK M H prs (ps.map (·.1)) (ps.map (·.2)) →
    RK M H (merged kvs prs) (dPuts ks vs ps).1 (dPuts ks vs ps).2 ∧ ((dPuts ks vs ps).1.map kOf).Nodup ∧ (dPuts ks vs ps).1.length ≤ ks.length + ps.length
  | [], prs, kvs, ks, vs, r, nd, q => by
    cases q
    exact ⟨r, nd, by simp [dPuts]⟩
  | (k, d) :: ps, prs, kvs, ks, vs, r, nd, q => by
    rw [List.map_cons, List.map_cons] at q
    cases q with
    | @cons _ _ u v prs' _ _ h1 h2 h3 t =>
      have hl := r.length.2
      obtain ⟨g1, g2, g3⟩ := RK.merge (r.put h1 h2 h3 nd) (dPut_nodup hl nd) t
      refine ⟨g1, g2, Nat.le_trans g3 ?_⟩
      rw [dPut_keys hl, List.length_cons]
      split
      · omega
      · rw [List.length_append, List.length_singleton]; omega
theorem pairsOf_rk (I : Inv X pins σ H s) (sub : Same H1 H) : ∀ {xs : List D} {us : List V} {its : List Value} {ps : List (D × D)}, Rps (mw X cl) H1 us xs → Vals us its → pairsOf xs = some ps → kinds (ps.map (·.1)) false = true →
    ∃ prs : List (Key × Value), RK (mw X cl) H1 prs (ps.map (·.1)) (ps.map (·.2)) ∧ prs.length = its.length ∧ ps.length = xs.length ∧ ∀ (j : Nat) (q : Key × Value), prs[j]? = some q → ∃ (b : Addr) (u : Value), its[j]? = some (.ref b) ∧ PyProof.Rows.IsTup s.heap b #[u, q.2] ∧ keyIs q.1 u = true
  | _, _, _, ps, .nil, r, e, _ => by
    cases r
    cases e
    exact ⟨[], .nil, rfl, rfl, fun j q z => by simp at z⟩
  | _, _, _, ps, @Rps.cons _ _ v vs d ds h t, r, e, hk => by
    cases r with
    | @cons _ u _ its r1 rt =>
      cases d with
      | tup l =>
        match l, e with
        | [k, x], e =>
          simp only [pairsOf] at e
          cases z : pairsOf ds with
          | none => rw [z] at e; cases e
          | some ps' =>
            rw [z] at e
            cases e
            obtain ⟨k1, k2⟩ := kinds_cons (show kinds (k :: ps'.map (·.1)) false = true from hk)
            obtain ⟨prs, g1, g2, g3, g4⟩ := pairsOf_rk I sub t rt z k2
            cases h with
            | tup hq _ rs =>
              cases rs with
              | cons rk rs =>
                cases rs with
                | cons rx rs =>
                  cases rs
                  obtain ⟨its', rv, ht, _⟩ := I.tuple (same_seqT sub hq)
                  obtain ⟨uk, ux, ei, ruk, rux⟩ := vals2 rv
                  subst ei
                  have ek := rk.kv k1
                  subst ek
                  refine ⟨(kKey k, ux) :: prs, .cons k1 rux rx g1, by simp [g2], by simp [g3], fun j q ej => ?_⟩
                  cases j with
                  | zero =>
                    have e' : (kKey k, ux) = q := Option.some.inj ej
                    subst e'
                    cases (show u = Value.ref _ from r1)
                    exact ⟨_, uk, rfl, ht, kV_is (P := X.prog) (w := X.w) ruk⟩
                  | succ j =>
                    obtain ⟨b, u', e1, e2, e3⟩ := g4 j q (by simpa using ej)
                    exact ⟨b, u', by simpa using e1, e2, e3⟩
      | _ => cases e
/-- dict(xs) -/
theorem dx_pairs {Q : Value → Shared → Prop} {l : Addr} {us : List V} {xs : List D} {ps : List (D × D)} (hh : A.handled = none) (I : Inv X pins σ H s) (sub : Same H1 H) (hq : SqL X.K H l us) (rs : Rps (mw X cl) H1 us xs) (e : pairsOf xs = some ps) (hk : kinds (ps.map (·.1)) false = true)
    (h : ∀ p o' s', H p = none → DOb (mw X cl) H1 p o' (dPuts [] [] ps).1 (dPuts [] [] ps).2 → Inv X pins σ (upd H p (DX p o')) s' → Q (.ref p) s') : wpAny (model X.prog X.w) A (call (.type "dict") [.ref l]) Q E s := by
  obtain ⟨its, rv, ⟨ol, n, ho, hc, hd, hdat⟩, hz⟩ := I.list hq
  obtain ⟨prs, g1, g2, g3, g4⟩ := pairsOf_rk I sub rs rv e hk
  have lv := rv.length
  refine call_dict_pairs (prs := prs) hh ho hc hd hdat (by simp [g2]) (by rw [g2, ← lv]; exact hz) (fun j q ej => ?_) fun h' tk hd' k => ?_
  · obtain ⟨b, u, e1, e2, e3⟩ := g4 j q ej
    exact ⟨b, u, by simpa using e1, e2, e3⟩
  · obtain ⟨m1, m2, m3⟩ := RK.merge (M := mw X cl) (H := H1) .nil (by simp) g1
    obtain ⟨o', q1, q2⟩ := DOb.mk' (o := ol) (newSys I) (by rw [g3, ← rs.length] at m3; simp at m3; omega) m1 hd' m2
    exact h _ o' _ (I.hok.fresh (Nat.le_refl _)) q2 (dx_laid (t' := tk) I k q1)
end
end Q

set_option Elab.async false
set_option linter.all false
set_option maxRecDepth 100000
set_option maxHeartbeats 2000000
/-! dict(pairs) with keys that are tuples -/
namespace Q
open PySem L2
section
variable {X : Cx} {cl : Nat → Addr × List Str} {pins : List (Addr × Obj)} {σ : L2.St} {H H1 : Hp} {s : Shared} {A : Around} {E : Value → Shared → Prop}
theorem RX.merge {M : Mw} {H : Hp} : ∀ {ps : List (D × D)} {prs kvs : List (NestedKey × Addr × Value)} {ks vs : List D}, RX M H kvs ks vs → (ks.map kOf).Nodup → RX M H prs (ps.map (·.1)) (ps.map (·.2)) →
    RX M H (storedAllH kvs prs) (dPuts ks vs ps).1 (dPuts ks vs ps).2 ∧ ((dPuts ks vs ps).1.map kOf).Nodup ∧ (dPuts ks vs ps).1.length ≤ ks.length + ps.length
  | [], prs, kvs, ks, vs, r, nd, q => by
    cases q
    exact ⟨r, nd, by simp [dPuts]⟩
  | (k, d) :: ps, prs, kvs, ks, vs, r, nd, q => by
    rw [List.map_cons, List.map_cons] at q
    cases q with
    | @cons _ _ b u v prs' _ _ h1 h2 h3 h4 t =>
      have hl := r.length.2
      obtain ⟨g1, g2, g3⟩ := RX.merge (r.put h1 h2 h3 h4 nd) (dPut_nodup hl nd) t
      refine ⟨g1, g2, Nat.le_trans g3 ?_⟩
      rw [dPut_keys hl, List.length_cons]
      split
      · omega
      · rw [List.length_append, List.length_singleton]; omega
theorem pairsOf_rx (I : Inv X pins σ H s) (sub : Same H1 H) : ∀ {xs : List D} {us : List V} {its : List Value} {ps : List (D × D)}, Rps (mw X cl) H1 us xs → Vals us its → pairsOf xs = some ps → kinds (ps.map (·.1)) true = true →
    ∃ prs : List (NestedKey × Addr × Value), RX (mw X cl) H1 prs (ps.map (·.1)) (ps.map (·.2)) ∧ prs.length = its.length ∧ ps.length = xs.length ∧ ∀ (j : Nat) (q : NestedKey × Addr × Value), prs[j]? = some q → ∃ (b : Addr), its[j]? = some (.ref b) ∧ s.heap.IsTuple b #[.ref q.2.1, q.2.2] ∧ (nestedKind X.prog X.w).is s.heap q.1 q.2.1
  | _, _, _, ps, .nil, r, e, _ => by
    cases r
    cases e
    exact ⟨[], .nil, rfl, rfl, fun j q z => by simp at z⟩
  | _, _, _, ps, @Rps.cons _ _ v vs d ds h t, r, e, hk => by
    cases r with
    | @cons _ u _ its r1 rt =>
      cases d with
      | tup l =>
        match l, e with
        | [k, x], e =>
          simp only [pairsOf] at e
          cases z : pairsOf ds with
          | none => rw [z] at e; cases e
          | some ps' =>
            rw [z] at e
            cases e
            obtain ⟨k1, k2⟩ := kinds_cons (show kinds (k :: ps'.map (·.1)) true = true from hk)
            obtain ⟨prs, g1, g2, g3, g4⟩ := pairsOf_rx I sub t rt z k2
            cases h with
            | tup hq _ rs =>
              cases rs with
              | cons rk rs =>
                cases rs with
                | cons rx rs =>
                  cases rs
                  obtain ⟨its', rv, ht, _⟩ := I.tuple (same_seqT sub hq)
                  obtain ⟨uk, ux, ei, ruk, rux⟩ := vals2 rv
                  subst ei
                  obtain ⟨b0, eb, is⟩ := key_is I (rk.mono sub) ruk k1
                  subst eb
                  obtain ⟨b', hb'⟩ := rk.kref k1
                  subst hb'
                  cases (show Value.ref b0 = Value.ref b' from ruk)
                  refine ⟨(kOf k, b0, ux) :: prs, .cons k1 rk rux rx g1, by simp [g2], by simp [g3], fun j q ej => ?_⟩
                  cases j with
                  | zero =>
                    have e' : (kOf k, b0, ux) = q := Option.some.inj ej
                    subst e'
                    cases (show u = Value.ref _ from r1)
                    obtain ⟨o, e1, e2, n, e3⟩ := ht
                    exact ⟨_, rfl, ⟨o, e1, e2, n, by simpa using e3⟩, is⟩
                  | succ j =>
                    obtain ⟨b, e1, e2, e3⟩ := g4 j q (by simpa using ej)
                    exact ⟨b, by simpa using e1, e2, e3⟩
      | _ => cases e
/-- dict(xs) -/
theorem dx_pairsH {Q : Value → Shared → Prop} {l : Addr} {us : List V} {xs : List D} {ps : List (D × D)} (hh : A.handled = none) (hu : A.units + 20 < cLine) (I : Inv X pins σ H s) (sub : Same H1 H) (hq : SqL X.K H l us) (rs : Rps (mw X cl) H1 us xs) (e : pairsOf xs = some ps) (hk : kinds (ps.map (·.1)) true = true)
    (h : ∀ p o' s', H p = none → DOb (mw X cl) H1 p o' (dPuts [] [] ps).1 (dPuts [] [] ps).2 → Inv X pins σ (upd H p (DX p o')) s' → Q (.ref p) s') : wpAny (model X.prog X.w) A (call (.type "dict") [.ref l]) Q E s := by
  obtain ⟨its, rv, ⟨ol, n, ho, hc, hd, hdat⟩, hz⟩ := I.list hq
  obtain ⟨prs, g1, g2, g3, g4⟩ := pairsOf_rx I sub rs rv e hk
  have lv := rv.length
  let Ts : Nat → Addr := fun j => match its[j]? with
    | some (.ref b) => b
    | _ => 0
  have pi : PairItems s.heap its.toArray Ts (prs.map fun x => (Value.ref x.2.1, x.2.2)) := by
    refine ⟨by simp [g2], fun j k v hj => ?_⟩
    rw [List.getElem?_map] at hj
    cases hq' : prs[j]? with
    | none => rw [hq'] at hj; cases hj
    | some q =>
      rw [hq'] at hj
      cases hj
      obtain ⟨b, e1, e2, _⟩ := g4 j q hq'
      have et : Ts j = b := by show (match its[j]? with | some (.ref b) => b | _ => 0) = b; rw [e1]
      rw [et]
      exact ⟨by simpa using e1, .inl e2⟩
  have his : ∀ x ∈ prs, (nestedKind X.prog X.w).is s.heap x.1 x.2.1 := fun x hx => by
    obtain ⟨j, hj, e⟩ := List.mem_iff_getElem.mp hx
    obtain ⟨b, _, _, e3⟩ := g4 j x (by rw [List.getElem?_eq_getElem hj, e])
    exact e3
  refine call_dict_pairsH (knd := nestedKind X.prog X.w) (ps := prs) (PairArg.list l its.toArray Ts (prs.map fun x => (Value.ref x.2.1, x.2.2))) hh (show A.in1.in1.units + 8 < cLine from by show A.units + 1 + 1 + 8 < cLine; omega) ⟨⟨ol, n, ho, hc, hd, hdat⟩, pi⟩ ⟨by simp, fun i key v hr => ?_⟩ (fun h' hk' x hx => nestedKind_stays.stays (fun b o vs n e1 _ => hk' b o (Nat.ne_of_lt (Heap.lt_size e1)) (by simp) e1) (his x hx)) (by rw [List.length_map, g2, ← lv]; exact hz) fun h' tk hd' k => ?_
  · have hr' : (prs.map fun x => (Value.ref x.2.1, x.2.2))[i]? = some (key, v) := hr
    rw [List.getElem?_map] at hr'
    cases hq' : prs[i]? with
    | none => rw [hq'] at hr'; cases hr'
    | some q =>
      rw [hq'] at hr'
      cases hr'
      exact ⟨q.1, q.2.1, rfl, rfl⟩
  · obtain ⟨m1, m2, m3⟩ := RX.merge (M := mw X cl) (H := H1) .nil (by simp) g1
    obtain ⟨o', q1, q2⟩ := DOb.mkH (X := X) (cl := cl) (newSys I) (by rw [g3, ← rs.length] at m3; simp at m3; omega) m1 hd' m2
    exact h _ o' _ (I.hok.fresh (Nat.le_refl _)) q2 (dx_laid (t' := tk) I (fun b o e => k b o (by simp) e) q1)
end
end Q

set_option Elab.async false
set_option linter.all false
set_option maxRecDepth 100000
set_option maxHeartbeats 2000000
/-! Q5: dicts walked. -/
namespace Q
open PySem L2
theorem RE.get {M : Mw} {H : Hp} : ∀ {es : List DictEntry} {ks vs : List D} {i : Nat} {k : D}, RE M H es ks vs → ks[i]? = some k → ∃ e v kv vv, es[i]? = some e ∧ vs[i]? = some v ∧ RelV kv e.key ∧ Rp M H kv k ∧ RelV vv e.val ∧ Rp M H vv v
  | _, _, _, _, _, .nil, z => by simp at z
  | _, _, _, 0, _, .cons h1 h2 h3 h4 h5 t, z => by
    simp at z
    subst z
    exact ⟨_, _, _, _, rfl, rfl, h2, h3, h4, h5⟩
  | _, _, _, i + 1, k, .cons h1 h2 h3 h4 h5 t, z => by
    obtain ⟨e, v, kv, vv, q⟩ := RE.get (i := i) t (by simpa using z)
    exact ⟨e, v, kv, vv, by simpa using q⟩
/-- the keys of the dict at a, whose object is o -/
def ItK (a : Addr) (o : Obj) (n : Nat) : L2.It :=
  ⟨fun i H => H a = some (DX a o) ∧ i < n, fun i H x H' => H' = H ∧ ∀ es ep, o.data = .dict es ep → ∃ e, es[i]? = some e ∧ RelV x e.key, fun i H => H a = some (DX a o) ∧ n ≤ i⟩
def ItV (a : Addr) (o : Obj) (n : Nat) : L2.It :=
  ⟨fun i H => H a = some (DX a o) ∧ i < n, fun i H x H' => H' = H ∧ ∀ es ep, o.data = .dict es ep → ∃ e, es[i]? = some e ∧ RelV x e.val, fun i H => H a = some (DX a o) ∧ n ≤ i⟩
section
variable {P : Program} {w : World} {K : PySem.W.Frag} {tg : Expr} {a : Addr} {o : Obj} {es : Array DictEntry} {ep n : Nat}
theorem turn_K (it : Addr) (hod : o.data = .dict es ep) (hsz : es.size = n) (hrel : ∀ (i : Nat) (e : DictEntry), es[i]? = some e → ∃ x, RelV x e.key) : Turn P w K tg (ItK a o n) [it] it (fun i h => h.IsKeyIter it a i n ep) where
  mem := by simp
  obj := fun i h st b hb => by
    have z : b = it := by simpa using hb
    rw [z]
    obtain ⟨oi, e, c, dd⟩ := st
    exact ⟨oi, e, fun v q => by rw [dd] at q; cases q⟩
  keep := fun i h h' st k => st.at fun oi e => k it (by simp) oi e
  item := fun X hP hw hK hc i pins s σ H E I hf st hg => by
    cases hP
    cases hw
    cases hK
    obtain ⟨hd, hi⟩ := hg
    obtain ⟨f0, f1, f2, f3, f4, f5⟩ := hf it (by simp)
    have hi' : i < es.size := by omega
    have hen : es[i]? = some es[i] := by simp [hi']
    obtain ⟨x, rx⟩ := hrel i _ hen
    refine next_key_item st (dx_get I hd) hod hsz hen fun h' st' sb => ?_
    have I1 : Inv X pins σ H { s with heap := h' } := I.turned (t' := s.toks) (fun b ob hb e => (sb.2 b hb).trans e) f0 f1 f3 f4 f5
    obtain ⟨oi, e, c, dd⟩ := id st'
    exact ⟨_, rfl, go_of (s := { s with heap := h' }) e c dd (by decide) ⟨x, H, I1, rx, ⟨rfl, fun es' ep' z => by rw [hod] at z; cases z; exact ⟨_, hen, rx⟩⟩, st', fun b hb => (hf b hb).1⟩⟩
  done := fun X hP hw hK hc i pins s σ H E I hf st hg => by
    cases hP
    cases hw
    cases hK
    obtain ⟨hd, hi⟩ := hg
    obtain ⟨f0, f1, f2, f3, f4, f5⟩ := hf it (by simp)
    exact next_key_end (I.ok.hd hc) st (dx_get I hd) hod hsz hi fun h' eb => ⟨rfl, I.turned (t' := s.toks) (fun b ob hb e => eb b ob hb e) f0 f1 f3 f4 f5⟩
  self := fun A i s Q E st h => wpAny_pyIter_keyiter st h
end
/-- for k in d -/
def iDK (M : Mw) (td : TE) : TI := fun σ H R => td σ H fun x H1 => ∃ a o ks vs H0, x = .ref a ∧ H1 a = some (DX a o) ∧ DOb M H0 a o ks vs ∧ R (ItK a o ks.length) H1
def iDV (M : Mw) (td : TE) : TI := fun σ H R => td σ H fun x H1 => ∃ a o ks vs H0, x = .ref a ∧ H1 a = some (DX a o) ∧ DOb M H0 a o ks vs ∧ R (ItV a o ks.length) H1
section
variable {X : Cx} {cl : Nat → Addr × List Str} {tg e : Expr} {td : TE} {apos cpos : Pos}
theorem pi_dk (he : PE X e td) : PI X tg e (iDK (mw X cl) td) := ⟨fun pins s σ H R I h => by
  refine thn (he.run pins s σ H _ I h) fun u s1 ⟨x, Hb, Ib, rx, a, o, ks, vs, H0, ex, hd, dd, q⟩ => ?_
  cases ex
  cases (show u = Value.ref a from rx)
  obtain ⟨sy, xd, ⟨es, ep, hdt, re⟩, nd, z⟩ := dd
  have hsz : es.size = ks.length := by rw [← Array.length_toList]; exact re.length.1
  refine iter_keys sy (dx_get Ib hd) xd hdt (pi_one (tk := s1.toks) Ib _ (turn_K _ hdt hsz fun i en hen => ?_) ⟨_, Heap.get?_push_size _ rfl, rfl, ?_⟩ q)
  · have hi : i < es.size := (Array.getElem?_eq_some_iff.mp hen).1
    obtain ⟨e', v, kv, vv, g1, g2, g3, g4⟩ := re.get (i := i) (k := ks[i]'(by omega)) (by simp)
    rw [Array.getElem?_toList, hen] at g1
    cases g1
    exact ⟨kv, g3⟩
  · rw [hsz]; rfl⟩
end
section
variable {X : Cx} {cl : Nat → Addr × List Str} {pins : List (Addr × Obj)} {σ : L2.St} {H : Hp} {s : Shared}
theorem turn_V {P : Program} {w : World} {K : PySem.W.Frag} {tg : Expr} {a : Addr} {o : Obj} {es : Array DictEntry} {ep n : Nat} (it : Addr) (hat : ∀ h : Heap, h.get? a = some o → h.DictRaw a es ep) (hn : es.size = n)
    (hrel : ∀ (i : Nat) (hi : i < es.size), ∃ x, RelV x es[i].val ∧ ∀ es' ep', o.data = .dict es' ep' → ∃ e, es'[i]? = some e ∧ RelV x e.val) : Turn P w K tg (ItV a o n) [it] it (fun i h => h.IsValIter it a i n ep) where
  mem := by simp
  obj := fun i h st b hb => by
    have z : b = it := by simpa using hb
    rw [z]
    obtain ⟨oi, e, c, dd⟩ := st
    exact ⟨oi, e, fun v q => by rw [dd] at q; cases q⟩
  keep := fun i h h' st k => st.at fun oi e => k it (by simp) oi e
  item := fun X hP hw hK hc i pins s σ H E I hf st hg => by
    cases hP
    cases hw
    cases hK
    obtain ⟨hd, hi⟩ := hg
    obtain ⟨f0, f1, f2, f3, f4, f5⟩ := hf it (by simp)
    have hi' : i < es.size := by omega
    obtain ⟨x, rx, ry⟩ := hrel i hi'
    rw [← hn] at st
    refine wpAny_pyNext_values_item_raw st (hat _ (dx_get I hd)) hi' fun h' st' sb => ?_
    have I1 : Inv X pins σ H { s with heap := h' } := I.turned (t' := s.toks) (fun b ob hb e => (sb.2 b hb).trans e) f0 f1 f3 f4 f5
    obtain ⟨oi, e, c, dd⟩ := id st'
    exact ⟨_, rfl, go_of (s := { s with heap := h' }) e c dd (by decide) ⟨x, H, I1, rx, ⟨rfl, ry⟩, by rw [← hn]; exact st', fun b hb => (hf b hb).1⟩⟩
  done := fun X hP hw hK hc i pins s σ H E I hf st hg => by
    cases hP
    cases hw
    cases hK
    obtain ⟨hd, hi⟩ := hg
    obtain ⟨f0, f1, f2, f3, f4, f5⟩ := hf it (by simp)
    rw [← hn] at st
    exact wpAny_pyNext_values_end_raw (I.ok.hd hc) st (hat _ (dx_get I hd)) (by omega) fun h' eb => ⟨rfl, I.turned (t' := s.toks) (fun b ob hb e => eb b ob hb e) f0 f1 f3 f4 f5⟩
  self := fun A i s Q E st h => wpAny_pyIter_valiter st h
end
section
variable {X : Cx} {cl : Nat → Addr × List Str} {tg e : Expr} {td : TE} {apos cpos : Pos}
theorem pairs_at {M : Mw} {H : Hp} : ∀ {es : List DictEntry} {ks vs : List D} {kvs : List (Key × Value)} {i : Nat} {k : Key} {u : Value}, RE M H es ks vs → Pairs (mixKind M.P M.w) es kvs → kvs[i]? = some (k, u) → ∃ en x, es[i]? = some en ∧ RelV x u ∧ en.val = u
  | _, _, _, _, i, k, u, .nil, p, z => by cases p; simp at z
  | _, _, _, _, 0, k, u, .cons h1 h2 h3 h4 h5 t, p, z => by
    cases p with
    | cons p1 p2 pt =>
      simp at z
      subst z
      exact ⟨_, _, rfl, by rw [show u = _ from p2.symm]; exact h4, p2⟩
  | _, _, _, _, i + 1, k, u, .cons h1 h2 h3 h4 h5 t, p, z => by
    cases p with
    | cons p1 p2 pt =>
      obtain ⟨en, x, g⟩ := pairs_at (i := i) t pt (by simpa using z)
      exact ⟨en, x, by simpa using g⟩
theorem pi_dv (he : PE X e td) (hbase : attributeBase e "values" X.env (eval e X.env) = eval e X.env) (hline : (apos.endLine == cpos.line) = true) : PI X tg (.Call (.Attribute e "values" apos) [] [] cpos) (iDV (mw X cl) td) := ⟨fun pins s σ H R I h => by
  refine wpAny_Call_method (T := "dict") (id := "dict.values") hbase rfl hline F.plainAttrs_dict F.slot_dict_values F.type_dict_values (thn (he.run pins s σ H _ I h) fun u s1 ⟨x, Hb, Ib, rx, a, o, ks, vs, H0, ex, hd, dd, q⟩ => ?_)
  cases ex
  cases (show u = Value.ref a from rx)
  obtain ⟨sy, xd, ⟨es, ep, hdt, re⟩, nd, z⟩ := dd
  have hg := dx_get Ib hd
  have ty : s1.TypeIs (.ref a) "dict" := ⟨o, hg, xd.1⟩
  refine ⟨ty, fun b q => by cases q; exact ⟨o, hg, xd.2.1⟩, ?_⟩
  have hl : es.size = ks.length := by rw [← Array.length_toList]; exact re.length.1
  have hat : ∀ h : Heap, h.get? a = some o → h.DictRaw a es ep := fun h e => ⟨o, e, xd, hdt⟩
  have I2 : Inv X pins σ Hb { s1 with heap := s1.heap.push { cls := .type "dict_values", data := .fields #[.ref a] } } := Ib.kept (t' := s1.toks) fun b ob q => Heap.get?_push_of_some _ q
  have fin : wpAny (model X.prog X.w) X.A (pyIter (.ref s1.heap.objs.size)) (PIE X pins σ tg R) X.xe { s1 with heap := s1.heap.push { cls := .type "dict_values", data := .fields #[.ref a] } } := by
    refine wpAny_pyIter_values_raw (d := a) (es := es) (ep := ep) ⟨_, Heap.get?_push_size _ rfl, rfl, rfl⟩ (hat _ (Heap.get?_push_of_some _ hg)) (pi_one (tk := s1.toks) I2 _ (turn_V _ hat hl fun i hi => ?_) ⟨_, Heap.get?_push_size _ rfl, rfl, ?_⟩ q)
    · obtain ⟨en, v, kv, vv, g1, g2, g3, g4, g5, g6⟩ := re.get (i := i) (k := ks[i]'(by omega)) (by simp)
      have e0 : es[i] = en := by
        rw [Array.getElem?_toList, Array.getElem?_eq_getElem hi] at g1
        exact Option.some.inj g1
      refine ⟨vv, by rw [e0]; exact g5, fun es3 ep3 z3 => ?_⟩
      rw [hdt] at z3; cases z3
      exact ⟨en, by rw [← Array.getElem?_toList]; exact g1, g5⟩
    · rw [hl]; rfl
  show wpAny _ _ (callWith cpos (.builtin "dict.values") [.ref a] [] []) _ X.xe s1
  exact method_meetsIn F.slot_dict_values F.entry_dict_values rfl (PySem.evalArgs_none ⟨rfl, ty, F.args_dict_values_1 _, _, meets_dict_values_raw a sy, ⟨es, ep, hat _ hg⟩, fin⟩)⟩
end
end Q

set_option Elab.async false
set_option linter.all false
set_option maxRecDepth 100000
set_option maxHeartbeats 2000000
/-! Q6: operations on values. -/
namespace Q
open PySem L2

/-- a value has come: new objects at most -/
structure NewR (M : Mw) (H1 H : Hp) (s : Sh) (d : D) (u : V) (H1' H' : Hp) (f : List Addr) : Prop where
  tr : Tr (fun _ => False) H1 H H1' H' (fun b => b ∈ f)
  sub : Same H1' H'
  rs : RS M H1' H' s u d f
  dj : ∀ b ∈ f, H1' b = none
section
variable {M : Mw} {H1 H H1' H' H1'' H'' : Hp} {s : Sh} {d : D} {u : V} {f : List Addr} {ent : Nat → Option V} {σ : L2.St} {v' : Ev} {F F' : Nat → List Addr} {ds : List D} {us : List V}
theorem NewR.old (s : Same H1 H) (r : Rp M H1 u d) : NewR M H1 H .sh d u H1 H [] := ⟨Tr.refl fun b h => by simp at h, s, ⟨r, rfl⟩, fun b h => by simp at h⟩
theorem NewR.int (s : Same H1 H) {i : Int} : NewR M H1 H .sh (.int i) (.int i) H1 H [] := .old s (.int i)
theorem NewR.bl (s : Same H1 H) {i : Bool} : NewR M H1 H .sh (.bl i) (.bl i) H1 H [] := .old s (.bl i)
theorem NewR.lst (s : Same H1 H) {p : Addr} (hp : H p = none) (r : Rps M H1 us ds) (z : ds.length ≤ sizeLine) : NewR M H1 H .lst (.lst ds) (.ref p) H1 (upd H p (.lst us)) [p] := by
  refine ⟨(Tr.laidO (O := fun _ => False) hp).weak (fun _ h => h) fun b h => .inl (.inr (by simpa using h)), s.trans (same_new hp), ⟨p, us, ds, rfl, rfl, rfl, upd_same, r, z⟩, fun b h => ?_⟩
  have e : b = p := by simpa using h
  subst e
  exact s.free hp
theorem NewR.tup (s : Same H1 H) {p : Addr} (hp : H p = none) (r : Rps M H1 us ds) (z : ds.length ≤ sizeLine) : NewR M H1 H .sh (.tup ds) (.ref p) (upd H1 p (.tup us)) (upd H p (.tup us)) [] := by
  refine ⟨(Tr.laidS (O := fun _ => False) hp s).weak (fun _ h => h) fun b h => by simp at h, same_upd2 s, ⟨.tup (SqT.of upd_same) z (r.mono (same_new (s.free hp))), rfl⟩, fun b h => by simp at h⟩
theorem NewR.dct (s : Same H1 H) {p : Addr} {o : Obj} {ks vs : List D} (hp : H p = none) (dd : DOb M H1 p o ks vs) : NewR M H1 H .dct (.dct ks vs) (.ref p) H1 (upd H p (DX p o)) [p] := by
  refine ⟨(Tr.laidO (O := fun _ => False) hp).weak (fun _ h => h) fun b h => .inl (.inr (by simpa using h)), s.trans (same_new hp), ⟨p, o, ks, vs, rfl, rfl, rfl, upd_same, dd⟩, fun b h => ?_⟩
  have e : b = p := by simpa using h
  rw [e]
  exact s.free hp
theorem SV.newR (S : SV M ent σ v' H1 H F) (n : NewR M H1 H s d u H1' H' f) : SV M ent σ v' H1' H' F := by
  refine S.keep n.tr.mono n.sub (fun b o _ e => n.tr.frame b o e (fun z => z)) fun b hb => ?_
  cases q : H1' b with
  | none => rfl
  | some o =>
    rcases n.tr.new b (by rw [q]; simp) with z | z | z
    · obtain ⟨i, hi⟩ := hb
      exact absurd (S.dis i b hi) z
    · exact absurd z (S.there hb)
    · exact z.elim
theorem NewR.post (n : NewR M H1' H' s d u H1'' H'' f) (S : SV M ent σ v' H1' H' F') (t : Tr (OF F) H1 H H1' H' (OF F')) : Post M ent σ F H1 H s d v' u H1'' H'' F' f := by
  refine ⟨t.trans (n.tr.weak (fun _ h => h.elim) fun b h => ?_), S.newR n, n.rs, fun b hb hF => ?_, n.dj⟩
  · rcases h with h | h
    · exact .inr h
    · exact .inl h
  · rcases n.tr.own b hb with z | z
    · exact S.there hF z
    · exact z
end

/-! ### two-place operations -/
def rBin (M : Mw) (o : Bop) : R2 := fun x y H Q => ∃ H1 a b s d, Same H1 H ∧ Rp M H1 x a ∧ Rp M H1 y b ∧ bin o a b = some (s, d) ∧ ∀ u H1' H' f, NewR M H1 H s d u H1' H' f → Q u H'
def opOf : Bop → Operator
  | .add => .Add | .sub => .Sub | .mul => .Mult | .fdiv => .FloorDiv | .mod => .Mod | .pow => .Pow
section
variable {X : Cx} {cl : Nat → Addr × List Str}
theorem Rps.rep {M : Mw} {H : Hp} {vs : List V} {ds : List D} (r : Rps M H vs ds) : ∀ n : Nat, Rps M H (List.replicate n vs).flatten (List.replicate n ds).flatten
  | 0 => .nil
  | n + 1 => by
    rw [List.replicate_succ, List.replicate_succ, List.flatten_cons, List.flatten_cons]
    exact r.append (Rps.rep r n)
theorem rep_length {α : Type} (xs : List α) (n : Nat) : (List.replicate n xs).flatten.length = xs.length * n := by
  induction n with
  | zero => simp
  | succ n ih => rw [List.replicate_succ, List.flatten_cons, List.length_append, ih, Nat.mul_succ, Nat.add_comm]
theorem op_bin (o : Bop) : OpR X (binaryOp (opOf o)) (rBin (mw X cl) o) := by
  intro pins s σ H x y v u Q I rx ry h
  obtain ⟨H1, a, b, sh, d, sub, ha, hb, e, q⟩ := h
  have mz : mostLen = sizeLine := by rw [sizeLine_eq]; rfl
  cases o with
  | add =>
    cases ha with
    | int i =>
      cases hb with
      | int j => cases e; exact op_add pins s σ H _ _ v u Q I rx ry ⟨_, _, rfl, rfl, q _ _ _ _ (.int sub)⟩
      | _ => cases e
    | lst ha z r =>
      cases hb with
      | lst hb z' r' =>
        simp only [bin] at e
        split at e
        · rename_i hz
          cases e
          rw [mz] at hz
          refine op_cat pins s σ H _ _ v u Q I rx ry ⟨_, _, _, _, rfl, rfl, sub _ _ ha, sub _ _ hb, by rw [r.length, r'.length]; exact hz, fun p hp => q _ _ _ _ (.lst sub hp (r.append r') (by rw [List.length_append]; exact hz))⟩
        · cases e
      | _ => cases e
    | tup ha z r =>
      cases hb with
      | tup hb z' r' =>
        simp only [bin] at e
        split at e
        · rename_i hz
          cases e
          rw [mz] at hz
          refine op_catA pins s σ H _ _ v u Q I rx ry ⟨_, _, _, _, rfl, rfl, same_seqT sub ha, same_seqT sub hb, by rw [r.length, r'.length]; exact hz, fun z0 => ?_, fun _ z0 => ?_, fun _ _ p hp => q _ _ _ _ (.tup sub hp (r.append r') (by rw [List.length_append]; exact hz))⟩
          · subst z0
            cases r
            rw [List.nil_append] at q
            exact q _ _ _ _ (.old sub (.tup hb z' r'))
          · subst z0
            cases r'
            rw [List.append_nil] at q
            exact q _ _ _ _ (.old sub (.tup ha z r))
        · cases e
      | _ => cases e
    | _ => cases hb <;> cases e
  | sub =>
    cases ha with
    | int i =>
      cases hb with
      | int j => cases e; exact op_sub pins s σ H _ _ v u Q I rx ry ⟨_, _, rfl, rfl, q _ _ _ _ (.int sub)⟩
      | _ => cases e
    | _ => cases hb <;> cases e
  | mul =>
    cases ha with
    | int i =>
      cases hb with
      | int j =>
        simp only [bin] at e
        split at e
        · rename_i hz
          cases e
          exact op_mul pins s σ H _ _ v u Q I rx ry ⟨_, _, rfl, rfl, hz, q _ _ _ _ (.int sub)⟩
        · cases e
      | _ => cases e
    | lst ha z r =>
      cases hb with
      | int j =>
        simp only [bin] at e
        split at e
        · rename_i hz
          cases e
          rw [mz] at hz
          refine op_rep pins s σ H _ _ v u Q I rx ry ⟨_, _, _, rfl, rfl, sub _ _ ha, by omega, by omega, by rw [r.length]; exact hz.2.2, fun p hp => q _ _ _ _ (.lst sub hp (r.rep _) ?_)⟩
          rw [rep_length]; exact hz.2.2
        · cases e
      | _ => cases e
    | tup ha z r =>
      cases hb with
      | int j =>
        simp only [bin] at e
        split at e
        · rename_i hz
          cases e
          refine op_repT pins s σ H _ _ v u Q I rx ry ⟨_, _, _, rfl, rfl, same_seqT sub ha, fun z => ?_, hz.1, by omega, by rw [r.length]; exact hz.2.2.2, fun p hp => q _ _ _ _ (.tup sub hp (r.rep _) ?_)⟩
          · subst z; cases r; exact hz.2.2.1 rfl
          · rw [rep_length, sizeLine_eq]
            have h1 : j.toNat < 1000 := by omega
            have h2 := hz.2.2.2
            have := Nat.mul_le_mul h2 (Nat.le_of_lt h1)
            omega
        · cases e
      | _ => cases e
    | _ => cases hb <;> cases e
  | fdiv =>
    cases ha with
    | int i =>
      cases hb with
      | int j =>
        simp only [bin] at e
        split at e
        · rename_i hz
          cases e
          exact op_fdiv pins s σ H _ _ v u Q I rx ry ⟨_, _, rfl, rfl, hz, q _ _ _ _ (.int sub)⟩
        · cases e
      | _ => cases e
    | _ => cases hb <;> cases e
  | mod =>
    cases ha with
    | int i =>
      cases hb with
      | int j =>
        simp only [bin] at e
        split at e
        · rename_i hz
          cases e
          exact op_mod pins s σ H _ _ v u Q I rx ry ⟨_, _, rfl, rfl, hz, q _ _ _ _ (.int sub)⟩
        · cases e
      | _ => cases e
    | _ => cases hb <;> cases e
  | pow =>
    cases ha with
    | int i =>
      cases hb with
      | int j =>
        simp only [bin] at e
        split at e
        · rename_i hz
          cases e
          exact op_pow pins s σ H _ _ v u Q I rx ry ⟨_, _, rfl, rfl, hz, q _ _ _ _ (.int sub)⟩
        · cases e
      | _ => cases e
    | _ => cases hb <;> cases e

/-! ### comparisons -/
def rCmp (M : Mw) (o : Cop) : R2 := fun x y H Q => ∃ H1 a b d, Same H1 H ∧ Rp M H1 x a ∧ Rp M H1 y b ∧ cmp o a b = some d ∧ Q (.bl d) H
def cmpOf : Cop → CmpOp
  | .eq => .Eq | .ne => .NotEq | .lt => .Lt | .le => .LtE | .gt => .Gt | .ge => .GtE | .is => .Is | .isn => .IsNot | .inn => .In | .nin => .NotIn
theorem D.wf_and {d : D} (h : d.wf = true) : d.pl = true ∧ SeqAt.shaped d.py = true := Bool.and_eq_true_iff.mp h
theorem Rp.leafV {M : Mw} {H : Hp} {v : V} {d : D} (r : Rp M H v d) (h : leaf d = true) : flatV v = true := by
  cases r <;> first | rfl | cases h
theorem Rps.leafV {M : Mw} {H : Hp} : ∀ {ds : List D} {vs : List V}, Rps M H vs ds → ds.all leaf = true → vs.all flatV = true
  | _, _, .nil, _ => rfl
  | _, _, .cons h t, e => by
    rw [List.all_cons, Bool.and_eq_true_iff] at e ⊢
    exact ⟨h.leafV e.1, Rps.leafV t e.2⟩
theorem eqV_leaf {M : Mw} {H : Hp} {x y : V} {a b : D} (ra : Rp M H x a) (rb : Rp M H y b) (la : leaf a = true) (lb : leaf b = true) : eqV x y = eqd a b := by
  cases ra <;> cases rb <;> first | rfl | cases la | cases lb
theorem inV_leaf {M : Mw} {H : Hp} {x : V} {a : D} (ra : Rp M H x a) (la : leaf a = true) : ∀ {ds : List D} {vs : List V}, Rps M H vs ds → ds.all leaf = true → inV x vs = ds.any fun z => eqd z a
  | _, _, .nil, _ => rfl
  | _, _, .cons h t, e => by
    rw [List.all_cons, Bool.and_eq_true_iff] at e
    have ih := inV_leaf ra la t e.2
    unfold inV at ih ⊢
    rw [List.any_cons, List.any_cons, ih, eqV_leaf h ra e.1 la]
theorem pys_any (a : PyData) : ∀ ds : List D, ((D.pys ds).any fun z => PyData.eqv z a) = ds.any fun z => PyData.eqv z.py a
  | [] => rfl
  | d :: r => by
    show (PyData.eqv d.py a || (D.pys r).any _) = (PyData.eqv d.py a || r.any _)
    rw [pys_any a r]
theorem op_cmp {k : Nat} (hr : Room k X.A) (o : Cop) : OpR X (compareOp (cmpOf o)) (rCmp (mw X cl) o) := by
  intro pins s σ H x y v u Q I rx ry h
  obtain ⟨H1, a, b, d, sub, ha, hb, e, q⟩ := h
  have ha' := ha.mono sub
  have hb' := hb.mono sub
  have hu64 := hr.units
  have hu65 : X.A.units + 65 < cLine := by have := hr.un; omega
  have hu9 : X.A.units + 9 < cLine := by omega
  cases o with
  | eq =>
    simp only [cmp, eqq] at e
    split at e
    · rename_i w
      cases e
      have w' := Bool.and_eq_true_iff.mp w
      exact op_eqD hu64 pins s σ H _ _ v u Q I rx ry ⟨_, _, ha'.dp (D.wf_and w'.1).1, hb'.dp (D.wf_and w'.2).1, (D.wf_and w'.1).2, (D.wf_and w'.2).2, q⟩
    · cases e
  | ne =>
    simp only [cmp, eqq] at e
    split at e
    · rename_i w
      cases e
      have w' := Bool.and_eq_true_iff.mp w
      exact op_neD hu64 pins s σ H _ _ v u Q I rx ry ⟨_, _, ha'.dp (D.wf_and w'.1).1, hb'.dp (D.wf_and w'.2).1, (D.wf_and w'.1).2, (D.wf_and w'.2).2, q⟩
    · cases e
  | lt => cases ha <;> cases hb <;> first | (cases e; done) | (cases e; exact op_lt pins s σ H _ _ v u Q I rx ry ⟨_, _, rfl, rfl, q⟩)
  | le => cases ha <;> cases hb <;> first | (cases e; done) | (cases e; exact op_le pins s σ H _ _ v u Q I rx ry ⟨_, _, rfl, rfl, q⟩)
  | gt => cases ha <;> cases hb <;> first | (cases e; done) | (cases e; exact op_gt pins s σ H _ _ v u Q I rx ry ⟨_, _, rfl, rfl, q⟩)
  | ge => cases ha <;> cases hb <;> first | (cases e; done) | (cases e; exact op_ge pins s σ H _ _ v u Q I rx ry ⟨_, _, rfl, rfl, q⟩)
  | is =>
    cases hb with
    | non =>
      have e' : d = isNon a := by cases ha <;> (cases e; rfl)
      subst e'
      refine op_isN pins s σ H _ _ v u Q I rx ry ⟨rfl, ?_⟩
      have z : decide (x = V.non) = isNon a := by cases ha <;> rfl
      rw [z]; exact q
    | _ => cases ha <;> cases e
  | isn =>
    cases hb with
    | non =>
      have e' : d = !isNon a := by cases ha <;> (cases e; rfl)
      subst e'
      refine op_notN pins s σ H _ _ v u Q I rx ry ⟨rfl, ?_⟩
      have z : decide (x = V.non) = isNon a := by cases ha <;> rfl
      rw [z]; exact q
    | _ => cases ha <;> cases e
  | inn =>
    cases hb with
    | @lst al vs ds hl z r =>
      have e2 : (if a.wf && (D.lst ds).wf then some (ds.any fun z => eqd z a) else none) = some d := by cases ha <;> exact e
      split at e2
      · rename_i w
        cases e2
        have w' := Bool.and_eq_true_iff.mp w
        refine op_inD hu65 pins s σ H _ _ v u Q I rx ry ⟨_, D.pys ds, ha'.dp (D.wf_and w'.1).1, hb'.dp (D.wf_and w'.2).1, (D.wf_and w'.1).2, (D.wf_and w'.2).2, ?_⟩
        rw [pys_any]; exact q
      · cases e2
    | @tup al vs ds hl z r =>
      have e2 : (if leaf a && ds.all leaf then some (ds.any fun z => eqd z a) else none) = some d := by cases ha <;> exact e
      split at e2
      · rename_i w
        cases e2
        have w' := Bool.and_eq_true_iff.mp w
        refine op_in_seq pins s σ H _ _ v u Q I rx ry ⟨_, _, rfl, .inr (same_seqT sub hl), ha.leafV w'.1, r.leafV w'.2, ?_⟩
        rw [inV_leaf ha w'.1 r w'.2]; exact q
      · cases e2
    | @dct al o es ep ks vs hd h1 h2 h3 h4 h5 h6 =>
      have e2 : (if kOk ks a then some ((dHas ks a)) else none) = some d := by cases ha <;> exact e
      split at e2
      · rename_i w
        cases e2
        cases (show u = Value.ref al from ry)
        exact dx_in hu9 I sub (sub _ _ hd) ⟨h1, h2, ⟨es, ep, h3, h4⟩, h5, h6⟩ w rx ha fun s' I' => ⟨.bl _, H, I', rfl, q⟩
      · cases e2
    | str y =>
      cases ha with
      | str x' => cases e; exact op_in_str pins s σ H _ _ v u Q I rx ry ⟨_, _, rfl, rfl, q⟩
      | _ => cases e
    | _ => cases ha <;> cases e
  | nin =>
    cases hb with
    | @lst al vs ds hl z r =>
      have e2 : (if a.wf && (D.lst ds).wf then some (!ds.any fun z => eqd z a) else none) = some d := by cases ha <;> exact e
      split at e2
      · rename_i w
        cases e2
        have w' := Bool.and_eq_true_iff.mp w
        refine op_notInD hu65 pins s σ H _ _ v u Q I rx ry ⟨_, D.pys ds, ha'.dp (D.wf_and w'.1).1, hb'.dp (D.wf_and w'.2).1, (D.wf_and w'.1).2, (D.wf_and w'.2).2, ?_⟩
        rw [pys_any]; exact q
      · cases e2
    | @tup al vs ds hl z r =>
      have e2 : (if leaf a && ds.all leaf then some (!ds.any fun z => eqd z a) else none) = some d := by cases ha <;> exact e
      split at e2
      · rename_i w
        cases e2
        have w' := Bool.and_eq_true_iff.mp w
        refine op_notIn_seq pins s σ H _ _ v u Q I rx ry ⟨_, _, rfl, .inr (same_seqT sub hl), ha.leafV w'.1, r.leafV w'.2, ?_⟩
        show Q (.bl (!inV x vs)) H
        rw [inV_leaf ha w'.1 r w'.2]; exact q
      · cases e2
    | @dct al o es ep ks vs hd h1 h2 h3 h4 h5 h6 =>
      have e2 : (if kOk ks a then some (!(dHas ks a)) else none) = some d := by cases ha <;> exact e
      split at e2
      · rename_i w
        cases e2
        cases (show u = Value.ref al from ry)
        exact dx_notIn hu9 I sub (sub _ _ hd) ⟨h1, h2, ⟨es, ep, h3, h4⟩, h5, h6⟩ w rx ha fun s' I' => ⟨.bl _, H, I', rfl, q⟩
      · cases e2
    | str y =>
      cases ha with
      | str x' => cases e; exact op_notin_str pins s σ H _ _ v u Q I rx ry ⟨_, _, rfl, rfl, q⟩
      | _ => cases e
    | _ => cases ha <;> cases e

/-! ### subscripts, slices -/
def noDct : D → Bool
  | .dct _ _ => false
  | _ => true
def rIdx (M : Mw) : R2 := fun x y H Q => ∃ H1 a b d, Same H1 H ∧ Rp M H1 x a ∧ Rp M H1 y b ∧ noDct a = true ∧ idx a b = some d ∧ ∀ u, Rp M H1 u d → Q u H
theorem ix_idx : IxR X (rIdx (mw X cl)) := by
  intro value slice pins s σ H x y v u Q I rx ry h hs
  obtain ⟨H1, a, b, d, sub, ha, hb, nd, e, q⟩ := h
  cases ha with
  | dct _ _ _ _ _ _ _ => cases nd
  | lst hl z r =>
    cases hb with
    | int i =>
      obtain ⟨w, h1, h2⟩ := r.at (show atI _ i = some d from e)
      exact ix_seq value slice pins s σ H _ _ v u Q I rx ry (.inl ⟨_, _, _, _, rfl, rfl, SqL.of (sub _ _ hl), h1, q _ h2⟩) hs
    | _ => cases e
  | tup hl z r =>
    cases hb with
    | int i =>
      obtain ⟨w, h1, h2⟩ := r.at (show atI _ i = some d from e)
      exact ix_seq value slice pins s σ H _ _ v u Q I rx ry (.inr (.inl ⟨_, _, _, _, rfl, rfl, same_seqT sub hl, h1, q _ h2⟩)) hs
    | _ => cases e
  | _ => cases hb <;> cases e
def rCut (M : Mw) : V → Option Int → Option Int → Hp → VK → Prop := fun x lo hi H Q => ∃ H1 a s d, Same H1 H ∧ Rp M H1 x a ∧ slc a lo hi = some (s, d) ∧ ∀ u H1' H' f, NewR M H1 H s d u H1' H' f → Q u H'
theorem cutD_all {xs : List D} {lo hi : Option Int} (h1 : HT.sIx xs.length 0 lo = 0) (h2 : HT.sIx xs.length xs.length hi = xs.length) : cutD xs lo hi = xs := by
  unfold cutD
  rw [h1, h2]
  simp
theorem sl_cut : SlR X (rCut (mw X cl)) := by
  intro pins s σ H x v vl vu lo hi sl Q I rx hs pl pu h
  obtain ⟨H1, a, sh, d, sub, ha, e, q⟩ := h
  cases ha with
  | lst hl z r =>
    cases e
    exact sl_list pins s σ H _ v vl vu lo hi sl Q I rx hs pl pu ⟨_, _, rfl, SqL.of (sub _ _ hl), fun p hp => q _ _ _ _ (.lst sub hp (r.cut lo hi) (Nat.le_trans (cutD_length _ _ _) z))⟩
  | tup hl z r =>
    cases e
    refine sl_tupA pins s σ H _ v vl vu lo hi sl Q I rx hs pl pu ⟨_, _, rfl, same_seqT sub hl, fun hw => ?_, fun _ p hp => q _ _ _ _ (.tup sub hp (r.cut lo hi) (Nat.le_trans (cutD_length _ _ _) z))⟩
    rw [r.length] at hw
    rw [cutD_all hw.1 hw.2] at q
    exact q _ _ _ _ (.old sub (.tup hl z r))
  | _ => cases e

/-! ### built-ins -/
theorem fold_max : ∀ {ns : List Int} {n m : Int}, m ∈ n :: ns → (∀ y ∈ n :: ns, y ≤ m) → ns.foldl max n = m
  | [], n, m, hm, _ => (List.mem_singleton.mp hm).symm
  | a :: ns, n, m, hm, hle => by
    have h1 := hle n (by simp)
    have h2 := hle a (by simp)
    refine fold_max (ns := ns) (n := max n a) ?_ fun y hy => ?_
    · simp only [List.mem_cons] at hm ⊢
      rcases hm with h | h | h
      · left; omega
      · left; omega
      · right; exact h
    · rcases List.mem_cons.mp hy with h | h
      · omega
      · exact hle y (by simp [h])
theorem fold_min : ∀ {ns : List Int} {n m : Int}, m ∈ n :: ns → (∀ y ∈ n :: ns, m ≤ y) → ns.foldl min n = m
  | [], n, m, hm, _ => (List.mem_singleton.mp hm).symm
  | a :: ns, n, m, hm, hle => by
    have h1 := hle n (by simp)
    have h2 := hle a (by simp)
    refine fold_min (ns := ns) (n := min n a) ?_ fun y hy => ?_
    · simp only [List.mem_cons] at hm ⊢
      rcases hm with h | h | h
      · left; omega
      · left; omega
      · right; exact h
    · rcases List.mem_cons.mp hy with h | h
      · omega
      · exact hle y (by simp [h])

def rBlt (M : Mw) (f : Bi) : List V → Hp → VK → Prop := fun vs H Q => ∃ H1 ds s d, Same H1 H ∧ Rps M H1 vs ds ∧ blt f ds = some (s, d) ∧ ∀ u H1' H' f, NewR M H1 H s d u H1' H' f → Q u H'
theorem Rps.boolsOf {M : Mw} {H : Hp} : ∀ {ds : List D} {vs : List V} {bs : List Bool}, Rps M H vs ds → Q.boolsOf ds = some bs → vs = bs.map V.bl
  | _, _, _, .nil, e => by cases e; rfl
  | _, _, _, .cons (.bl b) t, e => by
    simp only [Q.boolsOf] at e
    cases q : Q.boolsOf _ with
    | none => rw [q] at e; cases e
    | some r => rw [q] at e; cases e; rw [Rps.boolsOf t q]; rfl
  | _, _, _, .cons .non t, e => by cases e
  | _, _, _, .cons (.int _) t, e => by cases e
  | _, _, _, .cons (.str _) t, e => by cases e
  | _, _, _, .cons (.lst _ _ _) t, e => by cases e
  | _, _, _, .cons (.tup _ _ _) t, e => by cases e
  | _, _, _, .cons (.dct _ _ _ _ _ _ _) t, e => by cases e
  | _, _, _, .cons (.ins _ _ _) t, e => by cases e
theorem Rps.intsOf {M : Mw} {H : Hp} : ∀ {ds : List D} {vs : List V} {bs : List Int}, Rps M H vs ds → Q.intsOf ds = some bs → vs = bs.map V.int
  | _, _, _, .nil, e => by cases e; rfl
  | _, _, _, .cons (.int b) t, e => by
    simp only [Q.intsOf] at e
    cases q : Q.intsOf _ with
    | none => rw [q] at e; cases e
    | some r => rw [q] at e; cases e; rw [Rps.intsOf t q]; rfl
  | _, _, _, .cons .non t, e => by cases e
  | _, _, _, .cons (.bl _) t, e => by cases e
  | _, _, _, .cons (.str _) t, e => by cases e
  | _, _, _, .cons (.lst _ _ _) t, e => by cases e
  | _, _, _, .cons (.tup _ _ _) t, e => by cases e
  | _, _, _, .cons (.dct _ _ _ _ _ _ _) t, e => by cases e
  | _, _, _, .cons (.ins _ _ _) t, e => by cases e
theorem rps_ints {M : Mw} {H : Hp} : ∀ ns : List Int, Rps M H (ns.map V.int) (ns.map D.int)
  | [] => .nil
  | n :: r => .cons (.int n) (rps_ints r)
theorem sorted_uni {ns ns' : List Int} (h1 : ns'.Perm ns) (h2 : ns'.Pairwise (· ≤ ·)) : ns' = ns.mergeSort fun a b => decide (a ≤ b) := by
  refine (h1.trans (List.mergeSort_perm _ _).symm).eq_of_pairwise (le := fun a b => a ≤ b) (fun a b _ _ p q => Int.le_antisymm p q) h2 ?_
  have := List.pairwise_mergeSort (le := fun (a b : Int) => decide (a ≤ b)) (fun a b c h1 h2 => by simp at *; omega) (fun a b => by simp; omega) ns
  exact this.imp fun h => by simpa using h
def Bi.nm : Bi → Str
  | .len => "len" | .int => "int" | .min => "min" | .max => "max" | .abs => "abs" | .list => "list" | .tuple => "tuple" | .all => "all" | .any => "any" | .sum => "sum" | .sorted => "sorted" | .dict => "dict"
def Bi.val : Bi → Value
  | .len => .builtin "len" | .int => .type "int" | .min => .builtin "min" | .max => .builtin "max" | .abs => .builtin "abs" | .list => .type "list" | .tuple => .type "tuple" | .all => .builtin "all" | .any => .builtin "any" | .sum => .builtin "sum" | .sorted => .builtin "sorted" | .dict => .type "dict"
theorem each_of {M : Mw} {H : Hp} : ∀ {vs : List V} {its : List Value} {ds : List D}, Vals vs its → Rps M H vs ds → PySem.W.EachIs (fun u d => ∃ v, RelV v u ∧ Rp M H v d) its ds
  | _, _, _, r, .nil => by cases r; exact .nil
  | _, _, _, r, .cons h t => by
    cases r with
    | cons r1 rt => exact .cons ⟨_, r1, h⟩ (each_of rt t)
theorem of_each {M : Mw} {H : Hp} : ∀ {us : List Value} {ds : List D}, PySem.W.EachIs (fun u d => ∃ v, RelV v u ∧ Rp M H v d) us ds → ∃ vs, Vals vs us ∧ Rps M H vs ds
  | _, _, .nil => ⟨[], .nil, .nil⟩
  | _, _, .cons ⟨v, r1, r2⟩ t => by
    obtain ⟨vs, g1, g2⟩ := of_each t
    exact ⟨v :: vs, .cons r1 g1, .cons r2 g2⟩
theorem each_reads {H1 H : Hp} {pins : List (Addr × Obj)} {s : Shared} {σ : L2.St} (sub : Same H1 H) (I : Inv X pins σ H s) : ∀ {vs : List V} {its : List Value} {ds : List D}, Vals vs its → Rps (mw X cl) H1 vs ds → (∀ b ∈ ds, b.pl = true) → PySem.W.EachIs (fun v b => ∃ as, PySem.Reads s.heap v (D.py b) as) its ds
  | _, _, _, rv, .nil, _ => by cases rv; exact .nil
  | _, _, _, rv, .cons h t, hp => by
    cases rv with
    | cons r1 rt => exact .cons (Dp.reads I _ _ _ ((h.mono sub).dp (hp _ (by simp))) r1) (each_reads sub I rt t fun b hb => hp b (by simp [hb]))
theorem srt_ok {k : Nat} (hr : Room k X.A) {H1 H : Hp} {a : Addr} {vs : List V} {ds : List D} {sh : Sh} {d : D} {Q : VK} {pins : List (Addr × Obj)} {s : Shared} {σ : L2.St} {us : List Value} (sub : Same H1 H) (hl : H a = some (.lst vs)) (z : ds.length ≤ sizeLine) (r' : Rps (mw X cl) H1 vs ds) (e : srt ds = some (sh, d))
    (I : Inv X pins σ H s) (r : Vals [V.ref a] us) (q : ∀ u H1' H' f, NewR (mw X cl) H1 H sh d u H1' H' f → Q u H') : wpAny (model X.prog X.w) X.A (call (.builtin "sorted") us) (EP X pins σ Q) X.xe s := by
  unfold srt at e
  split at e
  · rename_i bs qb
    cases e
    have ev := r'.intsOf qb
    have lv := r'.length
    subst ev
    refine cr_sortedI pins s σ H _ us Q I r ⟨_, bs, rfl, SqL.of hl, fun ns' p h1 h2 hp => ?_⟩
    have e3 := sorted_uni h1 h2
    subst e3
    refine q _ _ _ _ (.lst sub hp (rps_ints _) ?_)
    rw [List.length_map, List.length_mergeSort]
    rw [List.length_map] at lv
    omega
  · split at e
    · rename_i ok
      cases e
      unfold srtOk at ok
      simp only [Bool.and_eq_true, List.all_eq_true] at ok
      obtain ⟨⟨o1, o2⟩, o3⟩ := ok
      obtain ⟨its, rv, pl, hz⟩ := I.list (SqL.of hl)
      obtain ⟨u, rfl, ru⟩ := vals1 r
      cases (show u = Value.ref a from ru)
      have e1 := each_of rv r'
      have e2 : PySem.W.EachIs (fun v b => ∃ as, PySem.Reads s.heap v (D.py b) as) its ds := by
        exact each_reads sub I rv r' fun b hb => (o1 b hb).1
      have hal : PySem.W.AllAlike (ds.map D.py) := by
        intro x hx y hy
        obtain ⟨b, hb, rfl⟩ := List.mem_map.mp hx
        obtain ⟨b', hb', rfl⟩ := List.mem_map.mp hy
        exact o2 b hb b' hb'
      have hsr : PySem.W.Sortable (ds.map D.py) := by
        rcases Bool.or_eq_true_iff.mp o3 with o3 | o3
        · refine .inl fun x hx => ?_
          obtain ⟨b, hb, rfl⟩ := List.mem_map.mp hx
          have := List.all_eq_true.mp o3 b hb
          cases b with
          | tup l => cases l with
            | nil => cases this
            | cons x l => exact ⟨_, _, rfl⟩
          | _ => cases this
        · refine .inr fun x hx => ?_
          obtain ⟨b, hb, rfl⟩ := List.mem_map.mp hx
          have := List.all_eq_true.mp o3 b hb
          cases b with
          | tup l => cases this
          | non => cases this
          | _ => exact ⟨(by intro z; cases z), (by intro l z; cases z)⟩
      refine PySem.W.sorted_data (bs := ds) (enc := D.py) (R := fun u d => ∃ v, RelV v u ∧ Rp (mw X cl) H1 v d) pl.isList e1 e2 hal hsr z (fun b hb => ?_) fun out ho er => ?_
      · have h1 := (o1 b hb).2
        have h2 := of_decide_eq_true h1
        have := hr.units
        omega
      · obtain ⟨ws, g1, g2⟩ := of_each er
        obtain ⟨n, hn⟩ := PyProof.Rows.sortedAll_at s.heap its out.toArray
        have hp : H (s.heap.objs.size + 1) = none := I.hok.fresh (Nat.le_succ _)
        have zl : ws.length ≤ sizeLine := by rw [g2.length, List.length_mergeSort]; exact z
        refine ⟨.ref (s.heap.objs.size + 1), upd H (s.heap.objs.size + 1) (.lst ws), I.laid (t' := s.toks) (fun b ob hq => PyProof.Rows.sortedAll_old hq) (Nat.le_succ _) ⟨zl, out, n, g1, ?_⟩, rfl, q _ _ _ _ (.lst sub hp g2 (by rw [List.length_mergeSort]; exact z))⟩
        exact hn
    · cases e
theorem srtOk_parts {ds : List D} (ok : srtOk ds = true) : (∀ b ∈ ds, b.pl = true ∧ b.py.depth ≤ 16) ∧ PySem.W.AllAlike (ds.map D.py) ∧ PySem.W.Sortable (ds.map D.py) := by
  unfold srtOk at ok
  simp only [Bool.and_eq_true, List.all_eq_true] at ok
  obtain ⟨⟨o1, o2⟩, o3⟩ := ok
  refine ⟨fun b hb => ⟨(o1 b hb).1, of_decide_eq_true (o1 b hb).2⟩, fun x hx y hy => ?_, ?_⟩
  · obtain ⟨b, hb, rfl⟩ := List.mem_map.mp hx
    obtain ⟨b', hb', rfl⟩ := List.mem_map.mp hy
    exact o2 b hb b' hb'
  · rcases Bool.or_eq_true_iff.mp o3 with o3 | o3
    · refine .inl fun x hx => ?_
      obtain ⟨b, hb, rfl⟩ := List.mem_map.mp hx
      have := List.all_eq_true.mp o3 b hb
      cases b with
      | tup l => cases l with
        | nil => cases this
        | cons x l => exact ⟨_, _, rfl⟩
      | _ => cases this
    · refine .inr fun x hx => ?_
      obtain ⟨b, hb, rfl⟩ := List.mem_map.mp hx
      have := List.all_eq_true.mp o3 b hb
      cases b with
      | tup l => cases this
      | non => cases this
      | _ => exact ⟨(by intro z; cases z), (by intro l z; cases z)⟩
theorem RE.keys {M : Mw} {H : Hp} : ∀ {es : List DictEntry} {ks vs : List D} {acc : List Value}, RE M H es ks vs → acc.length = es.length → (∀ (j : Nat) (u : Value), acc[j]? = some u → ∃ e, es[j]? = some e ∧ u = e.key) → ∃ us, Vals us acc ∧ Rps M H us ks
  | _, _, _, [], .nil, _, _ => ⟨[], .nil, .nil⟩
  | _, _, _, _ :: _, .nil, h, _ => by simp at h
  | _, _, _, [], .cons _ _ _ _ _ _, h, _ => by simp at h
  | _, _, _, u :: acc, .cons h1 h2 h3 h4 h5 t, h, hj => by
    obtain ⟨e, e1, e2⟩ := hj 0 u rfl
    simp at e1
    subst e1 e2
    obtain ⟨us, g1, g2⟩ := RE.keys t (by simpa using h) fun j w hw => by
      obtain ⟨e, a, b⟩ := hj (j + 1) w (by simpa using hw)
      exact ⟨e, by simpa using a, b⟩
    exact ⟨_ :: us, .cons h2 g1, .cons h3 g2⟩
theorem DOb.raw {H1 H : Hp} {pins : List (Addr × Obj)} {s : Shared} {σ : L2.St} {a : Addr} {o : Obj} {ks vs : List D} (I : Inv X pins σ H s) (e : H a = some (DX a o)) (d : DOb (mw X cl) H1 a o ks vs) :
    ∃ es ep, s.heap.DictRaw a es ep ∧ RE (mw X cl) H1 es.toList ks vs ∧ es.size = ks.length := by
  obtain ⟨_, h2, ⟨es, ep, h3, h4⟩, h5, h6⟩ := d
  refine ⟨es, ep, ⟨o, dx_get I e, h2, h3⟩, h4, ?_⟩
  have : ∀ {l : List DictEntry} {ks vs : List D}, RE (mw X cl) H1 l ks vs → l.length = ks.length := by
    intro l
    induction l with
    | nil => intro ks vs h; cases h; rfl
    | cons x l ih => intro ks vs h; cases h with | cons _ _ _ _ _ t => simp [ih t]
  rw [← Array.length_toList]; exact this h4
theorem items_key {es : Array DictEntry} {acc : Array Value} (h : PySem.ItemsOf (fun i v => ∃ hi : i < es.size, v = es[i].key) acc es.size) : acc.toList.length = es.toList.length ∧ ∀ (j : Nat) (u : Value), acc.toList[j]? = some u → ∃ e, es.toList[j]? = some e ∧ u = e.key := by
  refine ⟨by rw [Array.length_toList, Array.length_toList]; exact h.1, fun j u hu => ?_⟩
  obtain ⟨hi, e⟩ := h.2 j u (by rw [← Array.getElem?_toList]; exact hu)
  exact ⟨es[j], by rw [Array.getElem?_toList]; exact Array.getElem?_eq_getElem hi, e⟩
theorem dx_list {H1 H : Hp} {pins : List (Addr × Obj)} {s : Shared} {σ : L2.St} {a : Addr} {o : Obj} {ks vs : List D} {Q : VK} (hh : X.A.handled = none) (I : Inv X pins σ H s) (e : H a = some (DX a o)) (d : DOb (mw X cl) H1 a o ks vs)
    (q : ∀ p us, H p = none → Rps (mw X cl) H1 us ks → Q (.ref p) (upd H p (.lst us))) : wpAny (model X.prog X.w) X.A (call (.type "list") [.ref a]) (EP X pins σ Q) X.xe s := by
  obtain ⟨es, ep, hr, he, hn⟩ := d.raw I e
  have z := d.z
  refine PySem.W.kdl_call (KdlSrc.rawDict d.sys) hh hr (by rw [hn]; exact z) fun h' tk acc c hk hS hacc => ?_
  obtain ⟨g1, g2⟩ := items_key hacc
  obtain ⟨us, r1, r2⟩ := he.keys g1 g2
  have hz : us.length ≤ sizeLine := by rw [r2.length]; exact z
  refine ⟨.ref s.heap.objs.size, upd H s.heap.objs.size (.lst us), I.laid (t' := tk) hk (Nat.le_refl _) ⟨hz, acc.toList, c, r1, ?_⟩, rfl, q _ _ (I.hok.fresh (Nat.le_refl _)) r2⟩
  first | (rw [Array.toArray_toList]; exact hS) | simpa using hS
theorem dx_sorted {k : Nat} (hr : Room k X.A) {H1 H : Hp} {pins : List (Addr × Obj)} {s : Shared} {σ : L2.St} {a : Addr} {o : Obj} {ks vs : List D} {Q : VK} (hh : X.A.handled = none) (I : Inv X pins σ H s) (sub : Same H1 H) (e : H a = some (DX a o)) (d : DOb (mw X cl) H1 a o ks vs) (ok : srtOk ks = true)
    (q : ∀ p us, H p = none → Rps (mw X cl) H1 us (ks.mergeSort (PySem.W.dataLe false D.py)) → Q (.ref p) (upd H p (.lst us))) : wpAny (model X.prog X.w) X.A (call (.builtin "sorted") [.ref a]) (EP X pins σ Q) X.xe s := by
  obtain ⟨es, ep, hw, he, hn⟩ := d.raw I e
  have z := d.z
  obtain ⟨o1, hal, hsr⟩ := srtOk_parts ok
  refine PySem.Calls.call_function_entry PyProof.Rows.kind_sorted PyProof.Rows.plain_sorted PyProof.Rows.entry_sorted (PyProof.Rows.args_sorted1 _) ?_
  unfold Builtin.«sorted»
  refine wpAny_bind (m := checkCount "sorted" 1 1 _) (wpAny_pure ?_)
  refine wpAny_bind (PySem.W.kdu_collect (A := X.A.in1) (KdlSrc.rawDict d.sys) hh hw (by rw [hn]; exact z) fun h' tk acc hk hacc => ?_)
  obtain ⟨g1, g2⟩ := items_key hacc
  obtain ⟨us, r1, r2⟩ := he.keys g1 g2
  have I1 : Inv X pins σ H { s with heap := h', toks := tk } := I.kept hk
  have hlen : acc.toList.length = ks.length := by rw [g1, Array.length_toList]; exact hn
  refine wpAny_bind (wpAny_newList ?_ (by rw [hlen]; exact z))
  have hoL : (h'.push (PyProof.Rows.seqObj "list" acc.toList.toArray 0)).get? h'.objs.size = some (PyProof.Rows.seqObj "list" acc.toList.toArray 0) := Heap.get?_push_size _ rfl
  show wpAny _ _ _ _ _ { s with heap := h'.push (PyProof.Rows.seqObj "list" acc.toList.toArray 0), toks := tk }
  have e1 := each_of r1 r2
  have e2 : PySem.W.EachIs (fun v b => ∃ as, PySem.Reads h' v (D.py b) as) acc.toList ks := each_reads sub I1 r1 r2 fun b hb => (o1 b hb).1
  have e3 : PySem.W.EachIs (fun v b => ∃ as, PySem.Reads (h'.push (PyProof.Rows.seqObj "list" acc.toList.toArray 0)) v (D.py b) as ∧ h'.objs.size ∉ as) acc.toList ks := e2.mono fun v b ⟨as, r⟩ => ⟨as, PyProof.Rows.Reads.keeps (fun b o e => Heap.get?_push_of_some _ e) r, fun hm => by
    obtain ⟨o, ho⟩ := PyProof.On.reads_mem_get r _ hm
    exact absurd (Heap.lt_size ho) (Nat.lt_irrefl _)⟩
  refine wpAny_bind (wpAny_holding (PySem.W.list_sort_data (s := { s with heap := h'.push (PyProof.Rows.seqObj "list" acc.toList.toArray 0), toks := tk }) (enc := D.py) hoL e1 e3 hal hsr z (fun b hb => ?_) fun out ho er => ?_))
  · have h2 := (o1 b hb).2
    have := hr.units
    show X.A.units + 1 + 1 + b.py.depth < cLine
    omega
  · obtain ⟨ws, w1, w2⟩ := of_each er
    obtain ⟨c', hc'⟩ := PyProof.Rows.sortedHeap_at (vs := acc.toList) (out := out.toArray) hoL
    have zl : ws.length ≤ sizeLine := by rw [w2.length, List.length_mergeSort]; exact z
    refine wpAny_pure ⟨_, rfl, .ref h'.objs.size, upd H h'.objs.size (.lst ws), I1.laid (t' := tk) (fun b u e => ?_) (Nat.le_refl _) ⟨zl, out, c', w1, hc'⟩, rfl, q _ _ (I1.hok.fresh (Nat.le_refl _)) w2⟩
    have hb : b < h'.objs.size := Heap.lt_size e
    show (PyProof.Rows.sortedHeap _ _ _ _).get? b = some u
    rw [PyProof.Rows.sortedHeap_old (Nat.ne_of_lt hb) (by rw [PyProof.Rows.size_push']; exact Nat.lt_succ_of_lt hb)]
    exact Heap.get?_push_of_some _ e
theorem call_blt (hc : X.calm = true) {k : Nat} (hr : Room k X.A) (f : Bi) : CallR X f.val (rBlt (mw X cl) f) := by
  intro pins s σ H xs us Q I r h
  obtain ⟨H1, ds, sh, d, sub, rs, e, q⟩ := h
  have mz : mostLen = sizeLine := by rw [sizeLine_eq]; rfl
  cases f with
  | len =>
    cases rs with
    | cons r1 rt =>
      cases rt with
      | nil =>
        cases r1 with
        | lst hl z r' => cases e; exact call_len pins s σ H _ us Q I r ⟨_, _, rfl, .inl ⟨_, SqL.of (sub _ _ hl), rfl⟩, by rw [r'.length]; exact q _ _ _ _ (.int sub)⟩
        | str x => simp only [blt] at e; split at e <;> first | (cases e; done) | (rename_i hz; rw [mz] at hz; cases e; exact call_len pins s σ H _ us Q I r ⟨_, _, rfl, ⟨hz, rfl⟩, q _ _ _ _ (.int sub)⟩)
        | dct hd h1 h2 h3 h4 h5 h6 =>
          simp only [blt] at e
          split at e
          · rename_i hk
            cases e
            cases r with
            | cons r1 rt =>
              cases rt
              cases r1
              exact dx_len I sub (sub _ _ hd) ⟨h1, h2, ⟨_, _, h3, h4⟩, h5, h6⟩ hk fun t s' I' => ⟨.int _, H, I', ⟨t, rfl⟩, q _ _ _ _ (.int sub)⟩
          · cases e
        | tup hl z r' => cases e; exact call_len pins s σ H _ us Q I r ⟨_, _, rfl, .inr ⟨_, same_seqT sub hl, rfl⟩, by rw [r'.length]; exact q _ _ _ _ (.int sub)⟩
        | _ => cases e
      | cons _ _ => cases r1 <;> cases e
    | nil => cases e
  | int =>
    cases rs with
    | cons r1 rt =>
      cases rt with
      | nil =>
        cases r1 with
        | int i => cases e; exact call_int1 pins s σ H _ us Q I r (.inl ⟨_, rfl, q _ _ _ _ (.int sub)⟩)
        | bl i => cases e; exact call_int1 pins s σ H _ us Q I r (.inr ⟨_, rfl, q _ _ _ _ (.int sub)⟩)
        | _ => cases e
      | cons _ _ => cases r1 <;> cases e
    | nil => cases e
  | abs =>
    cases rs with
    | cons r1 rt =>
      cases rt with
      | nil =>
        cases r1 with
        | int i => cases e; exact call_abs pins s σ H _ us Q I r ⟨_, rfl, q _ _ _ _ (.int sub)⟩
        | _ => cases e
      | cons _ _ => cases r1 <;> cases e
    | nil => cases e
  | min =>
    cases rs with
    | cons r1 rt =>
      cases rt with
      | nil =>
        cases r1 with
        | lst hl z r' =>
          simp only [blt] at e
          split at e
          · rename_i n ns en
            cases e
            have ev := r'.intsOf en
            refine cr_min hc pins s σ H _ us Q I r ⟨_, n :: ns, rfl, SqL.of (sub _ _ (ev ▸ hl)), by simp, fun m hm hle => ?_⟩
            rw [fold_min hm hle] at q
            exact q _ _ _ _ (.int sub)
          · cases e
        | _ => cases e
      | cons r2 rt =>
        cases rt with
        | nil => cases r1 <;> cases r2 <;> first | (cases e; done) | (cases e; exact call_min2 hc pins s σ H _ us Q I r ⟨_, _, rfl, q _ _ _ _ (.int sub)⟩)
        | cons _ _ => cases r1 <;> cases r2 <;> cases e
    | nil => cases e
  | max =>
    cases rs with
    | cons r1 rt =>
      cases rt with
      | nil =>
        cases r1 with
        | lst hl z r' =>
          simp only [blt] at e
          split at e
          · rename_i n ns en
            cases e
            have ev := r'.intsOf en
            refine cr_max hc pins s σ H _ us Q I r ⟨_, n :: ns, rfl, SqL.of (sub _ _ (ev ▸ hl)), by simp, fun m hm hle => ?_⟩
            rw [fold_max hm hle] at q
            exact q _ _ _ _ (.int sub)
          · cases e
        | _ => cases e
      | cons r2 rt =>
        cases rt with
        | nil => cases r1 <;> cases r2 <;> first | (cases e; done) | (cases e; exact call_max2 hc pins s σ H _ us Q I r ⟨_, _, rfl, q _ _ _ _ (.int sub)⟩)
        | cons _ _ => cases r1 <;> cases r2 <;> cases e
    | nil => cases e
  | list =>
    cases rs with
    | cons r1 rt =>
      cases rt with
      | nil =>
        cases r1 with
        | lst hl z r' => cases e; exact call_list_of pins s σ H _ us Q I r ⟨_, _, rfl, .inl (SqL.of (sub _ _ hl)), fun p hp => q _ _ _ _ (.lst sub hp r' z)⟩
        | tup hl z r' => cases e; exact call_list_of pins s σ H _ us Q I r ⟨_, _, rfl, .inr (same_seqT sub hl), fun p hp => q _ _ _ _ (.lst sub hp r' z)⟩
        | dct hd h1 h2 h3 h4 h5 h6 =>
          cases e
          cases r with
          | cons r1 rt =>
            cases rt
            cases r1
            exact dx_list (I.ok.hd hc) I (sub _ _ hd) ⟨h1, h2, ⟨_, _, h3, h4⟩, h5, h6⟩ fun p us hp r' => q _ _ _ _ (.lst sub hp r' h6)
        | _ => cases e
      | cons _ _ => cases r1 <;> cases e
    | nil => cases e
  | tuple =>
    cases rs with
    | cons r1 rt =>
      cases rt with
      | nil =>
        cases r1 with
        | lst hl z r' => cases e; exact call_tuple_of pins s σ H _ us Q I r ⟨_, _, rfl, .inl ⟨SqL.of (sub _ _ hl), fun p hp => q _ _ _ _ (.tup sub hp r' z)⟩⟩
        | tup hl z r' => cases e; exact call_tuple_of pins s σ H _ us Q I r ⟨_, _, rfl, .inr ⟨same_seqT sub hl, q _ _ _ _ (.old sub (.tup hl z r'))⟩⟩
        | _ => cases e
      | cons _ _ => cases r1 <;> cases e
    | nil => cases e
  | all =>
    cases rs with
    | cons r1 rt =>
      cases rt with
      | nil =>
        cases r1 with
        | @lst a vs ds' hl z r' =>
          simp only [blt] at e
          cases qb : boolsOf ds' with
          | none => rw [qb] at e; cases e
          | some bs =>
            rw [qb] at e; cases e
            have ev := r'.boolsOf qb
            subst ev
            exact cr_all hc pins s σ H _ us Q I r ⟨_, bs, rfl, SqL.of (sub _ _ hl), q _ _ _ _ (.bl sub)⟩
        | _ => cases e
      | cons _ _ => cases r1 <;> cases e
    | nil => cases e
  | any =>
    cases rs with
    | cons r1 rt =>
      cases rt with
      | nil =>
        cases r1 with
        | @lst a vs ds' hl z r' =>
          simp only [blt] at e
          cases qb : boolsOf ds' with
          | none => rw [qb] at e; cases e
          | some bs =>
            rw [qb] at e; cases e
            have ev := r'.boolsOf qb
            subst ev
            exact cr_any hc pins s σ H _ us Q I r ⟨_, bs, rfl, SqL.of (sub _ _ hl), q _ _ _ _ (.bl sub)⟩
        | _ => cases e
      | cons _ _ => cases r1 <;> cases e
    | nil => cases e
  | sum =>
    cases rs with
    | cons r1 rt =>
      cases rt with
      | nil =>
        cases r1 with
        | @lst a vs ds' hl z r' =>
          simp only [blt] at e
          cases qb : intsOf ds' with
          | none => rw [qb] at e; cases e
          | some bs =>
            rw [qb] at e; cases e
            have ev := r'.intsOf qb
            subst ev
            exact cr_sum hc pins s σ H _ us Q I r ⟨_, bs, rfl, SqL.of (sub _ _ hl), q _ _ _ _ (.int sub)⟩
        | _ => cases e
      | cons _ _ => cases r1 <;> cases e
    | nil => cases e
  | sorted =>
    cases rs with
    | cons r1 rt =>
      cases rt with
      | nil =>
        cases r1 with
        | @lst a vs ds' hl z r' =>
          simp only [blt] at e
          exact srt_ok hr sub (sub _ _ hl) z r' e I r q
        | dct hd h1 h2 h3 h4 h5 h6 =>
          simp only [blt] at e
          split at e
          · rename_i ok
            cases e
            cases r with
            | cons r1 rt =>
              cases rt
              cases r1
              exact dx_sorted hr (I.ok.hd hc) I sub (sub _ _ hd) ⟨h1, h2, ⟨_, _, h3, h4⟩, h5, h6⟩ ok fun p us hp r' => q _ _ _ _ (.lst sub hp r' (by rw [List.length_mergeSort]; exact h6))
          · cases e
        | _ => cases e
      | cons _ _ => cases r1 <;> cases e
    | nil => cases e
  | dict =>
    cases rs with
    | cons r1 rt =>
      cases rt with
      | nil =>
        cases r1 with
        | @lst a vs ds' hl z r' =>
          simp only [blt] at e
          split at e
          · rename_i ps eps
            split at e
            · rename_i hk
              cases e
              cases r with
              | cons r1 rt =>
                cases rt
                cases r1
                rcases Bool.or_eq_true_iff.mp hk with hk | hk
                · exact dx_pairs (I.ok.hd hc) I sub (SqL.of (sub _ _ hl)) r' eps hk fun p o' s' hp dd I' => ⟨.ref p, _, I', rfl, q _ _ _ _ (.dct sub hp dd)⟩
                · exact dx_pairsH (I.ok.hd hc) (by have := hr.units; omega) I sub (SqL.of (sub _ _ hl)) r' eps hk fun p o' s' hp dd I' => ⟨.ref p, _, I', rfl, q _ _ _ _ (.dct sub hp dd)⟩
            · cases e
          · cases e
        | dct hd h1 h2 h3 h4 h5 h6 =>
          simp only [blt] at e
          split at e
          · rename_i hk
            cases e
            cases r with
            | cons r1 rt =>
              cases rt
              cases r1
              exact dx_copy I (sub _ _ hd) ⟨h1, h2, ⟨_, _, h3, h4⟩, h5, h6⟩ hk fun p o' s' hp dd I' => ⟨.ref p, _, I', rfl, q _ _ _ _ (.dct sub hp dd)⟩
          · cases e
        | _ => cases e
      | cons _ _ => cases r1 <;> cases e
    | nil => cases e
end
end Q

set_option Elab.async false
set_option linter.all false
set_option maxRecDepth 100000
set_option maxHeartbeats 4000000
/-! Q6v: t[::2] of a tuple of three. -/
namespace Q
open PySem L2
theorem sliceApplied2 {prog : Program} {w : World} {A : Around} {E : Value → Shared → Prop} {s : Shared} {sl : Addr} {k : Tok} {Q : Int × Int × Nat → Shared → Prop} (hs : s.heap.IsSliceOf sl .none .none (.int 2 k))
   (h : Q (0, 2, 2) s) : wpAny (model prog w) A (Builtin.Slice.sliceApplied (.ref sl) (pure ((3 : Nat) : Int))) Q E s := by
  obtain ⟨os, hos, hcs, hds⟩ := id hs
  unfold Builtin.Slice.sliceApplied
  refine wpAny_bind ?_
  refine wpAny_bind (wpAny_field hos hds rfl (wpAny_bind (wpAny_field hos hds rfl (wpAny_bind (wpAny_field hos hds rfl (wpAny_pure ?_))))))
  refine wpAny_bind (PyProof.Rows.slicePart_int ?_)
  dsimp only [Option.getD]
  rw [if_neg (by decide)]
  refine wpAny_bind (PyProof.Rows.slicePart_none ?_)
  refine wpAny_bind (PyProof.Rows.slicePart_none ?_)
  refine wpAny_bind (wpAny_pure ?_)
  exact wpAny_pure h
theorem getItem_tup2 {prog : Program} {w : World} {A : Around} {E : Value → Shared → Prop} {s : Shared} {t sl : Addr} {a b c : Value} {k : Tok} {Q : Value → Shared → Prop} (ht : PyProof.Rows.IsTup s.heap t #[a, b, c]) (hs : s.heap.IsSliceOf sl .none .none (.int 2 k))
   (h : Q (.ref s.heap.objs.size) { s with heap := s.heap.push { cls := .type "tuple", data := .seq #[a, c] } }) : wpAny (model prog w) A (getItem (.ref t) (.ref sl)) Q E s := by
  obtain ⟨os, hos, hcs, hds⟩ := id hs
  have hTs : s.TypeIs (.ref sl) "slice" := ⟨os, hos, hcs⟩
  refine wpAny_holding (wpAny_bind (wpAny_sequenceKey ht.typeIs (by decide) (wpAny_bind (wpAny_callSpecial?_slot ht.typeIs PyProof.Rows.slot_tuple_getitem (wpAny_call_entry PyProof.Rows.slot_tuple_getitem ht.typeIs PyProof.Rows.entry_tuple_getitem (wpAny_bind (show wpAny (model prog w) A.in1 (pure (Value.ref t, [Value.ref sl])) _ E s from wpAny_pure ?_)))))))
  refine wpAny_bind (PyProof.Rows.tupleItemsOf_ ht (wpAny_bind (wpAny_typeOf hTs ?_)))
  rw [if_pos (by decide)]
  refine wpAny_bind (sliceApplied2 hs ?_)
  dsimp only
  rw [if_neg (by simp)]
  refine wpAny_bind (wpAny_newObj_type (wpAny_pure ⟨_, rfl, wpAny_pure h⟩) ?_)
  show ([a, c] : List Value).toArray.size ≤ sizeLine
  show 2 ≤ sizeLine
  decide
/-- t[::2] -/
def tSt2 (K : PySem.W.Frag) (te : TE) : TE := fun σ H Q => te σ H fun x H1 => ∃ a x0 x1 x2, x = .ref a ∧ SqT K H1 a [x0, x1, x2] ∧ ∀ p, H1 p = none → Q (.ref p) (upd H1 p (.tup [x0, x2]))
theorem pe_st2 {X : Cx} {e : Expr} {te : TE} {k : Nat} {p1 p3 pos : Pos} (he : PE X e te) : PE X (.Subscript e (.Slice none none (some (.Constant (.int 2) k p1)) p3) pos) (tSt2 X.K te) := ⟨fun pins s σ H Q I h => by
  refine PyProof.Rows.Subscript_ (thn (he.run pins s σ H _ I h) fun v s1 ⟨x, H1, I1, r1, a, x0, x1, x2, ex, hx, q⟩ => ?_)
  subst ex
  cases (show v = Value.ref a from r1)
  refine wpAny_Slice (thn (po_none.run pins s1 σ H1 (fun o H2 => o = none ∧ H2 = H1) I1 ⟨rfl, rfl⟩) fun vl s2 ⟨l, H2, I2, pl, el, e2⟩ => ?_)
  subst el e2
  refine thn (po_none.run pins s2 σ H2 (fun o H3 => o = none ∧ H3 = H2) I2 ⟨rfl, rfl⟩) fun vu s3 ⟨u, H3, I3, pu, eu, e3⟩ => ?_
  subst eu e3
  refine thn ((po_some pe_int).run pins s3 σ H3 (fun o H4 => o = some 2 ∧ H4 = H3) I3 ⟨2, rfl, rfl, rfl⟩) fun vs s4 ⟨o, H4, I4, ps, eo, e4⟩ => ?_
  subst eo e4
  have I5 := I4.kept (t' := s4.toks) (h' := s4.heap.push { cls := .type "slice", data := .fields #[vl, vu, vs] }) fun b ob q => Heap.get?_push_of_some _ q
  cases pl
  cases pu
  cases ps with
  | int i t =>
    obtain ⟨its, rv, ht, hz⟩ := I5.tuple hx
    cases rv with
    | cons r0 rv =>
      cases rv with
      | cons r1 rv =>
        cases rv with
        | cons r2 rv =>
          cases rv
          refine PyProof.Rows.tail_any ht.typeIs PyProof.Rows.slot_tuple_getitem.lookup (getItem_tup2 ht (Heap.IsSliceOf.new s4.heap _ _ _) ?_) rfl
          refine ⟨.ref _, upd H4 _ (.tup [x0, x2]), ?_, rfl, q _ (I5.hok.fresh (Nat.le_refl _))⟩
          exact I5.laid (fun b ob q => Heap.get?_push_of_some _ q) (Nat.le_refl _) ⟨(show 2 ≤ sizeLine by decide), [_, _], .cons r0 (.cons r2 .nil), PyProof.Rows.IsTup.new _ _⟩⟩
end Q

set_option Elab.async false
set_option linter.all false
set_option maxRecDepth 100000
set_option maxHeartbeats 8000000
/-! QS: sets of ints and texts, made of a list or a tuple and read once. -/
namespace Q
open PySem L2
def kv : Value → L2.Key
  | .int i _ => .inl i
  | .str x _ => .inr x
  | _ => .inl 0
theorem kv_is {k : L2.Key} {u : Value} (h : keyIs k u = true) : kv u = k ∧ u.scannable = true := by
  rcases keyIs_shape h with ⟨i, t, rfl, rfl⟩ | ⟨x, t, rfl, rfl⟩ <;> exact ⟨rfl, rfl⟩
abbrev kvs (l : List (Int × Value)) : List L2.Key := l.map fun e => kv e.2
section
variable {P : Program} {w : World} {A : Around} {E : Value → Shared → Prop} {s : Shared} {a : Addr}
/-- what a set's object is to tell: its keys; its table can be walked -/
structure KT (P : Program) (w : World) (es : Array (Int × Value)) (t : SetTable) (S : L2.Key → Prop) (m : Nat) : Prop where
  els : ElemsOf (mixKind P w) es.toList
  nd : (kvs es.toList).Nodup
  mem : ∀ k, S k ↔ k ∈ kvs es.toList
  few : es.size ≤ m
  top : m < scanBound
  fit : t.fits es.size = true
  ris : Ris t.place.toList
  led : w.params.followText "set-order" = true ∨ t.led = true
def KS (P : Program) (w : World) (h : Heap) (a : Addr) (S : L2.Key → Prop) (m : Nat) : Prop := ∃ o es ep t, (h.get? a = some o ∧ o.ExactSet) ∧ o.data = .set es ep t ∧ KT P w es t S m
theorem KS.at {h h' : Heap} {S : L2.Key → Prop} {m : Nat} (R : KS P w h a S m) (k : ∀ o, h.get? a = some o → h'.get? a = some o) : KS P w h' a S m := by
  obtain ⟨o, es, ep, t, ⟨g1, g2⟩, r⟩ := R
  exact ⟨o, es, ep, t, ⟨k o g1, g2⟩, r⟩
theorem KS.congr {h : Heap} {S S' : L2.Key → Prop} {m : Nat} (R : KS P w h a S m) (e : ∀ k, S' k ↔ S k) : KS P w h a S' m := by
  obtain ⟨o, es, ep, t, g, d, r⟩ := R
  exact ⟨o, es, ep, t, g, d, ⟨r.els, r.nd, fun k => (e k).trans (r.mem k), r.few, r.top, r.fit, r.ris, r.led⟩⟩
theorem el_kv {l : List (Int × Value)} (h : ElemsOf (mixKind P w) l) {e : Int × Value} (he : e ∈ l) (k : L2.Key) : (mixKind P w).is k e.2 = true ↔ kv e.2 = k := by
  obtain ⟨⟨k0, g, _⟩, _⟩ := h e he
  have g0 := (kv_is (show keyIs k0 e.2 = true from g)).1
  exact ⟨fun z => (kv_is (show keyIs k e.2 = true from z)).1, fun z => by rw [← z, g0]; exact g⟩
theorem mem_kvs {l : List (Int × Value)} (h : ElemsOf (mixKind P w) l) (k : L2.Key) : k ∈ kvs l ↔ ∃ e ∈ l, (mixKind P w).is k e.2 = true := by
  simp only [kvs, List.mem_map]
  exact ⟨fun ⟨e, he, z⟩ => ⟨e, he, (el_kv h he k).mpr z⟩, fun ⟨e, he, z⟩ => ⟨e, he, (el_kv h he k).mp z⟩⟩
/-- other entries in the same order of things -/
theorem KT.perm {es es2 : Array (Int × Value)} {t t2 : SetTable} {S : L2.Key → Prop} {m : Nat} (r : KT P w es t S m) (pm : es2.toList.Perm es.toList) (f2 : t2.fits es2.size = true) (r2 : Ris t2.place.toList) (l2 : t2.led = t.led) : KT P w es2 t2 S m :=
  ⟨fun e he => r.els e (pm.mem_iff.mp he), (pm.map _).nodup_iff.mpr r.nd, fun k => (r.mem k).trans (pm.map _).mem_iff.symm, by rw [← Array.length_toList, pm.length_eq, Array.length_toList]; exact r.few, r.top, f2, r2, r.led.imp id fun z => by rw [l2]; exact z⟩
theorem put_obj {h : Heap} {o : Obj} {es es' : Array (Int × Value)} {ep : Nat} {t t' : SetTable} (ho : h.get? a = some o) (hd : o.data = .set es ep t) : (h.update a (Obj.putSet es' t')).get? a = some { o with data := .set es' (ep + 1) t' } := L2.store_at ho hd
theorem ks_tail {g : Bool → Sem Unit} (hg : ∀ (b : Bool) (s1 : Shared) (Q' : Unit → Shared → Prop), Q' () s1 → wpAny (model P w) A (g b) Q' E s1) {o : Obj} {es es1 : Array (Int × Value)} {ep m : Nat} {t t2 : SetTable} {S : L2.Key → Prop} {wd : Bool} {R : Option Bool → Shared → Prop}
    (ho : s.heap.get? a = some o) (hx : o.ExactSet) (hd : o.data = .set es ep t) (T : KT P w es1 t2 S m) (hR : ∀ h', Heap.SameBut a s.heap h' → KS P w h' a S m → R (some true) { s with heap := h' }) :
    wpAny (model P w) A (storeSet a es1 t2 >>= fun _ => if (!wd && t2.tooFull) = true then (g (relayAll t2 es1 (SetTable.grown es1.size)).2.2 >>= fun _ => storeSet a (relayAll t2 es1 (SetTable.grown es1.size)).1 (relayAll t2 es1 (SetTable.grown es1.size)).2.1 >>= fun _ => pure (some true)) else pure (some true)) R E s := by
  have b1 : es1.size < scanBound := Nat.lt_of_le_of_lt T.few T.top
  refine wpAny_bind (wpAny_storeSet_of ho hd ?_ (fits_of_scanBound b1))
  have o1 := put_obj (es' := es1) (t' := t2) ho hd
  have sb := Heap.SameBut.update s.heap a (Obj.putSet es1 t2)
  split
  · have T3 := T.perm (relayAll_perm t2 es1 (SetTable.grown es1.size)) (relayAll_fits t2 es1 (SetTable.grown es1.size)) (relayAll_ris t2 es1 (SetTable.grown es1.size)) (relayAll_led t2 es1 (SetTable.grown es1.size))
    generalize relayAll t2 es1 (SetTable.grown es1.size) = Z at T3 ⊢
    obtain ⟨es2, t3, gv⟩ := Z
    refine wpAny_bind (hg _ _ _ (wpAny_bind (wpAny_storeSet_of o1 rfl ?_ (fits_of_scanBound (Nat.lt_of_le_of_lt T3.few T3.top)))))
    exact wpAny_pure (hR _ (sb.trans (Heap.SameBut.update _ a _)) ⟨_, es2, _, t3, ⟨put_obj o1 rfl, hx⟩, rfl, T3⟩)
  · exact wpAny_pure (hR _ sb ⟨_, es1, _, t2, ⟨o1, hx⟩, rfl, T⟩)
theorem ks_put {k : L2.Key} {u : Value} {S : L2.Key → Prop} {m : Nat} {Q : Bool → Shared → Prop} (ku : keyIs k u = true) (R : KS P w s.heap a S m) (hm : m + 1 < scanBound)
    (hQ : ∀ b h', Heap.SameBut a s.heap h' → KS P w h' a (fun j => S j ∨ j = k) (m + 1) → Q b { s with heap := h' }) : wpAny (model P w) A (setAddHashed a u ((mixKind P w).hash k)) Q E s := by
  obtain ⟨o, es, ep, t, ⟨ho, hx⟩, hd, T⟩ := R
  have hkey : (mixKind P w).is k u = true := ku
  obtain ⟨hv, hsc⟩ := kv_is ku
  unfold setAddHashed setAddHashedIn
  refine wpAny_holding (wpAny_bind (wpAny_setState_of ho hd T.fit ?_)); dsimp only
  rw [byScan_of hsc (Nat.lt_of_le_of_lt T.few T.top) T.els]; simp only [↓reduceIte]
  unfold setAddByScan
  refine wpAny_bind (wpAny_bind (wpAny_rule (wpAny_bind (wpAny_setScan_of hkey ho hd T.fit T.els ?_))))
  cases hfi : List.findIdx? (fun e => (mixKind P w).is k e.2) es.toList with
  | some j =>
    dsimp only
    obtain ⟨hj, pj, _⟩ := List.findIdx?_eq_some_iff_getElem.mp hfi
    have hin : k ∈ kvs es.toList := (mem_kvs T.els k).mpr ⟨_, List.getElem_mem hj, pj⟩
    refine wpAny_pure (wpAny_pure (hQ _ s.heap (Heap.SameBut.refl a s.heap) ⟨o, es, ep, t, ⟨ho, hx⟩, hd, ⟨T.els, T.nd, fun i => ?_, Nat.le_succ_of_le T.few, hm, T.fit, T.ris, T.led⟩⟩))
    exact ⟨fun z => z.elim (T.mem i).mp (fun e => e ▸ hin), fun z => .inl ((T.mem i).mpr z)⟩
  | none =>
    dsimp only
    have hno : k ∉ kvs es.toList := fun z => by
      obtain ⟨e, he, q⟩ := (mem_kvs T.els k).mp z
      have c := List.findIdx?_eq_none_iff.mp hfi e he
      rw [q] at c; cases c
    have quiet : ∀ (b : Bool) (s1 : Shared) (Q' : Unit → Shared → Prop), Q' () s1 → wpAny (model P w) A (match b with | true => rule "set.scan.the-table-gave-way" | false => pure ()) Q' E s1 := fun b s1 Q' q => by
      cases b <;> first | exact wpAny_pure q | exact wpAny_rule q
    have p1 := layNew_perm t es ((mixKind P w).hash k) u
    have p2 := layNew_fits t es ((mixKind P w).hash k) u
    have p3 := layNew_ris t es ((mixKind P w).hash k) u T.ris
    have p4 := layNew_led t es ((mixKind P w).hash k) u
    generalize layNew t es ((mixKind P w).hash k) u = Z at p1 p2 p3 p4 ⊢
    obtain ⟨es1, t1, wd, gv⟩ := Z
    dsimp only at p1 p2 p3 p4 ⊢
    rw [Array.toList_push] at p1
    have pc : es1.toList.Perm (((mixKind P w).hash k, u) :: es.toList) := p1.trans (List.perm_append_singleton _ _)
    have pk : (kvs es1.toList).Perm (k :: kvs es.toList) := by
      have := pc.map fun e => kv e.2
      rw [List.map_cons, hv] at this
      exact this
    have T1 : ∀ t2 : SetTable, t2.fits es1.size = true → Ris t2.place.toList → t2.led = t.led → KT P w es1 t2 (fun j => S j ∨ j = k) (m + 1) := fun t2 f2 r2 l2 =>
      ⟨fun e he => by
        rcases List.mem_cons.mp (pc.mem_iff.mp he) with z | z
        · rw [z]; exact ⟨⟨k, hkey, rfl⟩, hsc⟩
        · exact T.els e z,
       pk.nodup_iff.mpr (List.nodup_cons.mpr ⟨hno, T.nd⟩),
       fun i => by rw [pk.mem_iff, List.mem_cons, ← T.mem i]; exact Or.comm,
       by rw [← Array.length_toList, pc.length_eq, List.length_cons, Array.length_toList]; exact Nat.succ_le_succ T.few,
       hm, f2, r2, T.led.imp id fun z => by rw [l2]; exact z⟩
    refine wpAny_bind (quiet _ _ _ ?_)
    split
    · refine wpAny_bind ?_
      rw [hashByValue_scannable 8 hsc]
      refine wpAny_pure (ks_tail (fun b s1 Q' q => ?_) ho hx hd (T1 _ ?_ ?_ ?_) fun h' sb r => wpAny_pure (hQ _ h' sb r))
      · cases b <;> first | exact wpAny_pure q | exact wpAny_rule q
      · first | (split <;> first | exact p2 | exact SetTable.fits_plain_off p2) | exact p2
      · first | (split <;> exact p3) | exact p3
      · first | (split <;> exact p4) | exact p4
    · refine wpAny_bind (wpAny_pure ?_)
      simp only [↓reduceIte]
      refine ks_tail (fun b s1 Q' q => ?_) ho hx hd (T1 _ p2 p3 p4) fun h' sb r => wpAny_pure (hQ _ h' sb r)
      cases b <;> first | exact wpAny_pure q | exact wpAny_rule q
/-- the entries of what is walked go into the set -/
theorem ks_loop {I : Addr} {fp wr : List Addr} {G : Array GenState → Array GenState → Prop} {n : Nat} {Pv : Nat → Value → Prop} {St : Nat → Shared → Prop} {R : Result → Shared → Prop} (W : WalksS P w A.in1 I fp wr G n Pv St) (hSf : a ∉ fp) {ks : List L2.Key} (hn : n = ks.length) (hb : n + 1 < scanBound) (hval : ∀ i v, Pv i v → ∃ k, ks[i]? = some k ∧ keyIs k v = true) :
    ∀ (j i : Nat) (s : Shared), n - i = j → i ≤ n → St i s → KS P w s.heap a (fun k => k ∈ ks.take i) i → (∀ s', Moved (a :: wr) G s s' → KS P w s'.heap a (fun k => k ∈ ks) n → R (.ok (.ret .none)) s') → codeAny (model P w) A (.builtin "set.update.loop" ⟨[.ref a, .ref I], []⟩) R s := by
  have hw : a ∉ wr := fun h => hSf (W.sub _ h)
  have up : ∀ b ∈ wr, b ∈ a :: wr := fun b hb => List.mem_cons_of_mem _ hb
  intro j
  induction j with
  | zero =>
    intro i s e1 e2 hst hS hR
    have hin : i = n := by omega
    subst hin
    refine codeAny_builtin PyProof.Rows.F.entry_set_update_loop ?_
    rw [Around.under_plainId PyProof.Rows.F.plain_set_update_loop _]
    show wpAny (model P w) A.in1 (pyNext (.ref I) >>= _) _ _ s
    refine wpAny_bind (W.done s _ _ hst fun s' mv => ?_)
    show wpAny (model P w) A.in1 (ret Value.none) _ _ s'
    rw [hn, List.take_length] at hS
    exact wpAny_pure (hR s' (mv.mono up) ((hn ▸ hS).at fun o e => mv.heap a o hw e))
  | succ j ih =>
    intro i s e1 e2 hst hS hR
    have hlt : i < n := by omega
    refine codeAny_builtin PyProof.Rows.F.entry_set_update_loop ?_
    rw [Around.under_plainId PyProof.Rows.F.plain_set_update_loop _]
    show wpAny (model P w) A.in1 (pyNext (.ref I) >>= _) _ _ s
    refine wpAny_bind (W.item i s _ _ hlt hst fun v s' hP hst' mv => ?_)
    obtain ⟨k, hk, hkv⟩ := hval i v hP
    show wpAny (model P w) A.in1 (holding [v] (setAdd a v) >>= _) _ _ s'
    refine wpAny_bind (wpAny_holding ?_)
    unfold setAdd
    refine wpAny_holding (wpAny_bind ((mixKind P w).pyHash (k := k) hkv (ks_put (s := { s' with toks := s'.toks + 1 }) hkv (hS.at fun o e => mv.heap a o hw e) (by omega) fun b h' sb K2 => ?_)))
    have K3 : KS P w h' a (fun j => j ∈ ks.take (i + 1)) (i + 1) := K2.congr fun j => by
      rw [List.take_add_one, hk]; simp
    refine wpAny_pure ⟨plainId_quiet PyProof.Rows.F.plain_set_update_loop _, ih (i + 1) _ (by omega) hlt (W.frame _ s' _ _ hst' (Nat.le_succ _) fun b hb o e => ?_) K3 fun s2 mv2 K4 => ?_⟩
    · rw [sb.2 b (fun h : b = a => hSf (by rw [← h]; exact hb))]; exact e
    · refine hR s2 (Moved.trans W.gtrans ((mv.mono up).then_heap (Nat.le_succ _) fun b o hb e => ?_) mv2) K4
      rw [sb.2 b (fun h : b = a => hb (by rw [h]; exact List.mem_cons_self))]; exact e
abbrev set0 (w : World) : Obj := { cls := .type "set", dict := none, data := .set #[] 0 (.fresh 0 0 (!w.params.followText "set-order")) }
theorem ks_new {h : Heap} {ks : List L2.Key} (ho : h.get? a = some (set0 w)) : KS P w h a (fun k => k ∈ ks.take 0) 0 :=
  ⟨_, #[], 0, _, ⟨ho, ⟨rfl, rfl, rfl⟩⟩, rfl, ⟨(fun e he => by simp at he), by simp, (fun k => by simp), Nat.le_refl _, by decide, by rfl, List.Pairwise.nil, by
    show _ ∨ (!w.params.followText "set-order") = true
    cases w.params.followText "set-order" <;> simp⟩⟩
set_option maxHeartbeats 3200000 in
theorem ks_call_list {l : Addr} {items : Array Value} {ks : List L2.Key} {Q : Value → Shared → Prop} (hh : A.handled = none) (hl : s.heap.IsList l items) (hz : items.size = ks.length) (hk : ∀ (i : Nat) (v : Value), items[i]? = some v → ∃ k, ks[i]? = some k ∧ keyIs k v = true) (hb : ks.length + 1 < scanBound)
    (hQ : ∀ (h' : Heap) (tk : Nat), KS P w h' s.heap.objs.size (fun k => k ∈ ks) ks.length → (∀ b o, s.heap.get? b = some o → h'.get? b = some o) → Q (.ref s.heap.objs.size) { s with heap := h', toks := tk }) : wpAny (model P w) A (call (.type "set") [.ref l]) Q E s := by
  obtain ⟨mc, mt, hmro⟩ := PySem.F.called_set.mro
  have f1 := PySem.F.called_set.made; have f2 := PySem.F.called_set.sub; have f3 := PySem.F.called_set.notType; have f4 := PySem.F.called_set.canCreate
  have f5 := PySem.F.typeCall_set_1 (.ref l)
  refine wpAny_call (codeAny_of_tree ?_)
  show wpAny (model P w) _ (callAny (.type "set") _) _ _ s
  refine wpAny_pure ⟨Code.quiet_builtin _ (by decide +kernel), codeAny_builtin PySem.F.entry_type_call ?_⟩; rw [Around.under_plain (weight_type_call_type "set" [.ref l] []) rfl]
  (repeat (any_goals (first | assumption | wp_step)))
  refine codeAny_mono (L2.code_set_led1 (.ref l) (E := E) (Q₁ := fun obj s1 => obj = .ref s.heap.objs.size ∧ s1 = { s with heap := s.heap.push (set0 w) }) ⟨rfl, rfl⟩) fun r s1 hr => ?_
  cases r with
  | error e => exact hr
  | ok fl =>
    cases fl with
    | ret obj =>
      obtain ⟨rfl, rfl⟩ := hr
      have hS : (s.heap.push (set0 w)).get? s.heap.objs.size = some (set0 w) := Heap.get?_push_size _ rfl
      have hT : Shared.TypeIs { s with heap := s.heap.push (set0 w) } (.ref s.heap.objs.size) "set" := ⟨_, hS, rfl⟩
      have i1 := PySem.F.called_set.init.lookup; have i2 := PySem.F.called_set.init.bind (.ref s.heap.objs.size)
      (repeat (any_goals (first | assumption | wp_step)))
      refine codeAny_mono (codeAny_call_builtin (R := wants (fun r s2 => r = .none ∧ ∃ h' tk, s2 = { s with heap := h', toks := tk } ∧ KS P w h' s.heap.objs.size (fun k => k ∈ ks) ks.length ∧ ∀ b o, s.heap.get? b = some o → h'.get? b = some o) E) PySem.F.called_set.init.plain PySem.F.entry_set_init (PySem.check_set_init_1 hT ?_)) fun r2 s2 hr2 => ?_
      · obtain ⟨ol, hol, hcl, nl, hdl⟩ := hl
        obtain ⟨oc, od, odt, osl⟩ := ol
        simp only at hcl hdl
        subst hcl hdl
        have ho2 : (s.heap.push (set0 w)).get? l = some { cls := .type "list", dict := od, data := .seq items nl, slots := osl } := Heap.get?_push_of_some _ hol
        have j1 := PySem.F.sub_list_set; have j2 := PySem.F.sub_list_frozenset
        have j3 : (Value.type "list" == Value.type "dict") = false := by decide
        have hl1 : (s.heap.push (set0 w)).IsList l items := ⟨_, ho2, rfl, nl, rfl⟩
        unfold Builtin.«set.__init__» noKeywords Builtin.Frozenset.updateFrom
        generalize hpi : pyIter = pI
        wp_walk
        subst hpi
        refine wpAny_pyIter_list hl1 (wpAny_bind (wpAny_runValue ?_))
        have below : l < s.heap.objs.size := Heap.lt_size hol
        have hh3 : A.in1.in1.in1.handled = none := by simp [hh]
        have n1 : l ≠ (s.heap.push (set0 w)).objs.size := by rw [Heap.size_push]; exact Nat.ne_of_lt (Nat.lt_succ_of_lt below)
        have n2 : s.heap.objs.size ∉ [(s.heap.push (set0 w)).objs.size, l] := by
          rw [Heap.size_push]; simp only [List.mem_cons, List.not_mem_nil, or_false, not_or]; exact ⟨Nat.ne_of_lt (Nat.lt_succ_self _), Nat.ne_of_gt below⟩
        refine ks_loop ((Walks.list hh3 _ l n1 items).toS) n2 hz (by rw [hz]; exact hb) hk (items.size - 0) 0 _ (by omega) (Nat.zero_le _) ⟨⟨_, Heap.get?_push_size _ rfl, rfl, rfl⟩, hl1.push _⟩ (ks_new (Heap.get?_push_of_some _ hS)) ?hR
        case hR =>
          intro s3 mv K3
          obtain ⟨h', g3, d3, tk3, os3⟩ := s3
          have eg : g3 = s.gens := mv.gens; have ed : d3 = s.drawn := mv.drawn; have eo : os3 = s.os := mv.os
          subst eg ed eo
          show wpAny _ _ _ _ _ _
          refine wpAny_pure ?_
          show wpAny _ _ (ret Value.none) _ _ _
          rw [hz] at K3
          refine wpAny_pure ⟨rfl, h', tk3, rfl, K3, fun b o e => ?_⟩
          have hb0 : b < s.heap.objs.size := Heap.lt_size e
          refine mv.heap b o ?_ (Heap.get?_push_of_some _ (Heap.get?_push_of_some _ e))
          simp only [List.mem_cons, List.not_mem_nil, or_false, not_or]
          exact ⟨Nat.ne_of_lt hb0, by rw [Heap.size_push]; exact Nat.ne_of_lt (Nat.lt_succ_of_lt hb0)⟩
      · cases r2 with
        | error e => exact hr2
        | ok fl2 =>
          cases fl2 with
          | ret r =>
            obtain ⟨rfl, h', tk, rfl, K3, hk3⟩ := hr2
            (repeat (any_goals (first | assumption | wp_step)))
            exact hQ _ _ K3 hk3
          | _ => exact hr2.elim
    | _ => exact hr.elim
set_option maxHeartbeats 3200000 in
theorem ks_call_tuple {l : Addr} {items : Array Value} {ks : List L2.Key} {Q : Value → Shared → Prop} (hh : A.handled = none) (hl : s.heap.IsTuple l items) (hz : items.size = ks.length) (hk : ∀ (i : Nat) (v : Value), items[i]? = some v → ∃ k, ks[i]? = some k ∧ keyIs k v = true) (hb : ks.length + 1 < scanBound)
    (hQ : ∀ (h' : Heap) (tk : Nat), KS P w h' s.heap.objs.size (fun k => k ∈ ks) ks.length → (∀ b o, s.heap.get? b = some o → h'.get? b = some o) → Q (.ref s.heap.objs.size) { s with heap := h', toks := tk }) : wpAny (model P w) A (call (.type "set") [.ref l]) Q E s := by
  obtain ⟨mc, mt, hmro⟩ := PySem.F.called_set.mro
  have f1 := PySem.F.called_set.made; have f2 := PySem.F.called_set.sub; have f3 := PySem.F.called_set.notType; have f4 := PySem.F.called_set.canCreate
  have f5 := PySem.F.typeCall_set_1 (.ref l)
  refine wpAny_call (codeAny_of_tree ?_)
  show wpAny (model P w) _ (callAny (.type "set") _) _ _ s
  refine wpAny_pure ⟨Code.quiet_builtin _ (by decide +kernel), codeAny_builtin PySem.F.entry_type_call ?_⟩; rw [Around.under_plain (weight_type_call_type "set" [.ref l] []) rfl]
  (repeat (any_goals (first | assumption | wp_step)))
  refine codeAny_mono (L2.code_set_led1 (.ref l) (E := E) (Q₁ := fun obj s1 => obj = .ref s.heap.objs.size ∧ s1 = { s with heap := s.heap.push (set0 w) }) ⟨rfl, rfl⟩) fun r s1 hr => ?_
  cases r with
  | error e => exact hr
  | ok fl =>
    cases fl with
    | ret obj =>
      obtain ⟨rfl, rfl⟩ := hr
      have hS : (s.heap.push (set0 w)).get? s.heap.objs.size = some (set0 w) := Heap.get?_push_size _ rfl
      have hT : Shared.TypeIs { s with heap := s.heap.push (set0 w) } (.ref s.heap.objs.size) "set" := ⟨_, hS, rfl⟩
      have i1 := PySem.F.called_set.init.lookup; have i2 := PySem.F.called_set.init.bind (.ref s.heap.objs.size)
      (repeat (any_goals (first | assumption | wp_step)))
      refine codeAny_mono (codeAny_call_builtin (R := wants (fun r s2 => r = .none ∧ ∃ h' tk, s2 = { s with heap := h', toks := tk } ∧ KS P w h' s.heap.objs.size (fun k => k ∈ ks) ks.length ∧ ∀ b o, s.heap.get? b = some o → h'.get? b = some o) E) PySem.F.called_set.init.plain PySem.F.entry_set_init (PySem.check_set_init_1 hT ?_)) fun r2 s2 hr2 => ?_
      · obtain ⟨ol, hol, hcl, nl, hdl⟩ := hl
        obtain ⟨oc, od, odt, osl⟩ := ol
        simp only at hcl hdl
        subst hcl hdl
        have ho2 : (s.heap.push (set0 w)).get? l = some { cls := .type "tuple", dict := od, data := .seq items nl, slots := osl } := Heap.get?_push_of_some _ hol
        have j1 := PySem.F.sub_tuple_set; have j2 := PySem.F.sub_tuple_frozenset
        have j3 : (Value.type "tuple" == Value.type "dict") = false := by decide
        have hl1 : (s.heap.push (set0 w)).IsTuple l items := ⟨_, ho2, rfl, nl, rfl⟩
        unfold Builtin.«set.__init__» noKeywords Builtin.Frozenset.updateFrom
        generalize hpi : pyIter = pI
        wp_walk
        subst hpi
        refine wpAny_pyIter_tuple hl1 (wpAny_bind (wpAny_runValue ?_))
        have below : l < s.heap.objs.size := Heap.lt_size hol
        have hh3 : A.in1.in1.in1.handled = none := by simp [hh]
        have n1 : l ≠ (s.heap.push (set0 w)).objs.size := by rw [Heap.size_push]; exact Nat.ne_of_lt (Nat.lt_succ_of_lt below)
        have n2 : s.heap.objs.size ∉ [(s.heap.push (set0 w)).objs.size, l] := by
          rw [Heap.size_push]; simp only [List.mem_cons, List.not_mem_nil, or_false, not_or]; exact ⟨Nat.ne_of_lt (Nat.lt_succ_self _), Nat.ne_of_gt below⟩
        refine ks_loop ((Walks.tuple hh3 _ l n1 items).toS) n2 hz (by rw [hz]; exact hb) hk (items.size - 0) 0 _ (by omega) (Nat.zero_le _) ⟨⟨_, Heap.get?_push_size _ rfl, rfl, rfl⟩, hl1.push _⟩ (ks_new (Heap.get?_push_of_some _ hS)) ?hR
        case hR =>
          intro s3 mv K3
          obtain ⟨h', g3, d3, tk3, os3⟩ := s3
          have eg : g3 = s.gens := mv.gens; have ed : d3 = s.drawn := mv.drawn; have eo : os3 = s.os := mv.os
          subst eg ed eo
          show wpAny _ _ _ _ _ _
          refine wpAny_pure ?_
          show wpAny _ _ (ret Value.none) _ _ _
          rw [hz] at K3
          refine wpAny_pure ⟨rfl, h', tk3, rfl, K3, fun b o e => ?_⟩
          have hb0 : b < s.heap.objs.size := Heap.lt_size e
          refine mv.heap b o ?_ (Heap.get?_push_of_some _ (Heap.get?_push_of_some _ e))
          simp only [List.mem_cons, List.not_mem_nil, or_false, not_or]
          exact ⟨Nat.ne_of_lt hb0, by rw [Heap.size_push]; exact Nat.ne_of_lt (Nat.lt_succ_of_lt hb0)⟩
      · cases r2 with
        | error e => exact hr2
        | ok fl2 =>
          cases fl2 with
          | ret r =>
            obtain ⟨rfl, h', tk, rfl, K3, hk3⟩ := hr2
            (repeat (any_goals (first | assumption | wp_step)))
            exact hQ _ _ K3 hk3
          | _ => exact hr2.elim
    | _ => exact hr.elim
end
end Q

set_option Elab.async false
set_option linter.all false
set_option maxRecDepth 100000
set_option maxHeartbeats 8000000
/-! QT: sorted(set(xs)), ints or texts. -/
namespace Q
open PySem L2
theorem mem_ddup {α : Type} [DecidableEq α] {y : α} : ∀ {l : List α}, y ∈ ddup l ↔ y ∈ l
  | [] => Iff.rfl
  | x :: r => by
    unfold ddup
    split
    · rename_i h
      rw [mem_ddup, List.mem_cons]
      exact ⟨.inr, fun z => z.elim (fun e => e ▸ h) id⟩
    · rw [List.mem_cons, List.mem_cons, mem_ddup]
theorem nodup_ddup {α : Type} [DecidableEq α] : ∀ l : List α, (ddup l).Nodup
  | [] => List.nodup_nil
  | x :: r => by
    unfold ddup
    split
    · exact nodup_ddup r
    · rename_i h
      exact List.nodup_cons.mpr ⟨fun z => h (mem_ddup.mp z), nodup_ddup r⟩
theorem ddup_length {α : Type} [DecidableEq α] : ∀ l : List α, (ddup l).length ≤ l.length
  | [] => Nat.le_refl _
  | x :: r => by
    have := ddup_length r
    unfold ddup
    split
    · simp; omega
    · simpa using this
/-- an order on the things of a set -/
structure SO (P : Program) (w : World) (β : Type) where
  enc : β → PyData
  val : β → V
  key : β → L2.Key
  le : β → β → Bool
  inj : ∀ a b, key a = key b → a = b
  rel : ∀ b u, keyIs (key b) u = true → RelV (val b) u ∧ ∀ h : Heap, ∃ as, Reads h u (enc b) as ∧ as = []
  ord : PySem.W.dataLe false enc = le
  alike : ∀ a b, PySem.W.alike (enc a) (enc b) = true
  srt : ∀ b, enc b ≠ .none ∧ ∀ xs, enc b ≠ .tuple xs
  dep : ∀ b, (enc b).depth = 0
  anti : ∀ a b, le a b = true → le b a = true → a = b
  trans : ∀ a b c, le a b = true → le b c = true → le a c = true
  total : ∀ a b, (le a b || le b a) = true
theorem sort_uni {β : Type} [DecidableEq β] {le : β → β → Bool} (anti : ∀ a b, le a b = true → le b a = true → a = b) (trans : ∀ a b c, le a b = true → le b c = true → le a c = true) (total : ∀ a b, (le a b || le b a) = true) {l m : List β} (h : l.Perm m) : l.mergeSort le = m.mergeSort le := by
  refine ((List.mergeSort_perm l le).trans (h.trans (List.mergeSort_perm m le).symm)).eq_of_pairwise (le := fun a b => le a b = true) (fun a b _ _ p q => anti a b p q) ?_ ?_
  · exact List.pairwise_mergeSort trans total l
  · exact List.pairwise_mergeSort trans total m
def soI (P : Program) (w : World) : SO P w Int where
  enc := fun i => .int i
  val := .int
  key := .inl
  le := fun a b => decide (a ≤ b)
  inj := fun a b h => by cases h; rfl
  rel := fun b u h => by
    rcases keyIs_shape h with ⟨i, t, e, rfl⟩ | ⟨x, t, e, _⟩
    · cases e; exact ⟨⟨t, rfl⟩, fun h => ⟨_, .int _ _, rfl⟩⟩
    · cases e
  ord := PySem.W.dataLe_int id
  alike := fun a b => rfl
  srt := fun b => ⟨(by intro z; cases z), (by intro xs z; cases z)⟩
  dep := fun b => rfl
  anti := fun a b p q => by simp at p q; omega
  trans := fun a b c p q => by simp at *; omega
  total := fun a b => by simp; omega
def soS (P : Program) (w : World) : SO P w Str where
  enc := fun i => .str i
  val := .str
  key := .inr
  le := fun a b => decide (a.cps.toList ≤ b.cps.toList)
  inj := fun a b h => by cases h; rfl
  rel := fun b u h => by
    rcases keyIs_shape h with ⟨i, t, e, _⟩ | ⟨x, t, e, rfl⟩
    · cases e
    · cases e; exact ⟨⟨t, rfl⟩, fun h => ⟨_, .str _ _, rfl⟩⟩
  ord := PySem.W.dataLe_str id
  alike := fun a b => rfl
  srt := fun b => ⟨(by intro z; cases z), (by intro xs z; cases z)⟩
  dep := fun b => rfl
  anti := fun a b p q => by
    have e : a.cps.toList = b.cps.toList := List.le_antisymm (of_decide_eq_true p) (of_decide_eq_true q)
    obtain ⟨⟨a⟩⟩ := a
    obtain ⟨⟨b⟩⟩ := b
    cases e
    rfl
  trans := fun a b c p q => decide_eq_true (List.le_trans (of_decide_eq_true p) (of_decide_eq_true q))
  total := fun a b => by
    rcases List.le_total a.cps.toList b.cps.toList with h | h <;> simp [h]
section
variable {X : Cx} {cl : Nat → Addr × List Str} {β : Type} [DecidableEq β]
theorem each_keys {P : Program} {w : World} (O : SO P w β) {bs0 : List β} : ∀ {out : List Value}, (∀ u ∈ out, ∃ b ∈ bs0, keyIs (O.key b) u = true) → ∃ bs : List β, PySem.W.EachIs (fun u b => keyIs (O.key b) u = true) out bs ∧ bs.map O.key = out.map kv ∧ ∀ b ∈ bs, b ∈ bs0
  | [], _ => ⟨[], .nil, rfl, fun _ z => by cases z⟩
  | u :: out, h => by
    obtain ⟨b, hb, hk⟩ := h u (List.mem_cons_self ..)
    obtain ⟨bs, g1, g2, g3⟩ := each_keys O (out := out) fun v hv => h v (List.mem_cons_of_mem _ hv)
    refine ⟨b :: bs, .cons hk g1, by rw [List.map_cons, List.map_cons, g2, (kv_is hk).1], fun c hc => ?_⟩
    rcases List.mem_cons.mp hc with rfl | hc
    · exact hb
    · exact g3 c hc
theorem vals_each {P : Program} {w : World} (O : SO P w β) : ∀ {out : List Value} {bs : List β}, PySem.W.EachIs (fun u b => keyIs (O.key b) u = true) out bs → Vals (bs.map O.val) out
  | _, _, .nil => .nil
  | _, _, .cons h t => .cons (O.rel _ _ h).1 (vals_each O t)
theorem ks_sorted (O : SO X.prog X.w β) {k : Nat} (hr : Room k X.A) {H : Hp} {pins : List (Addr × Obj)} {s : Shared} {σ : L2.St} {p : Addr} {bs0 : List β} {m : Nat} {Q : VK} (hh : X.A.handled = none) (I : Inv X pins σ H s) (R : KS X.prog X.w s.heap p (fun k => k ∈ bs0.map O.key) m) (hm : m ≤ sizeLine)
    (q : ∀ a, H a = none → ((ddup bs0).mergeSort O.le).length ≤ sizeLine → Q (.ref a) (upd H a (.lst (((ddup bs0).mergeSort O.le).map O.val)))) : wpAny (model X.prog X.w) X.A (call (.builtin "sorted") [.ref p]) (EP X pins σ Q) X.xe s := by
  obtain ⟨o, es, ep, t, ⟨ho, hx⟩, hd, T⟩ := R
  refine PySem.Calls.call_function_entry PyProof.Rows.kind_sorted PyProof.Rows.plain_sorted PyProof.Rows.entry_sorted (PyProof.Rows.args_sorted1 _) ?_
  unfold Builtin.«sorted»
  refine wpAny_bind (m := checkCount "sorted" 1 1 _) (wpAny_pure (wpAny_bind (L2.collect_set (A := X.A.in1) hh ⟨o, ho, hx.1, hd⟩ T.fit (Nat.lt_of_le_of_lt T.few T.top) T.ris T.led fun s1 out k1 hz g1 o1 pm => ?_)))
  have pk : (out.map kv).Perm (kvs es.toList) := by
    have := pm.map kv
    rw [List.map_map] at this
    exact this
  have hmem : ∀ u ∈ out, ∃ b ∈ bs0, keyIs (O.key b) u = true := fun u hu => by
    obtain ⟨e, he, rfl⟩ := List.mem_map.mp (pm.mem_iff.mp hu)
    obtain ⟨⟨k0, c1, _⟩, _⟩ := T.els e he
    have c2 : k0 ∈ kvs es.toList := (mem_kvs T.els k0).mpr ⟨e, he, c1⟩
    obtain ⟨b, hb, e0⟩ := List.mem_map.mp ((T.mem k0).mpr c2)
    exact ⟨b, hb, by rw [e0]; exact c1⟩
  obtain ⟨bs, e1, e2, e3⟩ := each_keys O hmem
  have perm : bs.Perm (ddup bs0) := by
    have nd : bs.Nodup := by
      have : (bs.map O.key).Nodup := by rw [e2]; exact pk.nodup_iff.mpr T.nd
      exact List.Pairwise.of_map O.key (fun a b hne h => hne (by rw [h])) this
    refine (List.perm_ext_iff_of_nodup nd (nodup_ddup _)).mpr fun b => ?_
    rw [mem_ddup]
    refine ⟨e3 b, fun hb => ?_⟩
    have : O.key b ∈ bs.map O.key := by rw [e2, pk.mem_iff, ← T.mem]; exact List.mem_map.mpr ⟨b, hb, rfl⟩
    obtain ⟨b', hb', e'⟩ := List.mem_map.mp this
    rw [← O.inj _ _ e']; exact hb'
  have hlen : out.length ≤ sizeLine := by
    rw [pm.length_eq, List.length_map, Array.length_toList]; exact Nat.le_trans T.few hm
  have hbl : bs.length = out.length := by
    have := congrArg List.length e2
    rw [List.length_map, List.length_map] at this; exact this
  refine wpAny_bind (wpAny_newList ?_ hlen)
  have hoL : (s1.heap.push (PyProof.Rows.seqObj "list" out.toArray 0)).get? s1.heap.objs.size = some (PyProof.Rows.seqObj "list" out.toArray 0) := Heap.get?_push_size _ rfl
  have er : PySem.W.EachIs (fun v b => ∃ as, PySem.Reads (s1.heap.push (PyProof.Rows.seqObj "list" out.toArray 0)) v (O.enc b) as ∧ s1.heap.objs.size ∉ as) out bs := e1.mono fun v b hv => by
    obtain ⟨as, r, rfl⟩ := (O.rel b v hv).2 (s1.heap.push (PyProof.Rows.seqObj "list" out.toArray 0))
    exact ⟨_, r, by simp⟩
  refine wpAny_bind (wpAny_holding (PySem.W.list_sort_data (s := { s1 with heap := s1.heap.push (PyProof.Rows.seqObj "list" out.toArray 0) }) (enc := O.enc) hoL e1 er (PySem.W.AllAlike.of O.alike) (PySem.W.Sortable.others O.srt) (by rw [hbl]; exact hlen) (fun b hb => ?_) fun out' ho' er' => ?_))
  · have := hr.units
    rw [O.dep b]
    show X.A.units + 1 + 1 + 0 < cLine
    omega
  · rw [O.ord, sort_uni O.anti O.trans O.total perm] at er'
    obtain ⟨c', hc'⟩ := PyProof.Rows.sortedHeap_at (vs := out) (out := out'.toArray) hoL
    have zl : (((ddup bs0).mergeSort O.le).map O.val).length ≤ sizeLine := by
      rw [List.length_map, List.length_mergeSort, ← perm.length_eq, hbl]; exact hlen
    have kp : ∀ b u, s.heap.get? b = some u → (PyProof.Rows.sortedHeap (s1.heap.push (PyProof.Rows.seqObj "list" out.toArray 0)) s1.heap.objs.size out out'.toArray).get? b = some u := fun b u e => by
      have z := k1 b u e
      have hb := Heap.lt_size z
      rw [PyProof.Rows.sortedHeap_old (Nat.ne_of_lt hb) (by rw [PyProof.Rows.size_push']; exact Nat.lt_succ_of_lt hb)]
      exact Heap.get?_push_of_some _ z
    have hn : H s1.heap.objs.size = none := I.hok.fresh hz
    refine wpAny_pure ⟨_, rfl, .ref s1.heap.objs.size, upd H s1.heap.objs.size (.lst (((ddup bs0).mergeSort O.le).map O.val)), ?_, rfl, q _ hn (by rw [List.length_map] at zl; exact zl)⟩
    have J : Inv X pins σ (upd H s1.heap.objs.size (.lst (((ddup bs0).mergeSort O.le).map O.val))) { s with heap := PyProof.Rows.sortedHeap (s1.heap.push (PyProof.Rows.seqObj "list" out.toArray 0)) s1.heap.objs.size out out'.toArray, gens := s1.gens, drawn := s1.drawn, toks := s1.toks } :=
      I.call (ch := []) (Un.laid kp hz hn) (I.hok.laid kp hz ⟨zl, out', c', vals_each O er', hc'⟩) (by rw [g1]; exact I.bare) (fun _ z => nomatch z)
    have e : ({ s1 with heap := PyProof.Rows.sortedHeap (s1.heap.push (PyProof.Rows.seqObj "list" out.toArray 0)) s1.heap.objs.size out out'.toArray } : Shared) = { s with heap := PyProof.Rows.sortedHeap (s1.heap.push (PyProof.Rows.seqObj "list" out.toArray 0)) s1.heap.objs.size out out'.toArray, gens := s1.gens, drawn := s1.drawn, toks := s1.toks } := by
      cases s1; cases s; cases o1; rfl
    exact e ▸ J
end
end Q

set_option Elab.async false
set_option linter.all false
set_option maxRecDepth 100000
set_option maxHeartbeats 4000000
/-! Q7: the check of a text against its annotated form; expressions. -/
namespace Q
open PySem L2

structure Sx where
  sc : Scope
  fn : Str → Bool
  ct : Nat → Ci
def Sx.blk (c : Sx) (scope : Scope) : Sx := ⟨relS scope c.sc, fun x => scope.names.lookup x == some .cell, c.ct⟩
def all2 {α β : Type} (p : α → β → Bool) : List α → List β → Bool
  | [], [] => true
  | a :: r, b :: s => p a b && all2 p r s
  | _, _ => false
def okName (y : Str) : Bool := !(y == "__debug__") && !(y == "__classdict__") && !(y == "__name__")
def visN (c : Sx) (y : Str) : Bool := match c.sc.names.lookup y with
  | some .local => true | some .cell => true | some .free => true | _ => false
def glN (c : Sx) (y : Str) : Bool := decide (c.sc.names.lookup y = some .globalImplicit) && okName y
def locN (c : Sx) (y : Str) : Bool := match c.sc.names.lookup y with
  | some .local => true | some .cell => c.fn y | _ => false
def ckC : Const → D → Bool
  | .none, .non => true
  | .bool b, .bl c => b == c
  | .int i, .int j => decide (i = j)
  | .str x, .str y => decide (x = y)
  | _, _ => false
def ckT (N : List Str) (c : Sx) : Nat → Expr → Tg → Bool
  | 0, _, _ => false
  | _ + 1, x, .nm i => (match x with
    | .Name y _ => decide (N[i]? = some y) && locN c y
    | _ => false)
  | n + 1, x, .tp ts => (match x with
    | .Tuple xs _ _ => all2 (ckT N c n) xs ts
    | _ => false)
def isTup : Expr → Bool
  | .Tuple _ _ _ => true
  | _ => false
/-- may stand as a test -/
def tst : E → Bool
  | .ite _ _ _ => false
  | .bor e => tst e
  | .frz e => tst e
  | _ => true
def ckO (p : Expr → E → Bool) : Option Expr → Option E → Bool
  | none, none => true
  | some x, some e => p x e
  | _, _ => false
def tyName (y : Str) : Option String :=
  if y = Str.ofString "int" then some "int" else if y = Str.ofString "bool" then some "bool" else if y = Str.ofString "str" then some "str" else
  if y = Str.ofString "list" then some "list" else if y = Str.ofString "tuple" then some "tuple" else if y = Str.ofString "dict" then some "dict" else none
def tyNames (c : Sx) : List Expr → List String → Bool
  | [], [] => true
  | .Name y _ :: r, t :: ts => glN c y && decide (tyName y = some t) && tyNames c r ts
  | _, _ => false
def notSlice : Expr → Bool
  | .Slice _ _ _ _ => false
  | _ => true
mutual
def Tg.slots : Tg → List Nat
  | .nm i => [i]
  | .tp ts => Tg.slotsL ts
def Tg.slotsL : List Tg → List Nat
  | [] => []
  | t :: r => t.slots ++ Tg.slotsL r
end
/-- no bare call ahead of a dot -/
def nsp : Expr → Bool
  | .Call _ [] [] _ => false
  | _ => true
def ckI (p : Expr → E → Bool) (c : Sx) (tg iter : Expr) : It → Bool
  | .seq e => p iter e
  | .rng es => (match iter with
    | .Call (.Name y _) xs [] _ => decide (y = "range") && glN c y && all2 p xs es
    | _ => false)
  | .zip a b => (match iter with
    | .Call (.Name y _) [q, r] [] _ => decide (y = "zip") && glN c y && p q a && p r b && isTup tg
    | _ => false)
  | .enum e => (match iter with
    | .Call (.Name y _) [q] [] _ => decide (y = "enumerate") && glN c y && p q e && isTup tg
    | _ => false)
  | .vals e => (match iter with
    | .Call (.Attribute q m ap) [] [] cp => decide (m = "values") && nsp q && p q e && (ap.endLine == cp.line)
    | _ => false)
def ckPl (N : List Str) (c : Sx) (x : Expr) : Pl → Bool
  | .s i => (match x with
    | .Name y _ => decide (N[i]? = some y) && visN c y && okName y
    | _ => false)
  | .f i k j => (match x with
    | .Attribute (.Name y _) f _ => decide (N[i]? = some y) && visN c y && okName y && decide ((c.ct k).fs[j]? = some f)
    | _ => false)
def ckK (p : Expr → E → Bool) : List Keyword → List Str → List E → Bool
  | [], [], [] => true
  | ⟨some y, x, _⟩ :: r, k :: ks, e :: es => decide (y = k) && p x e && ckK p r ks es
  | _, _, _ => false
def ckAr (p : Expr → E → Bool) (N : List Str) (c : Sx) (x : Expr) : Ar → Bool
  | .v e => p x e
  | .io i => (match x with
    | .Name y _ => decide (N[i]? = some y) && visN c y && okName y
    | _ => false)
def ckLc2 (N : List Str) (p : Sx → Expr → E → Bool) (n : Nat) (c : Sx) (x : Expr) (vs : List Nat) (t : Tg) (it : It) (cond : Option E) (vs1 : List Nat) (t1 : Tg) (it1 : It) (cond1 : Option E) (e : E) : Bool :=
  match x with
  | .ListComp elt [⟨tg, iter, ifs, 0⟩, ⟨tg1, iter1, ifs1, 0⟩] scope _ => (match vs.mapM fun i => (N[i]?).map fun y => (y, i) with
    | some own => blkC N c.sc scope own && ckT N (c.blk scope) n tg t && (t.slots.all fun i => vs.contains i) && ckI (p c) c tg iter it && (match cond, ifs with
      | none, [] => true
      | some ce, [cx] => tst ce && p (c.blk scope) cx ce
      | _, _ => false) && p (c.blk scope) elt e && (vs1.all fun i => vs.contains i) && ckT N (c.blk scope) n tg1 t1 && (t1.slots.all fun i => vs1.contains i) && ckI (p (c.blk scope)) (c.blk scope) tg1 iter1 it1 && (match cond1, ifs1 with
      | none, [] => true
      | some ce, [cx] => tst ce && p (c.blk scope) cx ce
      | _, _ => false)
    | none => false)
  | _ => false
def ckGg (p : Expr → E → Bool) (c : Sx) (x : Expr) (z : Str) (k d : E) : Bool := match x with
  | .Call (.Attribute (.Name y py) m ap) [kx, dx] [] cp => decide (m = "get") && decide (y = z) && glN c y && nsp (.Name y py) && p kx k && p dx d && (ap.endLine == cp.line)
  | _ => false
def ckE (N : List Str) : Nat → Sx → Expr → E → Bool
  | 0, _, _, _ => false
  | _ + 1, _, x, .c d => (match x with
    | .Constant k _ _ => ckC k d
    | _ => false)
  | _ + 1, c, x, .pv p => ckPl N c x p
  | _ + 1, c, x, .mv i => (match x with
    | .Name y _ => decide (N[i]? = some y) && visN c y && okName y
    | _ => false)
  | _ + 1, c, x, .glob z => (match x with
    | .Name y _ => decide (y = z) && glN c y
    | _ => false)
  | n + 1, c, x, .tup es => (match x with
    | .Tuple xs _ _ => decide (xs.length < 1000) && all2 (ckE N n c) xs es
    | _ => false)
  | n + 1, c, x, .lst es => (match x with
    | .List xs _ => decide (xs.length < 1000) && all2 (ckE N n c) xs es
    | _ => false)
  | n + 1, c, x, .dct ks es => (match ks, es with
    | [], [] => (match x with
      | .Dict [] [] _ => true
      | _ => false)
    | [k], [e] => (match x with
      | .Dict [some kx] [vx] _ => ckE N n c kx k && ckE N n c vx e
      | _ => false)
    | _, _ => false)
  | n + 1, c, x, .bin o a b => (match x with
    | .BinOp y op z _ => decide (op = opOf o) && ckE N n c y a && ckE N n c z b
    | _ => false)
  | n + 1, c, x, .neg a => (match x with
    | .UnaryOp op y _ => decide (op = .USub) && ckE N n c y a
    | _ => false)
  | n + 1, c, x, .not a => (match x with
    | .UnaryOp op y _ => decide (op = .Not) && tst a && ckE N n c y a
    | _ => false)
  | n + 1, c, x, .and a es => (match x with
    | .BoolOp op (y :: ys) _ => decide (op = .And) && tst a && es.all tst && ckE N n c y a && all2 (ckE N n c) ys es
    | _ => false)
  | n + 1, c, x, .or a es => (match x with
    | .BoolOp op (y :: ys) _ => decide (op = .Or) && tst a && es.all tst && ckE N n c y a && all2 (ckE N n c) ys es
    | _ => false)
  | n + 1, c, x, .cmp o a b => (match x with
    | .Compare y [op] [z] _ => decide (op = cmpOf o) && ckE N n c y a && ckE N n c z b
    | _ => false)
  | n + 1, c, x, .chain o p a b d => (match x with
    | .Compare y [op, op'] [z, w] _ => decide (op = cmpOf o) && decide (op' = cmpOf p) && ckE N n c y a && ckE N n c z b && ckE N n c w d
    | _ => false)
  | n + 1, c, x, .ite t a b => (match x with
    | .IfExp y z w _ => tst t && ckE N n c y t && ckE N n c z a && ckE N n c w b
    | _ => false)
  | n + 1, c, x, .idx a i => (match x with
    | .Subscript y z _ => notSlice z && ckE N n c y a && ckE N n c z i
    | _ => false)
  | n + 1, c, x, .fld a k j => (match x with
    | .Attribute y f _ => nsp y && decide ((c.ct k).fs[j]? = some f) && ckE N n c y a
    | _ => false)
  | n + 1, c, x, .oidx p e => (match x with
    | .Subscript px z _ => notSlice z && ckPl N c px p && ckE N n c z e && (!p.isF || smp e)
    | _ => false)
  | _ + 1, c, x, .olen p => (match x with
    | .Call (.Name f _) [px] [] _ => decide (f = "len") && glN c f && ckPl N c px p
    | _ => false)
  | n + 1, c, x, .oin neg e p => (match x with
    | .Compare z [op] [px] _ => decide (op = if neg then .NotIn else .In) && ckE N n c z e && ckPl N c px p
    | _ => false)
  | n + 1, c, x, .get a k d => (match x with
    | .Call (.Attribute y m ap) [kx, dx] [] cp => decide (m = "get") && nsp y && ckE N n c y a && ckE N n c kx k && ckE N n c dx d && (ap.endLine == cp.line)
    | _ => false)
  | n + 1, c, x, .gget z k d => ckGg (ckE N n c) c x z k d
  | n + 1, c, x, .oget p k d => (match x with
    | .Call (.Attribute y m ap) [kx, dx] [] cp => decide (m = "get") && ckPl N c y p && ckE N n c kx k && ckE N n c dx d && (ap.endLine == cp.line) && (!p.isF || (smp k && smp d))
    | _ => false)
  | _ + 1, c, x, .ocpy p => (match x with
    | .Call (.Name f _) [px] [] _ => decide (f = "dict") && glN c f && ckPl N c px p
    | _ => false)
  | n + 1, c, x, .sset e => (match x with
    | .Call (.Name f _) [.Call (.Name g _) [y] [] _] [] _ => decide (f = "sorted") && decide (g = "set") && glN c f && glN c g && ckE N n c y e
    | _ => false)
  | _ + 1, c, x, .olst p => (match x with
    | .Call (.Name f _) [px] [] _ => decide (f = "list") && glN c f && ckPl N c px p
    | _ => false)
  | _ + 1, c, x, .osrt p => (match x with
    | .Call (.Name f _) [px] [] _ => decide (f = "sorted") && glN c f && ckPl N c px p
    | _ => false)
  | n + 1, c, x, .pop p e => (match x with
    | .Call (.Attribute y m ap) [z] [] cp => decide (m = "pop") && ckPl N c y p && ckE N n c z e && (ap.endLine == cp.line) && (!p.isF || smp e)
    | _ => false)
  | _ + 1, c, x, .popl p => (match x with
    | .Call (.Attribute y m ap) [] [] cp => decide (m = "pop") && ckPl N c y p && (ap.endLine == cp.line)
    | _ => false)
  | n + 1, c, x, .slc a lo hi => (match x with
    | .Subscript y (.Slice l h none _) _ => ckE N n c y a && ckO (ckE N n c) l lo && ckO (ckE N n c) h hi
    | _ => false)
  | n + 1, c, x, .st2 a => (match x with
    | .Subscript y (.Slice none none (some (.Constant (.int i) _ _)) _) _ => ckE N n c y a && decide (i = 2)
    | _ => false)
  | n + 1, c, x, .rev a => (match x with
    | .Subscript y (.Slice none none (some (.UnaryOp .USub (.Constant (.int i) _ _) _)) _) _ => ckE N n c y a && decide (i = 1)
    | _ => false)
  | n + 1, c, x, .call f as => (match x with
    | .Call (.Name y _) xs [] _ => decide (y = f) && glN c y && all2 (ckAr (ckE N n c) N c) xs as
    | _ => false)
  | n + 1, c, x, .callo f e => (match x with
    | .Call (.Name y _) [z] [] _ => decide (y = f) && glN c y && ckE N n c z e
    | _ => false)
  | n + 1, c, x, .meth k m r as => (match x with
    | .Call (.Attribute y m' ap) xs [] pos => decide (m = m') && nsp y && (ap.endLine == pos.line) && decide (xs.length < 25) && ckAr (ckE N n c) N c y r && all2 (ckAr (ckE N n c) N c) xs as
    | _ => false)
  | n + 1, c, x, .new k es ks kes => (match x with
    | .Call (.Name y _) xs kws _ => decide (y = (c.ct k).nm) && glN c y && all2 (ckE N n c) xs es && ckK (ckE N n c) kws ks kes
    | _ => false)
  | n + 1, c, x, .bor e => ckE N n c x e
  | n + 1, c, x, .frz e => ckE N n c x e
  | n + 1, c, x, .blt f es => (match x with
    | .Call (.Name y _) xs [] _ => decide (y = f.nm) && glN c y && decide (0 < xs.length) && all2 (ckE N n c) xs es
    | _ => false)
  | n + 1, c, x, .isi a ts => (match x with
    | .Call (.Name y _) [z, .Name t p] [] _ => decide (y = "isinstance") && glN c y && ckE N n c z a && tyNames c [.Name t p] ts
    | .Call (.Name y _) [z, .Tuple xs _ _] [] _ => decide (y = "isinstance") && glN c y && ckE N n c z a && tyNames c xs ts && decide (xs.length < 1000)
    | _ => false)
  | n + 1, c, x, .lrng es => (match x with
    | .Call (.Name y _) [.Call (.Name z _) xs [] _] [] _ => decide (y = "list") && glN c y && decide (z = "range") && glN c z && all2 (ckE N n c) xs es
    | _ => false)
  | n + 1, c, x, .lc vs t it cond e => (match x with
    | .ListComp elt [⟨tg, iter, ifs, 0⟩] scope _ => (match vs.mapM fun i => (N[i]?).map fun y => (y, i) with
      | some own => blkC N c.sc scope own && ckT N (c.blk scope) n tg t && (t.slots.all fun i => vs.contains i) && ckI (ckE N n c) c tg iter it && (match cond, ifs with
        | none, [] => true
        | some ce, [cx] => tst ce && ckE N n (c.blk scope) cx ce
        | _, _ => false) && ckE N n (c.blk scope) elt e
      | none => false)
    | _ => false)
  | n + 1, c, x, .lc2 vs t it cond vs1 t1 it1 cond1 e => ckLc2 N (ckE N n) n c x vs t it cond vs1 t1 it1 cond1 e
end Q

set_option Elab.async false
set_option linter.all false
set_option maxRecDepth 100000
set_option maxHeartbeats 4000000
/-! R5: promises of defs; the parts of expressions. -/
namespace Q
open PySem L2

/-! ### calls: parameters ahead, behind -/
inductive Io (M : Mw) (H1 H : Hp) : List (Sh × D) → List V → List (List Addr) → Prop
  | nil : Io M H1 H [] [] []
  | sh {v : V} {d : D} {ps : List (Sh × D)} {vs : List V} {fs : List (List Addr)} : Rp M H1 v d → Io M H1 H ps vs fs → Io M H1 H ((.sh, d) :: ps) (v :: vs) fs
  | io {s : Sh} {v : V} {d : D} {f : List Addr} {ps : List (Sh × D)} {vs : List V} {fs : List (List Addr)} : s ≠ .sh → RS M H1 H s v d f → Io M H1 H ps vs fs → Io M H1 H ((s, d) :: ps) (v :: vs) (f :: fs)
inductive No (M : Mw) (H1 H : Hp) : List (Sh × D) → List V → List (Sh × D) → List (List Addr) → Prop
  | nil : No M H1 H [] [] [] []
  | sh {v : V} {d : D} {ps : List (Sh × D)} {vs : List V} {new : List (Sh × D)} {fs : List (List Addr)} : No M H1 H ps vs new fs → No M H1 H ((.sh, d) :: ps) (v :: vs) new fs
  | io {s s' : Sh} {v : V} {d d' : D} {f : List Addr} {ps : List (Sh × D)} {vs : List V} {new : List (Sh × D)} {fs : List (List Addr)} : s ≠ .sh → RS M H1 H s' v d' f → No M H1 H ps vs new fs → No M H1 H ((s, d) :: ps) (v :: vs) ((s', d') :: new) (f :: fs)
def MF (fs : List (List Addr)) (b : Addr) : Prop := ∃ f ∈ fs, b ∈ f
/-- no address twice -/
def Sep (fs : List (List Addr)) : Prop := ∀ (i j : Nat) (f g : List Addr) (b : Addr), fs[i]? = some f → fs[j]? = some g → b ∈ f → b ∈ g → i = j
def spOf (M : Mw) (Fm : Fn) : Sp := fun vs H Q _ => ∃ ps s d new H1 fs, Same H1 H ∧ Io M H1 H ps vs fs ∧ Sep fs ∧ (∀ b, MF fs b → H1 b = none) ∧ Fm ps = some (s, d, new) ∧
  ∀ u H1' H' fs' f, Tr (MF fs) H1 H H1' H' (fun b => MF fs' b ∨ b ∈ f) → Same H1' H' → No M H1' H' ps vs new fs' → RS M H1' H' s u d f → Sep fs' → (∀ b, MF fs' b → b ∉ f) → (∀ b, MF fs' b ∨ b ∈ f → H1' b = none) → Q u H'

def bltNames : List Str := ["len", "int", "min", "max", "abs", "list", "tuple", "all", "any", "sum", "sorted", "isinstance", "range", "zip", "enumerate", "bool", "str", "dict", "set", "repr"]
structure At (ct : Nat → Ci) (X : Cx) (N : List Str) (c : Sx) : Prop where
  n : X.N = N
  sc : X.env.scope = c.sc
  fn : X.fn = c.fn
  ct : ct = c.ct
/-- a value without an object -/
def vOf : D → V
  | .bl b => .bl b
  | .int i => .int i
  | .str x => .str x
  | _ => .non
theorem rp_vOf {M : Mw} {H : Hp} {d : D} (h : leaf d = true) : Rp M H (vOf d) d := by
  cases d <;> first | exact .non | exact .bl _ | exact .int _ | exact .str _ | cases h
def fillV (us : List V) (fl : List (Sum Nat D)) : List V := fl.map fun | .inl k => us.getD k .non | .inr d => vOf d
def flOk (fl : List (Sum Nat D)) : Bool := fl.all fun | .inl _ => true | .inr d => leaf d
/-- a name that can be called, wherever P, w, K, mg, base and A stand: what the call promises -/
structure CallOk (P : Program) (w : World) (K : PySem.W.Frag) (mg : Str → Option Value) (base : Heap) (A : Around) (cl : Nat → Addr × List Str) (y : Str) (F : Fn) : Prop where
  c0 : ∀ (X : Cx) (p pos : Pos), X.prog = P → X.w = w → X.K = K → X.mg = mg → X.base = base → X.A = A → X.calm = true → Gl X y → (y == ("__debug__" : Str)) = false → y ≠ "__name__" →
    PE X (.Call (.Name y p) [] [] pos) (tCall (spOf ⟨K, P, w, cl⟩ F) [] E0 tNil)
  cs : ∀ (X : Cx) (e : Expr) (es : List Expr) (t : TA) (p pos : Pos), X.prog = P → X.w = w → X.K = K → X.mg = mg → X.base = base → X.A = A → X.calm = true → Gl X y → (y == ("__debug__" : Str)) = false → y ≠ "__name__" →
    PA X (e :: es) t → (starEach (e :: es) X.env = (false, eval e X.env) :: starEach es X.env) → (backTo pos (starEach es X.env)).any (·.1) = false →
    PE X (.Call (.Name y p) (e :: es) [] pos) (tCall (spOf ⟨K, P, w, cl⟩ F) [] E0 t)
structure Cn (Φ : Tab) (cl : Nat → Addr × List Str) (X : Cx) : Prop where
  nd : X.N.Nodup
  calm : X.calm = true
  xe : X.xe = fun _ _ => False
  room : Room 0 X.A
  blt : ∀ y ∈ bltNames, X.mg y = none
  gl : ∀ x d, Φ.gl x = some d → ∃ v u, X.mg x = some u ∧ RelV v u ∧ ∀ H, Rp (mw X cl) H v d
  fn : ∀ f F, Φ.fn f = some F → CallOk X.prog X.w X.K X.mg X.base X.A cl f F
  nm : ∀ c : Nat, (cl c).2 = (Φ.cl c).fs
  cnd : ∀ c : Nat, (Φ.cl c).fs.Nodup ∧ (Φ.cl c).fs.length < 1000
  fld : ∀ (c j : Nat) (f : Str), (Φ.cl c).fs[j]? = some f → Cls X.K (cl c).1 ∧ NoAttr X.K (cl c).1 f
  mt : ∀ c m F, Φ.mt c m = some F → ∃ a fd ps k, FnOk X.prog X.w X.K X.mg X.base CX0 k a fd ps (spOf (mw X cl) F) ∧ Room k X.A ∧ Cls X.K (cl c).1 ∧ Meth X.K (cl c).1 m a ∧ Binds X.K fd ps [] ∧ m ∉ (Φ.cl c).fs
  nw : ∀ c n ks F fl, Φ.nw c n ks = some (F, fl) → flOk fl = true ∧ ∃ a fd ps k, FnOk X.prog X.w X.K X.mg X.base CX0 k a fd ps (spOf (mw X cl) F) ∧ Room (k + 1) X.A ∧ Mk X.K (cl c).1 a ∧ X.mg (Φ.cl c).nm = some (.ref (cl c).1) ∧
    ((ks = [] ∧ Binds X.K fd ps [] ∧ ∀ vs : List V, vs.length = n → fillV vs fl = vs) ∨ (ks ≠ [] ∧ ∃ g gV, KBn X.K fd ps (n + 1) ks g gV ∧ ∀ u vs zs, vs.length = n → zs.length = ks.length → gV (u :: vs) zs = u :: fillV (vs ++ zs) fl))
  gd : ∀ x kvs, Φ.gd x = some kvs → ∃ a es n, X.mg x = some (.ref a) ∧ KDict X.K X.w a es n ∧ ∀ z i, kvs.lookup z = some i → ∃ u, PySem.W.nsIn X.K a z = some (some u) ∧ RelV (.int i) u
theorem Cn.blk {Φ : Tab} {X : Cx} {cl : Nat → Addr × List Str} (C : Cn Φ cl X) (s : Shared) (H : Hp) (scope : Scope) (cenv : Env) (fp : List Addr) : Cn Φ cl (X.blk s H scope cenv fp) := ⟨C.nd, C.calm, rfl, C.room, C.blt, C.gl, C.fn, C.nm, C.cnd, C.fld, C.mt, C.nw, C.gd⟩
theorem At.blk {X : Cx} {N : List Str} {c : Sx} {ct : Nat → Ci} (A : At ct X N c) (s : Shared) (H : Hp) (scope : Scope) (cs : List (Str × Addr)) (C : Addr) (fp : List Addr) : At ct (X.blk s H scope (compEnvC scope cs C X.env) fp) N (c.blk scope) := by
  refine ⟨A.n, ?_, rfl, A.ct⟩
  show relS scope X.env.scope = relS scope c.sc
  rw [A.sc]

/-! ### small things of the text -/
theorem okName_of {y : Str} (h : okName y = true) : (y == ("__debug__" : Str)) = false ∧ (y == ("__classdict__" : Str)) = false ∧ y ≠ "__name__" := by
  unfold okName at h
  simp only [Bool.and_eq_true, Bool.not_eq_true'] at h
  exact ⟨h.1.1, h.1.2, by simpa using h.2⟩
theorem vis_of {X : Cx} {N : List Str} {c : Sx} {ct : Nat → Ci} (A : At ct X N c) {y : Str} (h : visN c y = true) : Vis X.env.scope y := by
  unfold visN at h
  rw [A.sc]
  unfold Vis
  split at h <;> simp_all
theorem gl_of {X : Cx} {N : List Str} {c : Sx} {ct : Nat → Ci} (A : At ct X N c) {y : Str} (h : glN c y = true) : Gl X y ∧ (y == ("__debug__" : Str)) = false ∧ y ≠ "__name__" := by
  unfold glN at h
  obtain ⟨h1, h2⟩ := Bool.and_eq_true_iff.mp h
  refine ⟨?_, (okName_of h2).1, (okName_of h2).2.2⟩
  unfold Gl Env.kindOf
  rw [A.sc]
  exact of_decide_eq_true h1
theorem loc_of {X : Cx} {N : List Str} {c : Sx} {ct : Nat → Ci} (A : At ct X N c) {y : Str} (h : locN c y = true) : L2.Loc X.env.scope y ∧ (X.fn y = true ∨ X.env.scope.names.lookup y = some .local) := by
  unfold locN at h
  rw [A.sc, A.fn]
  unfold L2.Loc
  split at h
  · rename_i e; exact ⟨.inl e, .inr e⟩
  · rename_i e; exact ⟨.inr e, .inl h⟩
  · cases h
theorem all2_len {α β : Type} {p : α → β → Bool} : ∀ {xs : List α} {ys : List β}, all2 p xs ys = true → xs.length = ys.length
  | [], [], _ => rfl
  | a :: r, b :: s, h => by
    have := all2_len (Bool.and_eq_true_iff.mp h).2
    simp [this]
  | [], _ :: _, h => by cases h
  | _ :: _, [], h => by cases h
/-- no star -/
def NoStar : Expr → Prop
  | .Starred _ _ => False
  | _ => True
theorem star_cons {x : Expr} {r : List Expr} {env : Env} (h : NoStar x) : starEach (x :: r) env = (false, eval x env) :: starEach r env := by
  cases x <;> first | rfl | exact h.elim
theorem star_dct {N : List Str} {n : Nat} {c : Sx} {y : Expr} {p : Pos} {ks es : List E} (h : ckE N (n + 1) c (.Starred y p) (.dct ks es) = true) : False := by
  simp only [ckE] at h
  split at h <;> cases h
theorem ckE_noStar {N : List Str} {n : Nat} {c : Sx} {x : Expr} {e : E} (h : ckE N n c x e = true) : NoStar x := by
  cases x with
  | Starred y p =>
    exfalso
    induction n generalizing e with
    | zero => cases h
    | succ n ih =>
      cases e with
      | pv p => cases p <;> cases h
      | dct ks es => exact star_dct h
      | bor e => exact ih h
      | frz e => exact ih h
      | _ => cases h
  | _ => trivial
theorem backTo_plain {pos : Pos} {env : Env} : ∀ {xs : List Expr}, (∀ x ∈ xs, NoStar x) → (backTo pos (starEach xs env)).any (·.1) = false
  | [], _ => rfl
  | x :: r, h => by
    rw [star_cons (h x (by simp))]
    show (false || (backTo pos (starEach r env)).any (·.1)) = false
    rw [Bool.false_or]
    exact backTo_plain fun y hy => h y (by simp [hy])
theorem all2_noStar {N : List Str} {n : Nat} {c : Sx} : ∀ {xs : List Expr} {es : List E}, all2 (ckE N n c) xs es = true → ∀ x ∈ xs, NoStar x
  | [], _, _, x, hx => by cases hx
  | y :: r, e :: es, h, x, hx => by
    have h' := Bool.and_eq_true_iff.mp h
    rcases List.mem_cons.mp hx with rfl | hx
    · exact ckE_noStar h'.1
    · exact all2_noStar h'.2 x hx
  | _ :: _, [], h, _, _ => by cases h

/-! ### states -/
section
variable {M : Mw} {ent : Nat → Option V} {σ : L2.St} {v v' : Ev} {H1 H H1' H' : Hp} {F F' : Nat → List Addr} {L : LE}
theorem SV.post (S : SV M ent σ v H1 H F) {u : V} {d : D} (r : Rp M H1 u d) : Post M ent σ F H1 H .sh d v u H1 H F [] :=
  (NewR.old S.sub r).post S (Tr.refl fun _ h => h)
theorem SV.var (S : SV M ent σ v H1 H F) {i : Nat} {io : Bool} {d : D} (e : v[i]? = some (.at io .sh d)) : ∃ u, σ[i]? = some (some u) ∧ Rp M H1 u d := by
  obtain ⟨u, h1, h2, _⟩ := S.slot i _ e
  exact ⟨u, h1, h2.1⟩
/-- a slot is emptied: what it owned goes along -/
theorem SV.take (S : SV M ent σ v H1 H F) {i : Nat} {s : Sh} {d : D} (e : v[i]? = some (.at false s d)) :
    ∃ u, σ[i]? = some (some u) ∧ Post M ent σ F H1 H s d (v.set i .no) u H1 H (fun j => if j = i then [] else F j) (F i) := by
  obtain ⟨u, h1, h2, _⟩ := S.slot i _ e
  refine ⟨u, h1, Tr.refl fun b hb => ?_, ⟨S.sub, by simpa using S.len, fun j sl ej => ?_, fun j hj => ?_, fun j k b hj hk => ?_, fun j b hj => ?_⟩, h2, fun b hb ⟨j, hj⟩ => ?_, fun b hb => S.dis i b hb⟩
  · rcases hb with ⟨j, hj⟩ | hb
    · try dsimp only at hj
      split at hj
      · simp at hj
      · exact ⟨j, hj⟩
    · exact ⟨i, hb⟩
  · by_cases hj : j = i
    · subst hj
      have : j < v.length := (List.getElem?_eq_some_iff.mp e).1
      rw [List.getElem?_set_self this] at ej
      cases ej
      show (if j = j then [] else F j) = []
      rw [if_pos rfl]
    · rw [List.getElem?_set_ne (Ne.symm hj)] at ej
      show SlotOk M ent σ H1 H j (if j = i then [] else F j) sl
      rw [if_neg hj]
      exact S.slot j sl ej
  · show (if j = i then [] else F j) = []
    split
    · rfl
    · exact S.out j (by simpa using hj)
  · try dsimp only at hj hk
    split at hj
    · simp at hj
    · split at hk
      · simp at hk
      · exact S.nd j k b hj hk
  · try dsimp only at hj
    split at hj
    · simp at hj
    · exact S.dis j b hj
  · try dsimp only at hj
    split at hj
    · simp at hj
    · rename_i hne
      exact hne (S.nd j i b hj hb)
theorem evs_cons {e : E} {r : List E} {ds : List D} (h : evs L (e :: r) v = some (ds, v')) : ∃ d dr v1, evv L e v = some (d, v1) ∧ evs L r v1 = some (dr, v') ∧ ds = d :: dr := by
  simp only [evs] at h
  cases z : evv L e v with
  | none => rw [z] at h; cases h
  | some p =>
    obtain ⟨d, v1⟩ := p
    rw [z] at h
    dsimp only at h
    cases y : evs L r v1 with
    | none => rw [y] at h; cases h
    | some q =>
      obtain ⟨dr, v2⟩ := q
      rw [y] at h
      cases h
      exact ⟨d, dr, v1, rfl, y, rfl⟩
/-- two in a row -/
theorem two {a b : E} {ds : List D} {R : V → V → Hp → Prop} (S : SV M ent σ v H1 H F) (e : evs L [a, b] v = some (ds, v'))
    (q : ∀ x y u w H1' H' F', ds = [x, y] → Tr (OF F) H1 H H1' H' (OF F') → SV M ent σ v' H1' H' F' → Rp M H1' u x → Rp M H1' w y → R u w H') :
    tV M ent L a σ H fun u H2 => tV M ent L b σ H2 fun w H3 => R u w H3 := by
  obtain ⟨d, dr, v1, e1, e2, rfl⟩ := evs_cons e
  obtain ⟨d2, dr2, v2, e3, e4, rfl⟩ := evs_cons e2
  cases e4
  refine ⟨v, H1, F, d, v1, S, e1, fun u Ha Hb Fa p => ⟨v1, Ha, Fa, d2, v', p.sv, e3, fun w Hc Hd Fc p' => ?_⟩⟩
  exact q d d2 u w Hc Hd Fc rfl (p.tr.trans p'.tr) p'.sv (p.rp.mono p'.tr.mono) p'.rp
theorem tV_of {e : E} {d : D} {Q : VK} (S : SV M ent σ v H1 H F) (h : evv L e v = some (d, v')) (q : ∀ u H1' H' F', Tr (OF F) H1 H H1' H' (OF F') → SV M ent σ v' H1' H' F' → Rp M H1' u d → Q u H') : tV M ent L e σ H Q :=
  ⟨v, H1, F, d, v', S, h, fun u a b c p => q u a b c p.tr p.sv p.rp⟩
theorem tA_nil {Q : List V → Hp → Prop} (h : tA M ent L [] σ H Q) : tNil σ H Q := by
  obtain ⟨v, H1, F, ds, v', S, e, q⟩ := h
  cases e
  exact q [] H1 H F ⟨Tr.refl fun _ h => h, S, .nil⟩
theorem tA_cons {e : E} {r : List E} {Q : List V → Hp → Prop} (h : tA M ent L (e :: r) σ H Q) : tCons (tV M ent L e) (tA M ent L r) σ H Q := by
  obtain ⟨v, H1, F, ds, v', S, ev, q⟩ := h
  obtain ⟨d, dr, v1, e1, e2, rfl⟩ := evs_cons ev
  refine tV_of S e1 fun u Ha Hb Fa t S1 ru => ⟨v1, Ha, Fa, dr, v', S1, e2, fun us Hc Hd Fc p => ?_⟩
  exact q (u :: us) Hc Hd Fc ⟨t.trans p.tr, p.sv, .cons (ru.mono p.tr.mono) p.rp⟩
end

/-- the parts of an expression at X -/
abbrev GoE (Φ : Tab) (cl : Nat → Addr × List Str) (N : List Str) (n : Nat) : Prop := ∀ (c : Sx) (x : Expr) (e : E), ckE N n c x e = true → ∀ X, Cn Φ cl X → At Φ.cl X N c → ∀ ent, PE X x (tE (mw X cl) ent (lev Φ n).e e) ∧ (tst e = true → PT X x (tB (mw X cl) ent (lev Φ n).e e))
section
variable {Φ : Tab} {N : List Str} {n : Nat} {c : Sx} {X : Cx} {cl : Nat → Addr × List Str} {ent : Nat → Option V}
theorem GoE.v (g : GoE Φ cl N n) {x : Expr} {e : E} (h : ckE N n c x e = true) (C : Cn Φ cl X) (A : At Φ.cl X N c) : PE X x (tV (mw X cl) ent (lev Φ n).e e) := pe_v (g c x e h X C A ent).1
theorem GoE.all (g : GoE Φ cl N n) (C : Cn Φ cl X) (A : At Φ.cl X N c) : ∀ {xs : List Expr} {es : List E}, all2 (ckE N n c) xs es = true → PA X xs (tA (mw X cl) ent (lev Φ n).e es)
  | [], [], _ => PA.mono pa_nil fun _ _ _ h => tA_nil h
  | x :: r, e :: es, h => by
    have h' := Bool.and_eq_true_iff.mp h
    exact PA.mono (pa_cons (g.v h'.1 C A) (GoE.all g C A h'.2) (star_cons (ckE_noStar h'.1))) fun _ _ _ q => tA_cons q
  | [], _ :: _, h => by cases h
  | _ :: _, [], h => by cases h

/-! ### targets -/
def tG (M : Mw) (ent : Nat → Option V) (t : Tg) : TG := fun u σ H Q => ∃ v H1 F d v', SV M ent σ v H1 H F ∧ Rp M H1 u d ∧ asgT t d v = some v' ∧ ∀ σ' F', (∀ b, OF F' b → OF F b) → SV M ent σ' v' H1 H F' → (∀ vs : List Nat, (∀ i ∈ t.slots, i ∈ vs) → wipe σ' vs = wipe σ vs) → Q σ' H
def tGs (M : Mw) (ent : Nat → Option V) (ts : List Tg) : TGs := fun us σ H Q => ∃ v H1 F ds v', SV M ent σ v H1 H F ∧ Rps M H1 us ds ∧ asgTs ts ds v = some v' ∧ ∀ σ' F', (∀ b, OF F' b → OF F b) → SV M ent σ' v' H1 H F' → (∀ vs : List Nat, (∀ i ∈ Tg.slotsL ts, i ∈ vs) → wipe σ' vs = wipe σ vs) → Q σ' H
theorem wipe_get {σ : L2.St} {j : Nat} : ∀ {vs : List Nat}, (wipe σ vs)[j]? = if j ∈ vs ∧ j < σ.length then some none else σ[j]?
  | [] => by simp [wipe]
  | i :: r => by
    unfold wipe
    by_cases hj : i = j
    · subst hj
      by_cases hl : i < σ.length
      · rw [List.getElem?_set_self (by rw [wipe_length]; exact hl), if_pos ⟨by simp, hl⟩]
      · rw [List.getElem?_eq_none (by rw [List.length_set, wipe_length]; omega), if_neg (fun z => hl z.2), List.getElem?_eq_none (by omega)]
    · rw [List.getElem?_set_ne hj, wipe_get]
      simp only [List.mem_cons, show (j = i) = False from eq_false (Ne.symm hj), false_or]
theorem wipe_set {σ : L2.St} {i : Nat} {x : Option V} {vs : List Nat} (h : i ∈ vs) : wipe (σ.set i x) vs = wipe σ vs := by
  apply List.ext_getElem?
  intro j
  rw [wipe_get, wipe_get, List.length_set]
  by_cases hj : j ∈ vs ∧ j < σ.length
  · rw [if_pos hj, if_pos hj]
  · rw [if_neg hj, if_neg hj]
    by_cases hi : i = j
    · subst hi
      have hl : ¬ i < σ.length := fun z => hj ⟨h, z⟩
      rw [List.getElem?_eq_none (by rw [List.length_set]; omega), List.getElem?_eq_none (by omega)]
    · rw [List.getElem?_set_ne hi]
theorem wipe_wipe {σ : L2.St} {vs : List Nat} : wipe (wipe σ vs) vs = wipe σ vs := by
  apply List.ext_getElem?
  intro j
  rw [wipe_get, wipe_length]
  split
  · rename_i h; rw [wipe_get, if_pos h]
  · rfl
theorem PG.mono {X : Cx} {e : Expr} {t t' : TG} (h : PG X e t) (m : ∀ u σ H Q, t' u σ H Q → t u σ H Q) : PG X e t' := ⟨fun pins s σ H v u Q I r q => h.run pins s σ H v u Q I r (m v σ H Q q)⟩
theorem PG.or {X : Cx} {e : Expr} {t t' : TG} (h : PG X e t) (h' : PG X e t') : PG X e (fun u σ H Q => t u σ H Q ∨ t' u σ H Q) := ⟨fun pins s σ H v u Q I r q => by
  rcases q with q | q
  · exact h.run pins s σ H v u Q I r q
  · exact h'.run pins s σ H v u Q I r q⟩
theorem PGs.mono {X : Cx} {e : List Expr} {t t' : TGs} (h : PGs X e t) (m : ∀ u σ H Q, t' u σ H Q → t u σ H Q) : PGs X e t' := ⟨fun pins s σ H v u Q I r q => h.run pins s σ H v u Q I r (m v σ H Q q)⟩
/-- a name takes a value -/
theorem SV.setN {M : Mw} {σ : L2.St} {v v' : Ev} {H1 H : Hp} {F : Nat → List Addr} {i : Nat} {s : Sh} {d : D} {u : V} {f : List Addr} (S : SV M ent σ v H1 H F) (r : RS M H1 H s u d f) (ap : ∀ b ∈ f, ¬ OF F b) (dj : ∀ b ∈ f, H1 b = none) (e : Q.setN v i s d = some v') :
    SV M ent (σ.set i (some u)) v' H1 H (fun j => if j = i then f else F j) ∧ i < v.length := by
  have key : v' = v.set i (.at false s d) ∧ i < v.length := by
    unfold Q.setN at e
    split at e
    · rename_i z; cases e; exact ⟨rfl, (List.getElem?_eq_some_iff.mp z).1⟩
    · rename_i z; cases e; exact ⟨rfl, (List.getElem?_eq_some_iff.mp z).1⟩
    · cases e
  obtain ⟨rfl, hi⟩ := key
  refine ⟨⟨S.sub, by simpa using S.len, fun j sl ej => ?_, fun j hj => ?_, fun j k b hj hk => ?_, fun j b hj => ?_⟩, hi⟩
  · by_cases hj : j = i
    · subst hj
      rw [List.getElem?_set_self hi] at ej
      cases ej
      refine ⟨u, List.getElem?_set_self (by rw [← S.len]; exact hi), ?_, fun z => by cases z⟩
      rw [if_pos rfl]; exact r
    · rw [List.getElem?_set_ne (Ne.symm hj)] at ej
      have q := S.slot j sl ej
      rw [if_neg hj]
      cases sl with
      | no => exact q
      | «at» io sh d' =>
        obtain ⟨w, h1, h2, h3⟩ := q
        exact ⟨w, by rw [List.getElem?_set_ne (Ne.symm hj)]; exact h1, h2, h3⟩
  · have hj' : v.length ≤ j := by simpa using hj
    rw [if_neg (by omega)]
    exact S.out j hj'
  · try dsimp only at hj hk
    split at hj
    · rename_i e1
      split at hk
      · rename_i e2; rw [e1, e2]
      · exact absurd ⟨k, hk⟩ (ap b hj)
    · split at hk
      · exact absurd ⟨j, hj⟩ (ap b hk)
      · exact S.nd j k b hj hk
  · try dsimp only at hj
    split at hj
    · exact dj b hj
    · exact S.dis j b hj
theorem asgEach_len {env : Env} : ∀ xs : List Expr, (assignEach xs env).length = xs.length
  | [] => rfl
  | x :: r => by cases x <;> (show (assignEach r env).length + 1 = r.length + 1; rw [asgEach_len r])
theorem ckT_noStar {n : Nat} {x : Expr} {t : Tg} (h : ckT N c n x t = true) : NoStar x := by
  cases x with
  | Starred y p =>
    exfalso
    cases n with
    | zero => cases h
    | succ n => cases t <;> cases h
  | _ => trivial
theorem asg_cons {x : Expr} {r : List Expr} {env : Env} (h : NoStar x) : assignEach (x :: r) env = (false, assign x env) :: assignEach r env := by
  cases x <;> first | rfl | exact h.elim
theorem asg_find {env : Env} : ∀ {xs : List Expr}, (∀ x ∈ xs, NoStar x) → (assignEach xs env).findIdx? (·.1) = none
  | [], _ => rfl
  | x :: r, h => by
    have ih := asg_find (env := env) (xs := r) fun y hy => h y (List.mem_cons_of_mem _ hy)
    rw [asg_cons (h x List.mem_cons_self), List.findIdx?_cons, ih]
    rfl
theorem all2T_noStar {n : Nat} : ∀ {xs : List Expr} {ts : List Tg}, all2 (ckT N c n) xs ts = true → ∀ x ∈ xs, NoStar x
  | [], _, _, x, hx => by cases hx
  | y :: r, e :: es, h, x, hx => by
    have h' := Bool.and_eq_true_iff.mp h
    rcases List.mem_cons.mp hx with rfl | hx
    · exact ckT_noStar h'.1
    · exact all2T_noStar h'.2 x hx
  | _ :: _, [], h, _, _ => by cases h
theorem asgTs_len : ∀ {ts : List Tg} {ds : List D} {v v' : Ev}, asgTs ts ds v = some v' → ts.length = ds.length
  | [], [], _, _, _ => rfl
  | t :: ts, d :: ds, v, v', h => by
    simp only [asgTs] at h
    cases z : asgT t d v with
    | none => rw [z] at h; cases h
    | some w => rw [z] at h; simp [asgTs_len h]
  | [], _ :: _, _, _, h => by cases h
  | _ :: _, [], _, _, h => by cases h
theorem go_tg : ∀ (n : Nat) (x : Expr) (t : Tg), ckT N c n x t = true → ∀ X, Cn Φ cl X → At Φ.cl X N c → PG X x (tG (mw X cl) ent t)
  | 0, _, _, h, _, _, _ => by cases h
  | n + 1, x, .nm i, h, X, C, A => by
    simp only [ckT] at h
    split at h
    · rename_i y pos
      obtain ⟨h1, h2⟩ := Bool.and_eq_true_iff.mp h
      obtain ⟨l1, l2⟩ := loc_of A h2
      refine PG.mono (pg_name (i := i) C.nd (by rw [A.n]; exact of_decide_eq_true h1) l1 l2) fun u σ H Q q => ?_
      obtain ⟨v, H1, F, d, v', S, r, e, q⟩ := q
      simp only [asgT] at e
      obtain ⟨S', _⟩ := S.setN (f := []) (u := u) (s := .sh) ⟨r, rfl⟩ (fun b hb => by simp at hb) (fun b hb => by simp at hb) e
      refine q _ _ (fun b hb => ?_) S' (fun vs hv => wipe_set (hv i (by simp [Tg.slots])))
      obtain ⟨j, hj⟩ := hb
      try dsimp only at hj
      split at hj
      · simp at hj
      · exact ⟨j, hj⟩
    · cases h
  | n + 1, x, .tp ts, h, X, C, A => by
    simp only [ckT] at h
    split at h
    · rename_i xs k pos
      have hl := all2_len h
      have gs : ∀ (xs : List Expr) (ts : List Tg), all2 (ckT N c n) xs ts = true → PGs X xs (tGs (mw X cl) ent ts) := by
        intro xs
        induction xs with
        | nil =>
          intro ts h
          cases ts with
          | nil =>
            refine PGs.mono pgs_nil fun us σ H Q q => ?_
            obtain ⟨v, H1, F, ds, v', S, r, e, q⟩ := q
            cases ds with
            | nil => cases r; cases e; exact ⟨rfl, q σ F (fun _ h => h) S fun _ _ => rfl⟩
            | cons _ _ => cases e
          | cons _ _ => cases h
        | cons x r ih =>
          intro ts h
          cases ts with
          | nil => cases h
          | cons t ts =>
            have h' := Bool.and_eq_true_iff.mp h
            refine PGs.mono (pgs_cons (go_tg n x t h'.1 X C A) (ih ts h'.2) (by rw [asg_cons (ckT_noStar h'.1)]; rfl)) fun us σ H Q q => ?_
            obtain ⟨v, H1, F, ds, v', S, rs, e, q⟩ := q
            cases ds with
            | nil => cases e
            | cons d ds =>
              cases rs with
              | cons r1 rt =>
                simp only [asgTs] at e
                cases z : asgT t d v with
                | none => rw [z] at e; cases e
                | some v1 =>
                  rw [z] at e
                  refine ⟨_, _, rfl, v, H1, F, d, v1, S, r1, z, fun σ1 F1 h1 S1 w1 => ⟨v1, H1, F1, ds, v', S1, rt, e, fun σ2 F2 h2 S2 w2 => q σ2 F2 (fun b hb => h1 b (h2 b hb)) S2 fun vs hv => ?_⟩⟩
                  rw [w2 vs fun i hi => hv i (by simp [Tg.slotsL, hi]), w1 vs fun i hi => hv i (by simp [Tg.slotsL, hi])]
      refine PG.mono (PG.or (pg_tup C.calm (gs xs ts h) (asgEach_len xs) (asg_find (all2T_noStar h))) (pg_unl C.calm (gs xs ts h) (asgEach_len xs) (asg_find (all2T_noStar h)))) fun u σ H Q q => ?_
      obtain ⟨v, H1, F, d, v', S, r, e, q⟩ := q
      cases r with
      | tup hq z rs =>
        simp only [asgT] at e
        exact .inl ⟨_, _, rfl, same_seqT S.sub hq, by rw [rs.length, ← asgTs_len e, ← hl], v, H1, F, _, v', S, rs, e, q⟩
      | lst hq z rs =>
        simp only [asgT] at e
        exact .inr ⟨_, _, rfl, SqL.of (S.sub _ _ hq), by rw [rs.length, ← asgTs_len e, ← hl], v, H1, F, _, v', S, rs, e, q⟩
      | _ => simp only [asgT] at e; cases e
    · cases h
end
end Q

set_option Elab.async false
set_option linter.all false
set_option maxRecDepth 100000
set_option maxHeartbeats 4000000
/-! Q8e: enumerate over a tuple. -/
namespace Q
open PySem L2
/-- the two new cells of enumerate(v) -/
abbrev enO (b : Addr) : Obj := { cls := .type "enumerate", data := .fields #[.none, .bool false, .ref b, rawInt 0, .none, .none] }
set_option maxHeartbeats 1000000 in
theorem en_new {v : Value} {o : Obj} {H : Heap → Prop} (B : Begins v o H) : Meets (Builtin.«enumerate.__new__» ⟨[.type "enumerate", v], []⟩) (fun _ R s => H s.heap ∧ R (.ok (.ret (.ref (s.heap.push o).objs.size))) { s with heap := (s.heap.push o).push (enO s.heap.objs.size) }) := by
  refine .of_wp fun prog w A R st q => ?_
  obtain ⟨hh, ge, di, to, oo⟩ := st
  obtain ⟨ha, q⟩ := q
  have sube := sub_enumerate
  have it : ∀ {A1 : Around} {E1 : Value → Shared → Prop} {Q1 : Value → Shared → Prop}, Q1 (.ref hh.objs.size) ⟨hh.push o, ge, di, to, oo⟩ → wpAny (model prog w) A1 (pyIter v) Q1 E1 ⟨hh, ge, di, to, oo⟩ := by
    intro A1 E1 Q1 z
    exact B.iter prog w A1 E1 ⟨hh, ge, di, to, oo⟩ Q1 ha z
  wp_walk using it
  refine wpAny_stack_any fun st => ?_
  refine wpAny_pure ?_
  split
  · rename_i c _ _ _ _ _
    generalize (c == Value.type "enumerate") = bb
    cases bb <;> (wp_walk using it; exact ⟨_, rfl, q⟩)
  · wp_walk using it
    exact ⟨_, rfl, q⟩
section
variable {prog : Program} {w : World} {A : Around} {E : Value → Shared → Prop} {s : Shared}
theorem en_call {v : Value} {o : Obj} {H : Heap → Prop} {R : Value → Shared → Prop} (B : Begins v o H) (ha : H s.heap)
    (q : ∀ h', IsEnum h' (s.heap.objs.size + 1) s.heap.objs.size 0 .none → h'.get? s.heap.objs.size = some o → (∀ b ob, s.heap.get? b = some ob → h'.get? b = some ob) → R (.ref (s.heap.objs.size + 1)) { s with heap := h' }) :
    wpAny (model prog w) A (call (.type "enumerate") [v]) R E s := by
  have sz : (s.heap.push o).objs.size = s.heap.objs.size + 1 := Heap.size_push ..
  have top : IsEnum ((s.heap.push o).push (enO s.heap.objs.size)) (s.heap.objs.size + 1) s.heap.objs.size 0 .none := by
    have z := Heap.get?_push_size (s.heap.push o) (o := enO s.heap.objs.size) rfl
    rw [sz] at z
    exact z
  refine callType_new F.called_enumerate (by decide) (F.typeCall_enumerate_1 _) (F.newCall_enumerate_1 _) (fun obj => F.args_object_init_2 obj _) F.entry_enumerate_new (en_new B) ⟨ha, ?_⟩
  show _ ∧ _
  rw [sz]
  exact ⟨⟨_, top, rfl⟩, q _ top (Heap.get?_push_of_some _ (Heap.get?_push_size _ B.free)) fun b ob z => Heap.get?_push_of_some _ (Heap.get?_push_of_some _ z)⟩
end
/-- the tuple at a, each item in a new pair -/
def IteT (K : PySem.W.Frag) (a : Addr) : L2.It where
  go := fun i H => ∃ (xs : List V) (x : V), SqT K H a xs ∧ xs[i]? = some x
  yld := fun i H v H' => ∃ T x, v = .ref T ∧ H T = none ∧ H' = upd H T (.tup [.int (i : Nat), x]) ∧ ∀ xs, SqT K H a xs → xs[i]? = some x
  stop := fun i H => ∃ xs : List V, SqT K H a xs ∧ xs.length = i
theorem isTuple_of {h : Heap} {a : Addr} {its : Array Value} (p : PyProof.Rows.IsTup h a its) : h.IsTuple a its := by
  obtain ⟨o, h1, h2, n, h3⟩ := p
  exact ⟨o, h1, h2, n, h3⟩
theorem enT_turn {P : Program} {w : World} {K : PySem.W.Frag} {elts : List Expr} {kk : Nat} {tpos : Pos} (a e it : Addr) :
    Turn P w K (.Tuple elts kk tpos) (IteT K a) [e, it] e (fun i h => (∃ old, IsEnum h e it ((i : Nat) : Int) old) ∧ h.IsTupleIter it a i ∧ e ≠ it) where
  mem := by simp
  obj := by
    rintro i h ⟨⟨old, he⟩, ⟨o, ho, hc, hd⟩, _⟩ b hb
    have hb2 : b = e ∨ b = it := by simpa using hb
    rcases hb2 with rfl | rfl
    · exact ⟨_, he, fun v q => nomatch q⟩
    · exact ⟨o, ho, fun v q => by rw [hd] at q; cases q⟩
  keep := by
    rintro i h h' ⟨⟨old, he⟩, hi, hne⟩ k
    exact ⟨⟨old, k e (by simp) _ he⟩, hi.at fun o q => k it (by simp) o q, hne⟩
  item := by
    intro X hP hw hK hc i pins s σ H E I hf st hg
    subst hP hw hK
    obtain ⟨⟨old, he⟩, hit, hne⟩ := st
    obtain ⟨xs, x, hq, hx⟩ := hg
    obtain ⟨its, rv, p, hz⟩ := I.tuple hq
    obtain ⟨u, hu, ru⟩ := rv.get hx
    have pt := isTuple_of p
    have ae : e ≠ a := by
      rintro rfl
      obtain ⟨o, h1, h2, _⟩ := p
      have z : s.heap.get? e = some _ := he
      rw [h1] at z
      cases z
      injection h2 with z2
      exact absurd z2 (by decide)
    have ai : a ≠ it := by
      rintro rfl
      obtain ⟨o, h1, h2, _⟩ := p
      obtain ⟨o', h1', h2', _⟩ := hit
      rw [h1] at h1'
      cases h1'
      rw [h2] at h2'
      injection h2' with z2
      exact absurd z2 (by decide)
    have lo : e < s.heap.objs.size := Heap.lt_size he
    have li : it < s.heap.objs.size := by
      obtain ⟨_, z, _⟩ := hit
      exact Heap.lt_size z
    have Dr := Draws.tuple (prog := X.prog) (w := X.w) (A := X.A.in1) (I.ok.hd hc) it a ai its.toArray
    have il : i < its.toArray.size := by
      have := List.getElem?_eq_some_iff.mp hu
      simpa using this.1
    refine wpAny_pyNext_enum_itemD Dr he ⟨hit, pt⟩ il hne (by simp [hne, ae]) fun y h' tk hy ho hit' hT hsz hk => ?_
    have ey : y = u := by
      have hy2 : its[i]? = some y := by simpa using hy
      rw [hu] at hy2
      exact (Option.some.inj hy2).symm
    subst ey
    refine ⟨_, rfl, wpAny_letOwnedTupleGo_enum (s := { s with heap := h', toks := tk + 1 }) ho fun h2 he2 sb => ?_⟩
    have hT2 : h2.get? s.heap.objs.size = some { cls := .type "tuple", data := .seq #[.int i tk, y] } := (sb.2 _ (Nat.ne_of_gt lo)).trans hT
    have new : ObjOk X.prog X.w (upd H s.heap.objs.size (.tup [.int (i : Nat), x])) h2 s.heap.objs.size (.tup [.int (i : Nat), x]) := by
      refine ⟨by show 2 ≤ sizeLine; decide, [.int i tk, y], .cons ⟨_, rfl⟩ (.cons ru .nil), ?_⟩
      exact ⟨_, hT2, rfl, _, rfl⟩
    have I1 : Inv X pins σ (upd H s.heap.objs.size (.tup [.int (i : Nat), x])) { s with heap := h2, toks := tk + 1 } := by
      refine I.turnedNew (ch := [e, it]) (fun b ob hb q => ?_) hf (Nat.le_refl _) new
      have n1 : b ≠ e := fun z => hb (by simp [z])
      have n2 : b ≠ it := fun z => hb (by simp [z])
      exact (sb.2 b n1).trans (hk b ob n1 n2 q)
    refine ⟨.ref s.heap.objs.size, _, I1, rfl, ⟨_, x, rfl, I.hok.fresh (Nat.le_refl _), rfl, fun ys hy => by rw [I.tuple_inj hy hq]; exact hx⟩, ⟨⟨y, ?_⟩, hit'.1.at fun o q => (sb.2 it (Ne.symm hne)).trans q, hne⟩, fun b hb => ?_⟩
    · rw [show ((i + 1 : Nat) : Int) = (i : Int) + 1 by omega]
      exact he2
    · have hb' : b < s.heap.objs.size := by
        have hb2 : b = e ∨ b = it := by simpa using hb
        rcases hb2 with rfl | rfl
        · exact lo
        · exact li
      rw [upd_ne (Nat.ne_of_lt hb')]
      exact (hf b hb).1
  done := by
    intro X hP hw hK hc i pins s σ H E I hf st hg
    subst hP hw hK
    obtain ⟨⟨old, he⟩, hit, hne⟩ := st
    obtain ⟨xs, hq, hx⟩ := hg
    obtain ⟨its, rv, p, hz⟩ := I.tuple hq
    have hl := rv.length
    have ai : a ≠ it := by
      rintro rfl
      obtain ⟨o, h1, h2, _⟩ := p
      obtain ⟨o', h1', h2', _⟩ := hit
      rw [h1] at h1'
      cases h1'
      rw [h2] at h2'
      injection h2' with z2
      exact absurd z2 (by decide)
    obtain ⟨f0, f1, f2, f3, f4, f5⟩ := hf it (by simp)
    have Dr := Draws.tuple (prog := X.prog) (w := X.w) (A := X.A.in1) (I.ok.hd hc) it a ai its.toArray
    have hi : i = its.toArray.size := by rw [List.size_toArray, ← hl]; exact hx.symm
    rw [hi] at hit he
    exact wpAny_pyNext_enum_endD Dr he ⟨hit, isTuple_of p⟩ fun h' eb => ⟨rfl, I.turned (t' := s.toks) (fun b o hb q => eb b o hb q) f0 f1 f3 f4 f5⟩
  self := by
    rintro A i s Q E ⟨⟨_, he⟩, _⟩ h
    exact wpAny_pyIter_enum he h
def iEnT (K : PySem.W.Frag) (ta : TA) : TI := fun σ H R => ta σ H fun vs H1 => ∃ a xs, vs = [.ref a] ∧ SqT K H1 a xs ∧ R (IteT K a) H1
theorem pi_enT {X : Cx} {y : Expr} {ta : TA} {p pos tpos : Pos} {elts : List Expr} {kk : Nat} (hg : Gl X "enumerate") (hm : X.mg "enumerate" = none) (ha : PA X [y] ta) (hs : starEach [y] X.env = [(false, eval y X.env)]) :
    PI X (.Tuple elts kk tpos) (.Call (.Name "enumerate" p) [y] [] pos) (iEnT X.K ta) := by
  refine ⟨fun pins st σ H R I h => ?_⟩
  refine PyProof.Rows.Call_ (ld_blt I hg hm PyProof.Rows.boot_enumerate (PyProof.Rows.callWith_type1 (thn (ha.run pos pins st σ H _ I h) fun us st1 ⟨vs, H1, I1, r1, q1⟩ => ?_) hs rfl))
  obtain ⟨a, xs, rfl, hq, q⟩ := q1
  cases r1 with
  | cons r rr =>
    cases rr
    cases r
    obtain ⟨its, rv, p', hz⟩ := I1.tuple hq
    refine en_call (begins_tuple a its.toArray) (isTuple_of p') fun h' he hit hk => wpAny_pyIter_enum he ?_
    have I2 : Inv X pins σ H1 { st1 with heap := h' } := I1.kept (t' := st1.toks) hk
    refine ⟨st1.heap.objs.size + 1, [st1.heap.objs.size + 1, st1.heap.objs.size], _, _, H1, rfl, I2, enT_turn a (st1.heap.objs.size + 1) st1.heap.objs.size, ⟨⟨.none, he⟩, ⟨_, hit, rfl, rfl⟩, Nat.succ_ne_self _⟩, fun b hb => ?_, q⟩
    have hb2 : b = st1.heap.objs.size + 1 ∨ b = st1.heap.objs.size := by simpa using hb
    have hle : st1.heap.objs.size ≤ b := by
      rcases hb2 with z | z
      · exact z ▸ Nat.le_succ _
      · exact z ▸ Nat.le_refl _
    exact I1.fpOk hle (I1.hok.fresh hle)
end Q

set_option Elab.async false
set_option linter.all false
set_option maxRecDepth 100000
set_option maxHeartbeats 4000000
/-! R6: what is walked; comprehensions; calls of defs. -/
namespace Q
open PySem L2

/-! ### iterators -/
structure Wk (M : Mw) (J : L2.It) (H1 : Hp) (xs : List D) : Prop where
  go : ∀ i H, Same H1 H → i < xs.length → J.go i H
  stop : ∀ H, Same H1 H → J.stop xs.length H
  yld : ∀ i H u H' d, Same H1 H → xs[i]? = some d → J.yld i H u H' → (H' = H ∧ Rp M H1 u d) ∨ (∃ T ws ds, u = .ref T ∧ H T = none ∧ H' = upd H T (.tup ws) ∧ d = .tup ds ∧ Rps M H1 ws ds ∧ ds.length ≤ sizeLine)
def tI (M : Mw) (ent : Nat → Option V) (L : LE) (it : It) : TI := fun σ H R => ∃ v H1 F xs v', SV M ent σ v H1 H F ∧ evi L it v = some (xs, v') ∧
  ∀ J H1' H' F', Tr (OF F) H1 H H1' H' (OF F') → SV M ent σ v' H1' H' F' → Wk M J H1' xs → xs.length ≤ sizeLine → R J H'
theorem PI.mono {X : Cx} {tg x : Expr} {t t' : TI} (h : PI X tg x t) (m : ∀ σ H R, t' σ H R → t σ H R) : PI X tg x t' := ⟨fun pins s σ H R I q => h.run pins s σ H R I (m σ H R q)⟩
theorem PI.or {X : Cx} {tg x : Expr} {t t' : TI} (h : PI X tg x t) (h' : PI X tg x t') : PI X tg x (fun σ H R => t σ H R ∨ t' σ H R) := ⟨fun pins s σ H R I q => by
  rcases q with q | q
  · exact h.run pins s σ H R I q
  · exact h'.run pins s σ H R I q⟩
theorem relV_inj {M : Mw} {H : Hp} {u v : V} {w : Value} {d : D} (h1 : RelV u w) (h2 : RelV v w) (r : Rp M H v d) : u = v := by
  cases u <;> cases v <;> simp only [RelV] at h1 h2 <;> first
    | rfl
    | (subst h1; cases h2; rfl)
    | (subst h1; obtain ⟨t, z⟩ := h2; cases z; done)
    | (obtain ⟨t, rfl⟩ := h1; cases h2; done)
    | (obtain ⟨t, rfl⟩ := h1; obtain ⟨t', z⟩ := h2; cases z; rfl)
    | (obtain ⟨t, rfl⟩ := h1; obtain ⟨t', z⟩ := h2; cases z; done)
section
variable {M : Mw} {H1 : Hp} {a b : Addr} {vs ws : List V} {xs ys : List D}
theorem wk_list (h : H1 a = some (.lst vs)) (r : Rps M H1 vs xs) : Wk M (Itl M.K a) H1 xs := by
  refine ⟨fun i H s hi => ?_, fun H s => ⟨vs, SqL.of (s _ _ h), by rw [r.length]; exact Nat.le_refl _⟩, fun i H u H' d s e y => ?_⟩
  · obtain ⟨v, hv, _⟩ := r.get' (i := i) (d := xs[i]) (by simp [hi])
    exact ⟨vs, v, SqL.of (s _ _ h), hv⟩
  · obtain ⟨e1, y⟩ := y
    obtain ⟨v, hv, rv⟩ := r.get' e
    have z := y vs (SqL.of (s _ _ h))
    rw [hv] at z; cases z
    exact .inl ⟨e1, rv⟩
theorem wk_tup (h : SqT M.K H1 a vs) (r : Rps M H1 vs xs) : Wk M (Itt M.K a) H1 xs := by
  refine ⟨fun i H s hi => ?_, fun H s => ⟨vs, same_seqT s h, by rw [r.length]; exact Nat.le_refl _⟩, fun i H u H' d s e y => ?_⟩
  · obtain ⟨v, hv, _⟩ := r.get' (i := i) (d := xs[i]) (by simp [hi])
    exact ⟨vs, v, same_seqT s h, hv⟩
  · obtain ⟨e1, y⟩ := y
    obtain ⟨v, hv, rv⟩ := r.get' e
    have z := y vs (same_seqT s h)
    rw [hv] at z; cases z
    exact .inl ⟨e1, rv⟩
theorem wk_dk {o : Obj} {ks ds : List D} (h : H1 a = some (DX a o)) (r : DOb M H1 a o ks ds) : Wk M (ItK a o ks.length) H1 ks := by
  obtain ⟨_, _, ⟨es, ep, hd, re⟩, _, _⟩ := r
  refine ⟨fun i H s hi => ⟨s _ _ h, hi⟩, fun H s => ⟨s _ _ h, Nat.le_refl _⟩, fun i H u H' d s e y => ?_⟩
  obtain ⟨e1, y⟩ := y
  obtain ⟨en, v, kv, vv, g1, g2, g3, g4, g5, g6⟩ := re.get e
  obtain ⟨en', q1, q2⟩ := y es ep hd
  rw [Array.getElem?_toList, q1] at g1
  cases g1
  refine .inl ⟨e1, ?_⟩
  have : u = kv := relV_inj q2 g3 g4
  rw [this]; exact g4
theorem wk_dv {o : Obj} {ks ds : List D} (h : H1 a = some (DX a o)) (r : DOb M H1 a o ks ds) : Wk M (ItV a o ks.length) H1 ds := by
  obtain ⟨_, _, ⟨es, ep, hd, re⟩, _, _⟩ := r
  have hl := re.length.2
  refine ⟨fun i H s hi => ⟨s _ _ h, by omega⟩, fun H s => ⟨s _ _ h, by omega⟩, fun i H u H' d s e y => ?_⟩
  obtain ⟨e1, y⟩ := y
  have hi : i < ds.length := (List.getElem?_eq_some_iff.mp e).1
  obtain ⟨en, v, kv, vv, g1, g2, g3, g4, g5, g6⟩ := re.get (i := i) (k := ks[i]'(by omega)) (by simp)
  rw [g2] at e
  cases e
  obtain ⟨en', q1, q2⟩ := y es ep hd
  rw [Array.getElem?_toList, q1] at g1
  cases g1
  refine .inl ⟨e1, ?_⟩
  have : u = vv := relV_inj q2 g5 g6
  rw [this]; exact g6
theorem wk_str (x : Str) : Wk M (Its x) H1 (x.cps.toList.map fun c => D.str ⟨#[c]⟩) := by
  refine ⟨fun i H s hi => (show i < x.cps.size by simpa using hi), fun H s => (show x.cps.size ≤ _ by simp), fun i H u H' d s e y => ?_⟩
  obtain ⟨e1, c, q1, rfl⟩ := y
  rw [List.getElem?_map, Array.getElem?_toList, q1] at e
  cases e
  exact .inl ⟨e1, .str _⟩
theorem rngOf_len (a b : Int) : (rngOf a b).length = (b - a).toNat := by simp [rngOf]
theorem wk_rng (lo hi : Int) : Wk M (Itr lo (hi - lo).toNat) H1 (rngOf lo hi) := by
  refine ⟨fun i H s h => by rw [rngOf_len] at h; exact h, fun H s => by rw [rngOf_len]; exact Nat.le_refl _, fun i H u H' d s e y => ?_⟩
  obtain ⟨e1, rfl⟩ := y
  refine .inl ⟨e1, ?_⟩
  have hi' : i < (rngOf lo hi).length := (List.getElem?_eq_some_iff.mp e).1
  rw [rngOf_len] at hi'
  unfold rngOf at e
  rw [List.getElem?_map, List.getElem?_range hi'] at e
  cases e
  exact .int _
theorem zip_get {α β γ : Type} {f : α → β → γ} {xs : List α} {ys : List β} {i : Nat} {d : γ} (e : (List.zipWith f xs ys)[i]? = some d) : ∃ x y, xs[i]? = some x ∧ ys[i]? = some y ∧ d = f x y := by
  rw [List.getElem?_zipWith] at e
  cases ex : xs[i]? with
  | none => rw [ex] at e; cases e
  | some x =>
    cases ey : ys[i]? with
    | none => rw [ex, ey] at e; cases e
    | some y => rw [ex, ey] at e; cases e; exact ⟨x, y, rfl, rfl, rfl⟩
theorem two_le : 2 ≤ sizeLine := by rw [sizeLine_eq]; decide
theorem wk_zipL (h : H1 a = some (.lst vs)) (h' : H1 b = some (.lst ws)) (r : Rps M H1 vs xs) (r' : Rps M H1 ws ys) : Wk M (Itz M.K a b) H1 (List.zipWith (fun x y => D.tup [x, y]) xs ys) := by
  have l1 := r.length
  have l2 := r'.length
  refine ⟨fun i H s hi => ?_, fun H s => ⟨vs, ws, SqL.of (s _ _ h), SqL.of (s _ _ h'), by rw [List.length_zipWith, l1, l2]; omega⟩, fun i H u H' d s e y => ?_⟩
  · rw [List.length_zipWith] at hi
    exact ⟨vs, ws, vs[i]'(by omega), ws[i]'(by omega), SqL.of (s _ _ h), SqL.of (s _ _ h'), by simp, by simp⟩
  · obtain ⟨x, z, e1, e2, rfl⟩ := zip_get e
    obtain ⟨T, p, q, rfl, hT, rfl, y1, y2⟩ := y
    obtain ⟨v, hv, rv⟩ := r.get' e1
    obtain ⟨w, hw, rw'⟩ := r'.get' e2
    have z1 := y1 vs (SqL.of (s _ _ h))
    have z2 := y2 ws (SqL.of (s _ _ h'))
    rw [hv] at z1; cases z1
    rw [hw] at z2; cases z2
    exact .inr ⟨T, _, _, rfl, hT, rfl, rfl, .cons rv (.cons rw' .nil), two_le⟩
theorem wk_zipT (h : SqT M.K H1 a vs) (h' : SqT M.K H1 b ws) (r : Rps M H1 vs xs) (r' : Rps M H1 ws ys) : Wk M (RZ.ItzT M.K a b) H1 (List.zipWith (fun x y => D.tup [x, y]) xs ys) := by
  have l1 := r.length
  have l2 := r'.length
  refine ⟨fun i H s hi => ?_, fun H s => ⟨vs, ws, same_seqT s h, same_seqT s h', by rw [List.length_zipWith, l1, l2]; omega⟩, fun i H u H' d s e y => ?_⟩
  · rw [List.length_zipWith] at hi
    exact ⟨vs, ws, vs[i]'(by omega), ws[i]'(by omega), same_seqT s h, same_seqT s h', by simp, by simp⟩
  · obtain ⟨x, z, e1, e2, rfl⟩ := zip_get e
    obtain ⟨T, p, q, rfl, hT, rfl, y1, y2⟩ := y
    obtain ⟨v, hv, rv⟩ := r.get' e1
    obtain ⟨w, hw, rw'⟩ := r'.get' e2
    have z1 := y1 vs (same_seqT s h)
    have z2 := y2 ws (same_seqT s h')
    rw [hv] at z1; cases z1
    rw [hw] at z2; cases z2
    exact .inr ⟨T, _, _, rfl, hT, rfl, rfl, .cons rv (.cons rw' .nil), two_le⟩
theorem wk_enum (h : H1 a = some (.lst vs)) (r : Rps M H1 vs xs) : Wk M (Ite M.K a) H1 (xs.zipIdx.map fun p => D.tup [.int p.2, p.1]) := by
  have l1 := r.length
  refine ⟨fun i H s hi => ?_, fun H s => ⟨vs, SqL.of (s _ _ h), by rw [List.length_map, List.length_zipIdx, l1]; exact Nat.le_refl _⟩, fun i H u H' d s e y => ?_⟩
  · rw [List.length_map, List.length_zipIdx] at hi
    exact ⟨vs, vs[i]'(by omega), SqL.of (s _ _ h), by simp⟩
  · rw [List.getElem?_map, List.getElem?_zipIdx] at e
    cases ex : xs[i]? with
    | none => rw [ex] at e; cases e
    | some x =>
      rw [ex] at e
      cases e
      obtain ⟨T, p, rfl, hT, rfl, y1⟩ := y
      obtain ⟨v, hv, rv⟩ := r.get' ex
      have z1 := y1 vs (SqL.of (s _ _ h))
      rw [hv] at z1; cases z1
      exact .inr ⟨T, _, _, rfl, hT, rfl, rfl, .cons (by simpa using Rp.int (i : Int)) (.cons rv .nil), two_le⟩
theorem wk_enT (h : SqT M.K H1 a vs) (r : Rps M H1 vs xs) : Wk M (IteT M.K a) H1 (xs.zipIdx.map fun p => D.tup [.int p.2, p.1]) := by
  have l1 := r.length
  refine ⟨fun i H s hi => ?_, fun H s => ⟨vs, same_seqT s h, by rw [List.length_map, List.length_zipIdx, l1]⟩, fun i H u H' d s e y => ?_⟩
  · rw [List.length_map, List.length_zipIdx] at hi
    exact ⟨vs, vs[i]'(by omega), same_seqT s h, by simp⟩
  · rw [List.getElem?_map, List.getElem?_zipIdx] at e
    cases ex : xs[i]? with
    | none => rw [ex] at e; cases e
    | some x =>
      rw [ex] at e
      cases e
      obtain ⟨T, p, rfl, hT, rfl, y1⟩ := y
      obtain ⟨v, hv, rv⟩ := r.get' ex
      have z1 := y1 vs (same_seqT s h)
      rw [hv] at z1; cases z1
      exact .inr ⟨T, _, _, rfl, hT, rfl, rfl, .cons (by simpa using Rp.int (i : Int)) (.cons rv .nil), two_le⟩
end
section
variable {Φ : Tab} {N : List Str} {n : Nat} {c : Sx} {X : Cx} {cl : Nat → Addr × List Str} {ent : Nat → Option V}
theorem ab_nsp {x : Expr} {f : Str} {env : Env} {w : Sem Value} (h : nsp x = true) : attributeBase x f env w = w := by
  unfold attributeBase
  split
  · cases h
  · rfl
theorem blt_mem {C : Cn Φ cl X} {y : Str} (h : y ∈ bltNames) : X.mg y = none := C.blt y h
theorem go_it (g : GoE Φ cl N n) (C : Cn Φ cl X) (A : At Φ.cl X N c) {tg x : Expr} : ∀ {it : It}, ckI (ckE N n c) c tg x it = true → PI X tg x (tI (mw X cl) ent (lev Φ n).e it)
  | .seq e, h => by
    have p := g.v (ent := ent) (show ckE N n c x e = true from h) C A
    refine PI.mono (Q.PI.or (Q.PI.or (pi_list p) (pi_tup p)) (Q.PI.or (pi_dk (cl := cl) p) (pi_str p))) fun σ H R q => ?_
    obtain ⟨v, H1, F, xs, v', S, ev, q⟩ := q
    simp only [evi] at ev
    split at ev
    · rename_i z
      cases ev
      refine .inl (.inl (tV_of S z fun u H1' H' F' t S' r => ?_))
      cases r with
      | lst hl hz rs => exact ⟨_, rfl, ⟨_, SqL.of (S'.sub _ _ hl)⟩, q _ _ _ _ t S' (wk_list hl rs) hz⟩
    · rename_i z
      cases ev
      refine .inl (.inr (tV_of S z fun u H1' H' F' t S' r => ?_))
      cases r with
      | tup hl hz rs => exact ⟨_, rfl, ⟨_, same_seqT S'.sub hl⟩, q _ _ _ _ t S' (wk_tup hl rs) hz⟩
    · rename_i z
      cases ev
      refine .inr (.inl (tV_of S z fun u H1' H' F' t S' r => ?_))
      cases r with
      | dct h0 h1 h2 h3 h4 h5 h6 => exact ⟨_, _, _, _, H1', rfl, S'.sub _ _ h0, ⟨h1, h2, ⟨_, _, h3, h4⟩, h5, h6⟩, q _ _ _ _ t S' (wk_dk h0 ⟨h1, h2, ⟨_, _, h3, h4⟩, h5, h6⟩) h6⟩
    · rename_i x v1 z
      split at ev
      · rename_i hz
        cases ev
        refine .inr (.inr (tV_of S z fun u H1' H' F' t S' r => ?_))
        cases r with
        | str x => exact ⟨x, rfl, q _ _ _ _ t S' (wk_str x) (by rw [List.length_map, Array.length_toList, sizeLine_eq]; exact hz)⟩
      · cases ev
    · cases ev
  | .rng es, h => by
    simp only [ckI] at h
    split at h
    · rename_i y p1 xs pos
      obtain ⟨h0, h3⟩ := Bool.and_eq_true_iff.mp h
      obtain ⟨h1, h2⟩ := Bool.and_eq_true_iff.mp h0
      have ey := of_decide_eq_true h1
      subst ey
      obtain ⟨hg, _, _⟩ := gl_of A h2
      have pa := g.all (ent := ent) C A h3
      have ns := all2_noStar h3
      have hl := all2_len h3
      match xs, es, pa, ns, hl with
      | [a], [e], pa, ns, _ =>
        refine PI.mono (pi_range1 hg (C.blt _ (by decide)) pa (by rw [star_cons (ns a (by simp))]; rfl)) fun σ H R q => ?_
        obtain ⟨v, H1, F, xs, v', S, ev, q⟩ := q
        simp only [evi] at ev
        split at ev
        · rename_i b v1 z
          split at ev
          · rename_i hb
            cases ev
            refine ⟨v, H1, F, _, _, S, z, fun us H1' H' F' p => ?_⟩
            have r := p.rp
            cases r with
            | cons r1 rt =>
              cases rt
              cases r1
              refine ⟨b, rfl, hb.1, by omega, ?_⟩
              have w := wk_rng (M := mw X cl) (H1 := H1') 0 b
              rw [Int.sub_zero] at w
              exact q _ _ _ _ p.tr p.sv w (by rw [rngOf_len, sizeLine_eq]; omega)
          · cases ev
        · rename_i z
          obtain ⟨d, dr, v1, e1, e2, ed⟩ := evs_cons z
          cases e2
          cases ed
        · cases ev
      | [a, b], [e, e'], pa, ns, _ =>
        refine PI.mono (pi_range2 hg (C.blt _ (by decide)) pa (by rw [star_cons (ns a (by simp)), star_cons (ns b (by simp))]; rfl) (by rw [star_cons (ns b (by simp))]; rfl)) fun σ H R q => ?_
        obtain ⟨v, H1, F, xs, v', S, ev, q⟩ := q
        simp only [evi] at ev
        split at ev
        · rename_i z
          obtain ⟨d, dr, v1, e1, e2, ed⟩ := evs_cons z
          obtain ⟨d', dr', v2, e3, e4, ed'⟩ := evs_cons e2
          subst ed'
          cases ed
        · rename_i i j v1 z
          split at ev
          · rename_i hb
            cases ev
            refine ⟨v, H1, F, _, _, S, z, fun us H1' H' F' p => ?_⟩
            have r := p.rp
            cases r with
            | cons r1 rt =>
              cases rt with
              | cons r2 rt =>
                cases rt
                cases r1
                cases r2
                exact ⟨i, j, rfl, ⟨hb.1, hb.2.1, hb.2.2.1, hb.2.2.2.1⟩, q _ _ _ _ p.tr p.sv (wk_rng i j) (by rw [rngOf_len, sizeLine_eq]; omega)⟩
          · cases ev
        · cases ev
      | [], [], _, _, _ =>
        refine ⟨fun pins s σ H R I q => ?_⟩
        obtain ⟨v, H1, F, xs, v', S, ev, q⟩ := q
        simp only [evi, evs] at ev
        cases ev
      | _ :: _ :: _ :: _, _ :: _ :: _ :: _, _, _, _ =>
        refine ⟨fun pins s σ H R I q => ?_⟩
        obtain ⟨v, H1, F, xs, v', S, ev, q⟩ := q
        simp only [evi] at ev
        split at ev
        · rename_i z
          obtain ⟨d, dr, v1, e1, e2, ed⟩ := evs_cons z
          obtain ⟨d', dr', v2, e3, e4, ed'⟩ := evs_cons e2
          subst ed'
          cases ed
        · rename_i z
          obtain ⟨d, dr, v1, e1, e2, ed⟩ := evs_cons z
          obtain ⟨d', dr', v2, e3, e4, ed'⟩ := evs_cons e2
          obtain ⟨d'', dr'', v3, e5, e6, ed''⟩ := evs_cons e4
          subst ed'' ed'
          cases ed
        · cases ev
    · cases h
  | .zip a b, h => by
    simp only [ckI] at h
    split at h
    · rename_i y p1 x1 x2 pos
      simp only [Bool.and_eq_true] at h
      obtain ⟨⟨⟨⟨h1, h2⟩, h3⟩, h4⟩, h5⟩ := h
      have ey := of_decide_eq_true h1
      subst ey
      obtain ⟨hg, _, _⟩ := gl_of A h2
      have h34 : all2 (ckE N n c) [x1, x2] [a, b] = true := by simp [all2, h3, h4]
      have pa := g.all (ent := ent) C A h34
      have ns := all2_noStar h34
      cases tg with
      | Tuple elts kk tpos =>
        refine PI.mono (RZ.pi_zipA hg (C.blt _ (by decide)) pa (star_cons (ns x1 (by simp))) (backTo_plain fun w hw => ns w (by simp at hw; simp [hw]))) fun σ H R q => ?_
        obtain ⟨v, H1, F, xs, v', S, ev, q⟩ := q
        simp only [evi] at ev
        split at ev
        · rename_i l1 l2 v1 z
          cases ev
          refine ⟨v, H1, F, _, _, S, z, fun us H1' H' F' p => ?_⟩
          have r := p.rp
          cases r with
          | cons r1 rt =>
            cases rt with
            | cons r2 rt =>
              cases rt
              cases r1 with
              | lst hl hz rs =>
                cases r2 with
                | lst hl' hz' rs' =>
                  exact ⟨_, _, _, _, rfl, .inl ⟨SqL.of (p.sv.sub _ _ hl), SqL.of (p.sv.sub _ _ hl'), q _ _ _ _ p.tr p.sv (wk_zipL hl hl' rs rs') (by rw [List.length_zipWith]; omega)⟩⟩
        · rename_i l1 l2 v1 z
          cases ev
          refine ⟨v, H1, F, _, _, S, z, fun us H1' H' F' p => ?_⟩
          have r := p.rp
          cases r with
          | cons r1 rt =>
            cases rt with
            | cons r2 rt =>
              cases rt
              cases r1 with
              | tup hl hz rs =>
                cases r2 with
                | tup hl' hz' rs' =>
                  exact ⟨_, _, _, _, rfl, .inr ⟨same_seqT p.sv.sub hl, same_seqT p.sv.sub hl', q _ _ _ _ p.tr p.sv (wk_zipT hl hl' rs rs') (by rw [List.length_zipWith]; omega)⟩⟩
        · cases ev
      | _ => cases h5
    · cases h
  | .vals e, h => by
    simp only [ckI] at h
    split at h
    · rename_i x1 m ap cp
      simp only [Bool.and_eq_true] at h
      obtain ⟨⟨⟨h1, h2⟩, h3⟩, h4⟩ := h
      have em := of_decide_eq_true h1
      subst em
      refine PI.mono (pi_dv (cl := cl) (g.v (ent := ent) h3 C A) (ab_nsp h2) h4) fun σ H R q => ?_
      obtain ⟨v, H1, F, xs, v', S, ev, q⟩ := q
      simp only [evi] at ev
      split at ev
      · rename_i ks vs v1 z
        cases ev
        refine tV_of S z fun u H1' H' F' t S' r => ?_
        cases r with
        | dct h0 h1 h2 h3 h4 h5 h6 => exact ⟨_, _, _, _, H1', rfl, S'.sub _ _ h0, ⟨h1, h2, ⟨_, _, h3, h4⟩, h5, h6⟩, q _ _ _ _ t S' (wk_dv h0 ⟨h1, h2, ⟨_, _, h3, h4⟩, h5, h6⟩) (by rw [h4.length.2]; exact h6)⟩
      · cases ev
    · cases h
  | .enum e, h => by
    simp only [ckI] at h
    split at h
    · rename_i y p1 x1 pos
      simp only [Bool.and_eq_true] at h
      obtain ⟨⟨⟨h1, h2⟩, h3⟩, h5⟩ := h
      have ey := of_decide_eq_true h1
      subst ey
      obtain ⟨hg, _, _⟩ := gl_of A h2
      have h34 : all2 (ckE N n c) [x1] [e] = true := by simp [all2, h3]
      have pa := g.all (ent := ent) C A h34
      cases tg with
      | Tuple elts kk tpos =>
        refine PI.mono (Q.PI.or (pi_enum hg (C.blt _ (by decide)) pa (by rw [star_cons (ckE_noStar h3)]; rfl)) (pi_enT hg (C.blt _ (by decide)) pa (by rw [star_cons (ckE_noStar h3)]; rfl))) fun σ H R q => ?_
        obtain ⟨v, H1, F, xs, v', S, ev, q⟩ := q
        simp only [evi] at ev
        split at ev
        · rename_i l1 v1 z
          cases ev
          refine .inl ⟨v, H1, F, [.lst l1], v', S, by simp only [evs, z], fun us H1' H' F' p => ?_⟩
          have r := p.rp
          cases r with
          | cons r1 rt =>
            cases rt
            cases r1 with
            | lst hl hz rs =>
              exact ⟨_, _, rfl, SqL.of (p.sv.sub _ _ hl), q _ _ _ _ p.tr p.sv (wk_enum hl rs) (by rw [List.length_map, List.length_zipIdx]; exact hz)⟩
        · rename_i l1 v1 z
          cases ev
          refine .inr ⟨v, H1, F, [.tup l1], v', S, by simp only [evs, z], fun us H1' H' F' p => ?_⟩
          have r := p.rp
          cases r with
          | cons r1 rt =>
            cases rt
            cases r1 with
            | tup hl hz rs =>
              exact ⟨_, _, rfl, same_seqT p.sv.sub hl, q _ _ _ _ p.tr p.sv (wk_enT hl rs) (by rw [List.length_map, List.length_zipIdx]; exact hz)⟩
        · cases ev
      | _ => cases h5
    · cases h
end
end Q

set_option Elab.async false
set_option linter.all false
set_option maxRecDepth 100000
set_option maxHeartbeats 4000000
/-! R7: comprehensions; calls of defs. -/
namespace Q
open PySem L2
section
variable {M : Mw} {ent : Nat → Option V} {σ : L2.St} {v v' : Ev} {H1 H H1' H' : Hp} {F F' : Nat → List Addr} {L : LE}
theorem wipeE_len (v : Ev) : ∀ vs : List Nat, (wipeE v vs).length = v.length
  | [] => rfl
  | i :: r => by unfold wipeE; rw [List.length_set, wipeE_len v r]
theorem wipeE_get {j : Nat} : ∀ {vs : List Nat}, (wipeE v vs)[j]? = if j ∈ vs ∧ j < v.length then some .no else v[j]?
  | [] => by simp [wipeE]
  | i :: r => by
    unfold wipeE
    by_cases hj : i = j
    · subst hj
      by_cases hl : i < v.length
      · rw [List.getElem?_set_self (by rw [wipeE_len]; exact hl), if_pos ⟨by simp, hl⟩]
      · rw [List.getElem?_eq_none (by rw [List.length_set, wipeE_len]; omega), if_neg (fun z => hl z.2), List.getElem?_eq_none (by omega)]
    · rw [List.getElem?_set_ne hj, wipeE_get]
      simp only [List.mem_cons, show (j = i) = False from eq_false (Ne.symm hj), false_or]
theorem SV.wipe (S : SV M ent σ v H1 H F) (vs : List Nat) : ∃ F', (∀ b, OF F' b → OF F b) ∧ SV M ent (L2.wipe σ vs) (wipeE v vs) H1 H F' := by
  refine ⟨fun i => if i ∈ vs then [] else F i, fun b ⟨i, hi⟩ => ?_, S.sub, by rw [wipeE_len, wipe_length]; exact S.len, fun j sl e => ?_, fun j hj => ?_, fun i j b hi hj => ?_, fun i b hi => ?_⟩
  · try dsimp only at hi
    split at hi
    · simp at hi
    · exact ⟨i, hi⟩
  · rw [wipeE_get] at e
    split at e
    · rename_i h
      cases e
      show (if j ∈ vs then [] else F j) = []
      rw [if_pos h.1]
    · rename_i h
      have hl : j < v.length := (List.getElem?_eq_some_iff.mp e).1
      have hj : j ∉ vs := fun z => h ⟨z, hl⟩
      rw [if_neg hj]
      have q := S.slot j sl e
      cases sl with
      | no => exact q
      | «at» io sh d =>
        obtain ⟨u, h1, h2, h3⟩ := q
        refine ⟨u, ?_, h2, h3⟩
        rw [wipe_get, if_neg (fun z => hj z.1)]
        exact h1
  · rw [wipeE_len] at hj
    show (if j ∈ vs then [] else F j) = []
    split
    · rfl
    · exact S.out j hj
  · try dsimp only at hi hj
    split at hi
    · simp at hi
    · split at hj
      · simp at hj
      · exact S.nd i j b hi hj
  · try dsimp only at hi
    split at hi
    · simp at hi
    · exact S.dis i b hi
theorem SV.unwipe {vs : List Nat} (S : SV M ent (L2.wipe σ vs) v H1 H F) : SV M ent σ v H1 H F := by
  refine ⟨S.sub, by rw [S.len, wipe_length], fun j sl e => ?_, S.out, S.nd, S.dis⟩
  have q := S.slot j sl e
  cases sl with
  | no => exact q
  | «at» io sh d =>
    obtain ⟨u, h1, h2, h3⟩ := q
    exact ⟨u, (wipe_some h1).1, h2, h3⟩
theorem SV.write (S : SV M ent σ v H1 H F) {p : Addr} {o : HO} (hp : ¬ OF F p) (h1 : H1 p = none) : SV M ent σ v H1 (upd H p o) F := by
  refine S.keep (fun _ _ e => e) (fun b u e => ?_) (fun b u hb e => ?_) fun b ⟨i, hb⟩ => S.dis i b hb
  · rw [upd_ne (ne_of_none e h1)]; exact S.sub b u e
  · have ne : b ≠ p := fun z => hp (by rw [← z]; exact hb)
    rw [upd_ne ne]; exact e
theorem Tr.write {O : Addr → Prop} {p : Addr} {o : HO} (h : O p) : Tr O H1 H H1 (upd H p o) O :=
  ⟨fun _ _ e => e, fun b u e n => by
    have ne : b ≠ p := fun z => n (by rw [z]; exact h)
    rw [upd_ne ne]; exact e, fun _ e => .inl e, fun _ e => .inr e⟩
theorem SV.less {G : Nat → List Addr} (S : SV M ent σ v H1 H F) : True := trivial

/-- what a clause's test asks -/
def tCond (M : Mw) (ent : Nat → Option V) (L : LE) : Option E → TT
  | none => tYes
  | some c => tB M ent L c
theorem tCond_of {cond : Option E} {b : Bool} {Q : Bool → Hp → Prop} (S : SV M ent σ v H1 H F) (e : evc L cond v = some (b, v'))
    (q : ∀ H1' H' F', Tr (OF F) H1 H H1' H' (OF F') → SV M ent σ v' H1' H' F' → Q b H') : tCond M ent L cond σ H Q := by
  cases cond with
  | none => cases e; exact q H1 H F (Tr.refl fun _ h => h) S
  | some c => exact ⟨v, H1, F, b, v', S, e, q⟩
theorem lcGo_cons {vs : List Nat} {t : Tg} {cond : Option E} {e : E} {x : D} {r acc ds : List D} (h : lcGo L vs t cond e (x :: r) acc v = some (ds, v')) :
    ∃ v1 b v2, asgT t x v = some v1 ∧ evc L cond v1 = some (b, v2) ∧
      ((b = false ∧ lcGo L vs t cond e r acc (wipeE v2 vs) = some (ds, v')) ∨ (b = true ∧ ∃ d v3, evv L e v2 = some (d, v3) ∧ lcGo L vs t cond e r (acc ++ [d]) (wipeE v3 vs) = some (ds, v'))) := by
  simp only [lcGo] at h
  cases z : asgT t x v with
  | none => rw [z] at h; cases h
  | some v1 =>
    rw [z] at h
    dsimp only at h
    cases y : evc L cond v1 with
    | none => rw [y] at h; cases h
    | some p =>
      obtain ⟨b, v2⟩ := p
      rw [y] at h
      refine ⟨v1, b, v2, rfl, y, ?_⟩
      cases b with
      | false => exact .inl ⟨rfl, h⟩
      | true =>
        dsimp only at h
        cases w : evv L e v2 with
        | none => rw [w] at h; cases h
        | some p => rw [w] at h; exact .inr ⟨rfl, _, _, rfl, h⟩
theorem tLc_of {vs : List Nat} {t : Tg} {it : It} {cond : Option E} {e : E} {Q : VK} (hs : ∀ i ∈ t.slots, i ∈ vs) {xs ds : List D} {v1 : Ev} (S : SV M ent σ v H1 H F) (e1 : evi L it v = some (xs, v1)) (e2 : lcGo L vs t cond e xs [] (wipeE v1 vs) = some (ds, v'))
    (q : ∀ u H1' H' F' f, Post M ent σ F H1 H .lst (.lst ds) v' u H1' H' F' f → Q u H') : tLc (tI M ent L it) (tG M ent t) (tCond M ent L cond) (tV M ent L e) vs σ H Q := by
  refine ⟨v, H1, F, xs, v1, S, e1, fun J Ha Hb Fa ta Sa wk hz A hA => ?_⟩
  have hA1 : Ha A = none := Sa.sub.free hA
  obtain ⟨Fb, hFb, Sb⟩ := Sa.wipe vs
  refine ⟨fun i m Hc => ∃ (accs : List V) (acc : List D) (vc : Ev) (H1c : Hp) (Fc : Nat → List Addr), i ≤ xs.length ∧ m = xs.length - i ∧ Same Ha H1c ∧ Hc A = some (.lst accs) ∧ H1c A = none ∧ ¬ OF Fc A ∧ Rps M H1c accs acc ∧ acc.length ≤ i ∧ SV M ent (L2.wipe σ vs) vc H1c Hc Fc ∧
      Tr (OF Fa) Ha Hb H1c Hc (fun b => OF Fc b ∨ b = A) ∧ lcGo L vs t cond e (xs.drop i) acc vc = some (ds, v'),
    ⟨xs.length, [], [], _, Ha, Fb, Nat.zero_le _, by simp, fun _ _ h => h, upd_same, hA1, fun z => Sa.new hA (hFb _ z), .nil, Nat.le_refl _, Sb.laidO hA, ?_, by simpa using e2⟩, ?_⟩
  · exact (Tr.laidO hA).weak (fun _ h => h) fun b h => by
      rcases h with h | h
      · exact .inr (hFb b h)
      · exact .inl (.inr h)
  · rintro i m Hc ⟨accs, acc, vc, H1c, Fc, hi, rfl, sm, hAc, hA1c, nF, ra, la, Sc, tc, go⟩
    have sc : Same Ha Hc := fun b o h => Sc.sub b o (sm b o h)
    by_cases hlt : i < xs.length
    · refine .inr ⟨wk.go i Hc sc hlt, fun Hn => ∃ (accs : List V) (acc : List D) (vc : Ev) (H1c : Hp) (Fc : Nat → List Addr), i + 1 ≤ xs.length ∧ Same Ha H1c ∧ Hn A = some (.lst accs) ∧ H1c A = none ∧ ¬ OF Fc A ∧ Rps M H1c accs acc ∧ acc.length ≤ i + 1 ∧ SV M ent (L2.wipe σ vs) vc H1c Hn Fc ∧
        Tr (OF Fa) Ha Hb H1c Hn (fun b => OF Fc b ∨ b = A) ∧ lcGo L vs t cond e (xs.drop (i + 1)) acc vc = some (ds, v'), fun Hn ⟨a1, a2, a3, a4, a5, b1, b2, b3, b4, b5, b6, b7, b8, b9, b10⟩ => ⟨xs.length - (i + 1), by omega, a1, a2, a3, a4, a5, b1, rfl, b2, b3, b4, b5, b6, b7, b8, b9, b10⟩, fun x Hx y => ?_⟩
      have ex : xs[i]? = some xs[i] := by simp [hlt]
      rw [List.drop_eq_getElem_cons hlt] at go
      obtain ⟨v1', b, v2, g1, g2, g3⟩ := lcGo_cons go
      -- the item: its state
      have key : ∃ H1x, Same H1c H1x ∧ Hx A = some (.lst accs) ∧ H1x A = none ∧ SV M ent (L2.wipe σ vs) vc H1x Hx Fc ∧ Rp M H1x x xs[i] ∧ Tr (OF Fa) Ha Hb H1x Hx (fun b => OF Fc b ∨ b = A) := by
        rcases wk.yld i Hc x Hx _ sc ex y with ⟨rfl, r⟩ | ⟨T, ws, ds', rfl, hT, rfl, ed, r, z⟩
        · exact ⟨H1c, fun _ _ h => h, hAc, hA1c, Sc, r.mono sm, tc⟩
        · have hT1 : H1c T = none := Sc.sub.free hT
          have hne : A ≠ T := ne_of_none hAc hT
          refine ⟨upd H1c T (.tup ws), same_new hT1, by rw [upd_ne hne]; exact hAc, by rw [upd_ne hne]; exact hA1c, Sc.laidS hT trivial, ?_, tc.trans (Tr.laidS hT Sc.sub)⟩
          rw [ed]
          exact .tup (SqT.of upd_same) z (r.mono fun b o h => by
            rw [upd_ne (ne_of_none (sm b o h) hT1)]; exact sm b o h)
      obtain ⟨H1x, smx, hAx, hA1x, Sx, rx, tx⟩ := key
      refine ⟨vc, H1x, Fc, xs[i], v1', Sx, rx, g1, fun σ2 F2 h2 S2 w2 => ⟨by rw [w2 vs hs, wipe_wipe], ?_⟩⟩
      have nF2 : ¬ OF F2 A := fun z => nF (h2 _ z)
      have ew : L2.wipe σ2 vs = L2.wipe σ vs := by rw [w2 vs hs, wipe_wipe]
      refine tCond_of S2 g2 fun H1d Hd Fd td Sd => ?_
      have hAd : Hd A = some (.lst accs) := td.frame A _ hAx nF2
      have nFd : ¬ OF Fd A := fun z => by
        rcases td.own A z with q | q
        · rw [hAx] at q; cases q
        · exact nF2 q
      have hA1d : H1d A = none := by
        cases q : H1d A with
        | none => rfl
        | some o =>
          rcases td.new A (by rw [q]; simp) with z | z | z
          · exact absurd hA1x z
          · rw [hAx] at z; cases z
          · exact absurd z nF2
      have tAll : Tr (OF Fa) Ha Hb H1d Hd (fun b => OF Fd b ∨ b = A) := by
        refine tx.trans (td.weak (fun b h => .inl (h2 b h)) fun b h => ?_)
        rcases h with h | h
        · exact .inl h
        · exact .inr (.inr h)
      rcases g3 with ⟨rfl, g⟩ | ⟨rfl, d, v3, g4, g⟩
      · rw [if_neg Bool.false_ne_true]
        obtain ⟨Fw, hFw, Sw⟩ := Sd.wipe vs
        rw [ew] at Sw
        refine ⟨accs, acc, _, H1d, Fw, hlt, fun b o h => td.mono b o (smx b o (sm b o h)), hAd, hA1d, fun z => nFd (hFw _ z), ra.mono fun b o h => td.mono b o (smx b o h), by omega, Sw, tAll.weak (fun _ h => h) fun b h => ?_, g⟩
        rcases h with h | h
        · exact .inl (.inl (hFw b h))
        · exact .inl (.inr h)
      · rw [if_pos rfl]
        refine tV_of Sd g4 fun u H1e He Fe te Se ru => ?_
        have hAe : He A = some (.lst accs) := te.frame A _ hAd nFd
        have nFe : ¬ OF Fe A := fun z => by
          rcases te.own A z with q | q
          · rw [hAd] at q; cases q
          · exact nFd q
        have hA1e : H1e A = none := by
          cases q : H1e A with
          | none => rfl
          | some o =>
            rcases te.new A (by rw [q]; simp) with z | z | z
            · exact absurd hA1d z
            · rw [hAd] at z; cases z
            · exact absurd z nFd
        have lacc := ra.length
        refine ⟨accs, hAe, by omega, ?_⟩
        obtain ⟨Fw, hFw, Sw⟩ := (Se.write (o := .lst (accs ++ [u])) nFe hA1e).wipe vs
        rw [ew] at Sw
        have mono1 : Same H1c H1e := fun b o h => te.mono b o (td.mono b o (smx b o h))
        refine ⟨accs ++ [u], acc ++ [d], _, H1e, Fw, hlt, fun b o h => mono1 b o (sm b o h), upd_same, hA1e, fun z => nFe (hFw _ z), (ra.mono mono1).append (.cons ru .nil), by rw [List.length_append, List.length_singleton]; omega, Sw, ?_, g⟩
        have t3 : Tr (OF Fa) Ha Hb H1e He (fun b => OF Fe b ∨ b = A) := by
          refine tAll.trans (te.weak (fun b h => .inl h) fun b h => ?_)
          rcases h with h | h
          · exact .inl h
          · exact .inr (.inr h)
        refine (t3.trans (Tr.write (O := fun b => OF Fe b ∨ b = A) (.inr rfl))).weak (fun _ h => h) fun b h => ?_
        rcases h with h | h
        · exact .inl (.inl (hFw b h))
        · exact .inl (.inr h)
    · have ei : i = xs.length := by omega
      subst ei
      refine .inl ⟨wk.stop Hc sc, ?_⟩
      rw [List.drop_length] at go
      cases go
      refine q (.ref A) H1c Hc Fc [A] ⟨ta.trans (tc.weak (fun _ h => h) fun b h => ?_), Sc.unwipe, ⟨A, accs, _, rfl, rfl, rfl, hAc, ra, by omega⟩, fun b hb => ?_, fun b hb => ?_⟩
      · rcases h with h | h
        · exact .inl (.inl h)
        · exact .inl (.inr (by simpa using h))
      · have e : b = A := by simpa using hb
        rw [e]; exact nF
      · have e : b = A := by simpa using hb
        rw [e]; exact hA1c
end
end Q

set_option Elab.async false
set_option linter.all false
set_option maxRecDepth 100000
set_option maxHeartbeats 4000000
/-! comprehensions with two clauses -/
namespace Q
open PySem L2
section
variable {M : Mw} {ent : Nat → Option V} {σ : L2.St} {v v' : Ev} {H1 H H1' H' : Hp} {F F' : Nat → List Addr} {L : LE}
theorem most_le : mostLen ≤ sizeLine := Nat.le_of_eq (by rw [sizeLine_eq]; rfl)
theorem lcIn {vs1 : List Nat} {t1 : Tg} {it1 : It} {cond1 : Option E} {e : E} (hs1 : ∀ i ∈ t1.slots, i ∈ vs1) {ys acc acc' : List D} {v3 v4 : Ev} {A : Addr} {accs : List V} (S : SV M ent σ v H1 H F) (hA : H A = some (.lst accs)) (hA1 : H1 A = none) (nF : ¬ OF F A) (ra : Rps M H1 accs acc)
    (e1 : evi L it1 v = some (ys, v3)) (hz : acc.length + ys.length ≤ mostLen) (e2 : lcGo L vs1 t1 cond1 e ys acc (wipeE v3 vs1) = some (acc', v4)) {Nx : Hp → Prop}
    (q : ∀ accs' H1' H' F', Same H1 H1' → Tr (fun b => OF F b ∨ b = A) H1 H H1' H' (fun b => OF F' b ∨ b = A) → H' A = some (.lst accs') → H1' A = none → ¬ OF F' A → Rps M H1' accs' acc' → acc'.length ≤ mostLen → SV M ent (L2.wipe σ vs1) v4 H1' H' F' → Nx H') :
    tI M ent L it1 σ H fun J1 H4 => ∃ W1 : Nat → Nat → Hp → Prop, (∃ m, W1 0 m H4) ∧ ∀ j k H, W1 j k H →
      (J1.stop j H ∧ Nx H) ∨ (J1.go j H ∧ ∃ Nx1 : Hp → Prop, (∀ H', Nx1 H' → ∃ k', k' < k ∧ W1 (j + 1) k' H') ∧ ∀ x H', J1.yld j H x H' → tG M ent t1 x (L2.wipe σ vs1) H' fun σ3 H5 => L2.wipe σ3 vs1 = L2.wipe σ vs1 ∧ tCond M ent L cond1 σ3 H5 fun b H6 =>
        if b = true then tV M ent L e σ3 H6 fun y H7 => ∃ acc, H7 A = some (.lst acc) ∧ acc.length < sizeLine ∧ Nx1 (upd H7 A (.lst (acc ++ [y]))) else Nx1 H6) := by
  refine ⟨v, H1, F, ys, v3, S, e1, fun J Ha Hb Fa ta Sa wk hzz => ?_⟩
  have hAb : Hb A = some (.lst accs) := ta.frame A _ hA nF
  have nFa : ¬ OF Fa A := fun z => by
    rcases ta.own A z with q | q
    · rw [hA] at q; cases q
    · exact nF q
  have hA1a : Ha A = none := by
    cases q : Ha A with
    | none => rfl
    | some o =>
      rcases ta.new A (by rw [q]; simp) with z | z | z
      · exact absurd hA1 z
      · rw [hA] at z; cases z
      · exact absurd z nF
  obtain ⟨Fb, hFb, Sb⟩ := Sa.wipe vs1
  have ta' : Tr (fun b => OF F b ∨ b = A) H1 H Ha Hb (fun b => OF Fb b ∨ b = A) := ta.weak (fun b h => .inl h) fun b h => by
    rcases h with h | h
    · exact .inl (hFb b h)
    · exact .inr (.inr h)
  refine ⟨fun i m Hc => ∃ (accs : List V) (acc2 : List D) (vc : Ev) (H1c : Hp) (Fc : Nat → List Addr), i ≤ ys.length ∧ m = ys.length - i ∧ Same Ha H1c ∧ Hc A = some (.lst accs) ∧ H1c A = none ∧ ¬ OF Fc A ∧ Rps M H1c accs acc2 ∧ acc2.length ≤ acc.length + i ∧ SV M ent (L2.wipe σ vs1) vc H1c Hc Fc ∧
      Tr (fun b => OF F b ∨ b = A) H1 H H1c Hc (fun b => OF Fc b ∨ b = A) ∧ lcGo L vs1 t1 cond1 e (ys.drop i) acc2 vc = some (acc', v4),
    ⟨ys.length, accs, acc, _, Ha, Fb, Nat.zero_le _, by simp, fun _ _ h => h, hAb, hA1a, fun z => nFa (hFb _ z), ra.mono ta.mono, by omega, Sb, ta', by simpa using e2⟩, ?_⟩
  rintro i m Hc ⟨accs, acc2, vc, H1c, Fc, hi, rfl, sm, hAc, hA1c, nF, ra, la, Sc, tc, go⟩
  have sc : Same Ha Hc := fun b o h => Sc.sub b o (sm b o h)
  by_cases hlt : i < ys.length
  · refine .inr ⟨wk.go i Hc sc hlt, fun Hn => ∃ (accs : List V) (acc2 : List D) (vc : Ev) (H1c : Hp) (Fc : Nat → List Addr), i + 1 ≤ ys.length ∧ Same Ha H1c ∧ Hn A = some (.lst accs) ∧ H1c A = none ∧ ¬ OF Fc A ∧ Rps M H1c accs acc2 ∧ acc2.length ≤ acc.length + (i + 1) ∧ SV M ent (L2.wipe σ vs1) vc H1c Hn Fc ∧
      Tr (fun b => OF F b ∨ b = A) H1 H H1c Hn (fun b => OF Fc b ∨ b = A) ∧ lcGo L vs1 t1 cond1 e (ys.drop (i + 1)) acc2 vc = some (acc', v4), fun Hn ⟨a1, a2, a3, a4, a5, b1, b2, b3, b4, b5, b6, b7, b8, b9, b10⟩ => ⟨ys.length - (i + 1), by omega, a1, a2, a3, a4, a5, b1, rfl, b2, b3, b4, b5, b6, b7, b8, b9, b10⟩, fun x Hx y => ?_⟩
    have ex : ys[i]? = some ys[i] := by simp [hlt]
    rw [List.drop_eq_getElem_cons hlt] at go
    obtain ⟨v1', b, v2, g1, g2, g3⟩ := lcGo_cons go
    have key : ∃ H1x, Same H1c H1x ∧ Hx A = some (.lst accs) ∧ H1x A = none ∧ SV M ent (L2.wipe σ vs1) vc H1x Hx Fc ∧ Rp M H1x x ys[i] ∧ Tr (fun b => OF F b ∨ b = A) H1 H H1x Hx (fun b => OF Fc b ∨ b = A) := by
      rcases wk.yld i Hc x Hx _ sc ex y with ⟨rfl, r⟩ | ⟨T, ws, ds', rfl, hT, rfl, ed, r, z⟩
      · exact ⟨H1c, fun _ _ h => h, hAc, hA1c, Sc, r.mono sm, tc⟩
      · have hT1 : H1c T = none := Sc.sub.free hT
        have hne : A ≠ T := ne_of_none hAc hT
        refine ⟨upd H1c T (.tup ws), same_new hT1, by rw [upd_ne hne]; exact hAc, by rw [upd_ne hne]; exact hA1c, Sc.laidS hT trivial, ?_, tc.trans (Tr.laidS hT Sc.sub)⟩
        rw [ed]
        exact .tup (SqT.of upd_same) z (r.mono fun b o h => by
          rw [upd_ne (ne_of_none (sm b o h) hT1)]; exact sm b o h)
    obtain ⟨H1x, smx, hAx, hA1x, Sx, rx, tx⟩ := key
    refine ⟨vc, H1x, Fc, ys[i], v1', Sx, rx, g1, fun σ2 F2 h2 S2 w2 => ⟨by rw [w2 vs1 hs1, wipe_wipe], ?_⟩⟩
    have nF2 : ¬ OF F2 A := fun z => nF (h2 _ z)
    have ew : L2.wipe σ2 vs1 = L2.wipe σ vs1 := by rw [w2 vs1 hs1, wipe_wipe]
    refine tCond_of S2 g2 fun H1d Hd Fd td Sd => ?_
    have hAd : Hd A = some (.lst accs) := td.frame A _ hAx nF2
    have nFd : ¬ OF Fd A := fun z => by
      rcases td.own A z with q | q
      · rw [hAx] at q; cases q
      · exact nF2 q
    have hA1d : H1d A = none := by
      cases q : H1d A with
      | none => rfl
      | some o =>
        rcases td.new A (by rw [q]; simp) with z | z | z
        · exact absurd hA1x z
        · rw [hAx] at z; cases z
        · exact absurd z nF2
    have tAll : Tr (fun b => OF F b ∨ b = A) H1 H H1d Hd (fun b => OF Fd b ∨ b = A) := by
      refine tx.trans (td.weak (fun b h => .inl (h2 b h)) fun b h => ?_)
      rcases h with h | h
      · exact .inl h
      · exact .inr (.inr h)
    rcases g3 with ⟨rfl, g⟩ | ⟨rfl, d, v3, g4, g⟩
    · rw [if_neg Bool.false_ne_true]
      obtain ⟨Fw, hFw, Sw⟩ := Sd.wipe vs1
      rw [ew] at Sw
      refine ⟨accs, acc2, _, H1d, Fw, hlt, fun b o h => td.mono b o (smx b o (sm b o h)), hAd, hA1d, fun z => nFd (hFw _ z), ra.mono fun b o h => td.mono b o (smx b o h), by omega, Sw, tAll.weak (fun _ h => h) fun b h => ?_, g⟩
      rcases h with h | h
      · exact .inl (.inl (hFw b h))
      · exact .inl (.inr h)
    · rw [if_pos rfl]
      refine tV_of Sd g4 fun u H1e He Fe te Se ru => ?_
      have hAe : He A = some (.lst accs) := te.frame A _ hAd nFd
      have nFe : ¬ OF Fe A := fun z => by
        rcases te.own A z with q | q
        · rw [hAd] at q; cases q
        · exact nFd q
      have hA1e : H1e A = none := by
        cases q : H1e A with
        | none => rfl
        | some o =>
          rcases te.new A (by rw [q]; simp) with z | z | z
          · exact absurd hA1d z
          · rw [hAd] at z; cases z
          · exact absurd z nFd
      have lacc := ra.length
      have := most_le
      refine ⟨accs, hAe, by omega, ?_⟩
      obtain ⟨Fw, hFw, Sw⟩ := (Se.write (o := .lst (accs ++ [u])) nFe hA1e).wipe vs1
      rw [ew] at Sw
      have mono1 : Same H1c H1e := fun b o h => te.mono b o (td.mono b o (smx b o h))
      refine ⟨accs ++ [u], acc2 ++ [d], _, H1e, Fw, hlt, fun b o h => mono1 b o (sm b o h), upd_same, hA1e, fun z => nFe (hFw _ z), (ra.mono mono1).append (.cons ru .nil), by rw [List.length_append, List.length_singleton]; omega, Sw, ?_, g⟩
      have t3 : Tr (fun b => OF F b ∨ b = A) H1 H H1e He (fun b => OF Fe b ∨ b = A) := by
        refine tAll.trans (te.weak (fun b h => .inl h) fun b h => ?_)
        rcases h with h | h
        · exact .inl h
        · exact .inr (.inr h)
      refine (t3.trans (Tr.write (O := fun b => OF Fe b ∨ b = A) (.inr rfl))).weak (fun _ h => h) fun b h => ?_
      rcases h with h | h
      · exact .inl (.inl (hFw b h))
      · exact .inl (.inr h)
  · have ei : i = ys.length := by omega
    subst ei
    refine .inl ⟨wk.stop Hc sc, ?_⟩
    rw [List.drop_length] at go
    cases go
    exact q accs H1c Hc Fc (fun b o h => sm b o (ta.mono b o h)) tc hAc hA1c nF ra (by omega) Sc
theorem lc2Go_cons {vs : List Nat} {t : Tg} {cond : Option E} {vs1 : List Nat} {t1 : Tg} {it1 : It} {cond1 : Option E} {e : E} {x : D} {r acc ds : List D} (h : lc2Go L vs t cond vs1 t1 it1 cond1 e (x :: r) acc v = some (ds, v')) :
    ∃ v1 b v2, asgT t x v = some v1 ∧ evc L cond v1 = some (b, v2) ∧
      ((b = false ∧ lc2Go L vs t cond vs1 t1 it1 cond1 e r acc (wipeE v2 vs) = some (ds, v')) ∨ (b = true ∧ ∃ ys v3 acc' v4, evi L it1 v2 = some (ys, v3) ∧ acc.length + ys.length ≤ mostLen ∧ lcGo L vs1 t1 cond1 e ys acc (wipeE v3 vs1) = some (acc', v4) ∧ lc2Go L vs t cond vs1 t1 it1 cond1 e r acc' (wipeE v4 vs) = some (ds, v'))) := by
  simp only [lc2Go] at h
  cases z : asgT t x v with
  | none => rw [z] at h; cases h
  | some v1 =>
    rw [z] at h
    dsimp only at h
    cases y : evc L cond v1 with
    | none => rw [y] at h; cases h
    | some p =>
      obtain ⟨b, v2⟩ := p
      rw [y] at h
      refine ⟨v1, b, v2, rfl, y, ?_⟩
      cases b with
      | false => exact .inl ⟨rfl, h⟩
      | true =>
        dsimp only at h
        cases w : evi L it1 v2 with
        | none => rw [w] at h; cases h
        | some p =>
          obtain ⟨ys, v3⟩ := p
          rw [w] at h
          dsimp only at h
          split at h
          · rename_i hz
            cases k : lcGo L vs1 t1 cond1 e ys acc (wipeE v3 vs1) with
            | none => rw [k] at h; cases h
            | some p =>
              obtain ⟨acc', v4⟩ := p
              rw [k] at h
              exact .inr ⟨rfl, ys, v3, acc', v4, rfl, hz, k, h⟩
          · cases h
theorem wipe_sub {σ : L2.St} {vs vs1 : List Nat} (hv : ∀ i ∈ vs1, i ∈ vs) : L2.wipe (L2.wipe σ vs1) vs = L2.wipe σ vs := by
  apply List.ext_getElem?
  intro j
  rw [wipe_get, wipe_get, wipe_get, wipe_length]
  by_cases h1 : j ∈ vs ∧ j < σ.length
  · rw [if_pos h1, if_pos h1]
  · rw [if_neg h1, if_neg h1, if_neg fun z => h1 ⟨hv j z.1, z.2⟩]
theorem tLc2_of {vs : List Nat} {t : Tg} {it : It} {cond : Option E} {vs1 : List Nat} {t1 : Tg} {it1 : It} {cond1 : Option E} {e : E} {Q : VK} (hs : ∀ i ∈ t.slots, i ∈ vs) (hs1 : ∀ i ∈ t1.slots, i ∈ vs1) (hv : ∀ i ∈ vs1, i ∈ vs) {xs ds : List D} {v1 : Ev} (S : SV M ent σ v H1 H F) (e1 : evi L it v = some (xs, v1)) (e2 : lc2Go L vs t cond vs1 t1 it1 cond1 e xs [] (wipeE v1 vs) = some (ds, v'))
    (q : ∀ u H1' H' F' f, Post M ent σ F H1 H .lst (.lst ds) v' u H1' H' F' f → Q u H') : tLc2 (tI M ent L it) (tG M ent t) (tCond M ent L cond) (tI M ent L it1) (tG M ent t1) (tCond M ent L cond1) (tV M ent L e) vs vs1 σ H Q := by
  refine ⟨v, H1, F, xs, v1, S, e1, fun J Ha Hb Fa ta Sa wk hz A hA => ?_⟩
  have hA1 : Ha A = none := Sa.sub.free hA
  have hml := most_le
  obtain ⟨Fb, hFb, Sb⟩ := Sa.wipe vs
  refine ⟨fun i m Hc => ∃ (accs : List V) (acc : List D) (vc : Ev) (H1c : Hp) (Fc : Nat → List Addr), i ≤ xs.length ∧ m = xs.length - i ∧ Same Ha H1c ∧ Hc A = some (.lst accs) ∧ H1c A = none ∧ ¬ OF Fc A ∧ Rps M H1c accs acc ∧ acc.length ≤ mostLen ∧ SV M ent (L2.wipe σ vs) vc H1c Hc Fc ∧
      Tr (OF Fa) Ha Hb H1c Hc (fun b => OF Fc b ∨ b = A) ∧ lc2Go L vs t cond vs1 t1 it1 cond1 e (xs.drop i) acc vc = some (ds, v'),
    ⟨xs.length, [], [], _, Ha, Fb, Nat.zero_le _, by simp, fun _ _ h => h, upd_same, hA1, fun z => Sa.new hA (hFb _ z), .nil, Nat.zero_le _, Sb.laidO hA, ?_, by simpa using e2⟩, ?_⟩
  · exact (Tr.laidO hA).weak (fun _ h => h) fun b h => by
      rcases h with h | h
      · exact .inr (hFb b h)
      · exact .inl (.inr h)
  · rintro i m Hc ⟨accs, acc, vc, H1c, Fc, hi, rfl, sm, hAc, hA1c, nF, ra, la, Sc, tc, go⟩
    have sc : Same Ha Hc := fun b o h => Sc.sub b o (sm b o h)
    by_cases hlt : i < xs.length
    · refine .inr ⟨wk.go i Hc sc hlt, fun Hn => ∃ (accs : List V) (acc : List D) (vc : Ev) (H1c : Hp) (Fc : Nat → List Addr), i + 1 ≤ xs.length ∧ Same Ha H1c ∧ Hn A = some (.lst accs) ∧ H1c A = none ∧ ¬ OF Fc A ∧ Rps M H1c accs acc ∧ acc.length ≤ mostLen ∧ SV M ent (L2.wipe σ vs) vc H1c Hn Fc ∧
        Tr (OF Fa) Ha Hb H1c Hn (fun b => OF Fc b ∨ b = A) ∧ lc2Go L vs t cond vs1 t1 it1 cond1 e (xs.drop (i + 1)) acc vc = some (ds, v'), fun Hn ⟨a1, a2, a3, a4, a5, b1, b2, b3, b4, b5, b6, b7, b8, b9, b10⟩ => ⟨xs.length - (i + 1), by omega, a1, a2, a3, a4, a5, b1, rfl, b2, b3, b4, b5, b6, b7, b8, b9, b10⟩, fun x Hx y => ?_⟩
      have ex : xs[i]? = some xs[i] := by simp [hlt]
      rw [List.drop_eq_getElem_cons hlt] at go
      obtain ⟨v1', b, v2, g1, g2, g3⟩ := lc2Go_cons go
      have key : ∃ H1x, Same H1c H1x ∧ Hx A = some (.lst accs) ∧ H1x A = none ∧ SV M ent (L2.wipe σ vs) vc H1x Hx Fc ∧ Rp M H1x x xs[i] ∧ Tr (OF Fa) Ha Hb H1x Hx (fun b => OF Fc b ∨ b = A) := by
        rcases wk.yld i Hc x Hx _ sc ex y with ⟨rfl, r⟩ | ⟨T, ws, ds', rfl, hT, rfl, ed, r, z⟩
        · exact ⟨H1c, fun _ _ h => h, hAc, hA1c, Sc, r.mono sm, tc⟩
        · have hT1 : H1c T = none := Sc.sub.free hT
          have hne : A ≠ T := ne_of_none hAc hT
          refine ⟨upd H1c T (.tup ws), same_new hT1, by rw [upd_ne hne]; exact hAc, by rw [upd_ne hne]; exact hA1c, Sc.laidS hT trivial, ?_, tc.trans (Tr.laidS hT Sc.sub)⟩
          rw [ed]
          exact .tup (SqT.of upd_same) z (r.mono fun b o h => by
            rw [upd_ne (ne_of_none (sm b o h) hT1)]; exact sm b o h)
      obtain ⟨H1x, smx, hAx, hA1x, Sx, rx, tx⟩ := key
      refine ⟨vc, H1x, Fc, xs[i], v1', Sx, rx, g1, fun σ2 F2 h2 S2 w2 => ⟨by rw [w2 vs hs, wipe_wipe], ?_⟩⟩
      have nF2 : ¬ OF F2 A := fun z => nF (h2 _ z)
      have ew : L2.wipe σ2 vs = L2.wipe σ vs := by rw [w2 vs hs, wipe_wipe]
      refine tCond_of S2 g2 fun H1d Hd Fd td Sd => ?_
      have hAd : Hd A = some (.lst accs) := td.frame A _ hAx nF2
      have nFd : ¬ OF Fd A := fun z => by
        rcases td.own A z with q | q
        · rw [hAx] at q; cases q
        · exact nF2 q
      have hA1d : H1d A = none := by
        cases q : H1d A with
        | none => rfl
        | some o =>
          rcases td.new A (by rw [q]; simp) with z | z | z
          · exact absurd hA1x z
          · rw [hAx] at z; cases z
          · exact absurd z nF2
      have tAll : Tr (OF Fa) Ha Hb H1d Hd (fun b => OF Fd b ∨ b = A) := by
        refine tx.trans (td.weak (fun b h => .inl (h2 b h)) fun b h => ?_)
        rcases h with h | h
        · exact .inl h
        · exact .inr (.inr h)
      rcases g3 with ⟨rfl, g⟩ | ⟨rfl, ys, v3, acc', v4, g4, g5, g6, g⟩
      · rw [if_neg Bool.false_ne_true]
        obtain ⟨Fw, hFw, Sw⟩ := Sd.wipe vs
        rw [ew] at Sw
        refine ⟨accs, acc, _, H1d, Fw, hlt, fun b o h => td.mono b o (smx b o (sm b o h)), hAd, hA1d, fun z => nFd (hFw _ z), ra.mono fun b o h => td.mono b o (smx b o h), la, Sw, tAll.weak (fun _ h => h) fun b h => ?_, g⟩
        rcases h with h | h
        · exact .inl (.inl (hFw b h))
        · exact .inl (.inr h)
      · rw [if_pos rfl]
        refine lcIn hs1 Sd hAd hA1d nFd (ra.mono fun b o h => td.mono b o (smx b o h)) g4 g5 g6 fun accs' H1e He Fe se te hAe hA1e nFe re le Se => ?_
        obtain ⟨Fw, hFw, Sw⟩ := Se.wipe vs
        rw [wipe_sub hv, ew] at Sw
        refine ⟨accs', acc', _, H1e, Fw, hlt, fun b o h => se b o (td.mono b o (smx b o (sm b o h))), hAe, hA1e, fun z => nFe (hFw _ z), re, le, Sw, (tAll.trans te).weak (fun _ h => h) fun b h => ?_, g⟩
        rcases h with h | h
        · exact .inl (.inl (hFw b h))
        · exact .inl (.inr h)
    · have ei : i = xs.length := by omega
      subst ei
      refine .inl ⟨wk.stop Hc sc, ?_⟩
      rw [List.drop_length] at go
      cases go
      refine q (.ref A) H1c Hc Fc [A] ⟨ta.trans (tc.weak (fun _ h => h) fun b h => ?_), Sc.unwipe, ⟨A, accs, _, rfl, rfl, rfl, hAc, ra, by omega⟩, fun b hb => ?_, fun b hb => ?_⟩
      · rcases h with h | h
        · exact .inl (.inl h)
        · exact .inl (.inr (by simpa using h))
      · have e : b = A := by simpa using hb
        rw [e]; exact nF
      · have e : b = A := by simpa using hb
        rw [e]; exact hA1c
end
end Q

set_option Elab.async false
set_option linter.all false
set_option maxRecDepth 100000
set_option maxHeartbeats 4000000
/-! R8: calls of defs. -/
namespace Q
open PySem L2
inductive RA (M : Mw) (σ : L2.St) (H1 : Hp) : List Ar → List (Option D) → List V → Prop
  | nil : RA M σ H1 [] [] []
  | v {e : E} {u : V} {d : D} {as : List Ar} {ds : List (Option D)} {us : List V} : Rp M H1 u d → RA M σ H1 as ds us → RA M σ H1 (.v e :: as) (some d :: ds) (u :: us)
  | io {i : Nat} {u : V} {as : List Ar} {ds : List (Option D)} {us : List V} : σ[i]? = some (some u) → RA M σ H1 as ds us → RA M σ H1 (.io i :: as) (none :: ds) (u :: us)
def tAr (M : Mw) (ent : Nat → Option V) (L : LE) (as : List Ar) : TA := fun σ H Q => ∃ v H1 F ds v', SV M ent σ v H1 H F ∧ evas L as v = some (ds, v') ∧
  ∀ us H1' H' F', Tr (OF F) H1 H H1' H' (OF F') → SV M ent σ v' H1' H' F' → RA M σ H1' as ds us → Q us H'
inductive W3 (R : Nat → Sh × D → List Addr → Prop) : List Nat → List (Sh × D) → List (List Addr) → Prop
  | nil : W3 R [] [] []
  | cons {i : Nat} {d : Sh × D} {f : List Addr} {is : List Nat} {ds : List (Sh × D)} {fs : List (List Addr)} : R i d f → W3 R is ds fs → W3 R (i :: is) (d :: ds) (f :: fs)
section
variable {M : Mw} {ent : Nat → Option V} {σ : L2.St} {v v' v1 v2 : Ev} {H1 H H1' H' H1'' H'' : Hp} {F F' : Nat → List Addr} {L : LE} {as : List Ar} {ds : List (Option D)} {us : List V} {ps : List (Sh × D)} {new : List (Sh × D)} {fs fs' : List (List Addr)}
theorem setIo_len (v : Ev) (i : Nat) (s : Sh) (d : D) : (setIo v i s d).length = v.length := by
  unfold setIo
  split <;> simp
theorem setIo_self {i : Nat} {d d0 : D} {io : Bool} {s s0 : Sh} (e : v[i]? = some (.at io s0 d0)) : (setIo v i s d)[i]? = some (.at io s d) := by
  unfold setIo
  rw [e]
  exact List.getElem?_set_self (List.getElem?_eq_some_iff.mp e).1
theorem setIo_ne {i j : Nat} {s : Sh} {d : D} (h : j ≠ i) : (setIo v i s d)[j]? = v[j]? := by
  unfold setIo
  split
  · exact List.getElem?_set_ne (Ne.symm h)
  · rfl
theorem back_get {R : Nat → Sh × D → List Addr → Prop} : ∀ {is : List Nat} {new : List (Sh × D)} {fs : List (List Addr)} {v v2 : Ev}, W3 R is new fs → is.Nodup → back v is new = some v2 →
    v2.length = v.length ∧ (∀ i, i ∈ is → ∃ d f, (is.zip fs).lookup i = some f ∧ R i d f ∧ ∀ io s0 d0, v[i]? = some (.at io s0 d0) → v2[i]? = some (.at io d.1 d.2)) ∧ ∀ i, i ∉ is → (is.zip fs).lookup i = none ∧ v2[i]? = v[i]?
  | _, _, _, v, v2, .nil, _, h => by
    cases h
    exact ⟨rfl, fun i hi => by simp at hi, fun i _ => ⟨rfl, rfl⟩⟩
  | _, _, _, v, v2, @W3.cons _ i d f is ds fs r w, nd, h => by
    have nd' := List.nodup_cons.mp nd
    obtain ⟨h1, h2, h3⟩ := back_get w nd'.2 h
    refine ⟨by rw [h1, setIo_len], fun j hj => ?_, fun j hj => ?_⟩
    · by_cases e : j = i
      · subst e
        refine ⟨d, f, by simp [List.lookup], r, fun io s d0 e => ?_⟩
        rw [(h3 j nd'.1).2]
        exact setIo_self e
      · have hj' : j ∈ is := by
          rcases List.mem_cons.mp hj with z | z
          · exact absurd z e
          · exact z
        obtain ⟨d', f', a, b, c⟩ := h2 j hj'
        refine ⟨d', f', ?_, b, fun io s d0 q => c io s d0 (by rw [setIo_ne e]; exact q)⟩
        rw [List.zip_cons_cons, List.lookup_cons]
        have : (j == i) = false := by simpa using e
        rw [this]; exact a
    · have hj1 : j ≠ i := fun z => hj (by simp [z])
      have hj2 : j ∉ is := fun z => hj (by simp [z])
      obtain ⟨a, b⟩ := h3 j hj2
      refine ⟨?_, by rw [b, setIo_ne hj1]⟩
      rw [List.zip_cons_cons, List.lookup_cons]
      have : (j == i) = false := by simpa using hj1
      rw [this]; exact a
theorem lookup_pos : ∀ {is : List Nat} {fs : List (List Addr)} {i : Nat} {f : List Addr}, (is.zip fs).lookup i = some f → ∃ k : Nat, is[k]? = some i ∧ fs[k]? = some f
  | [], _, _, _, h => by cases h
  | _ :: _, [], _, _, h => by cases h
  | j :: is, g :: fs, i, f, h => by
    rw [List.zip_cons_cons, List.lookup_cons] at h
    cases e : i == j with
    | true =>
      rw [e] at h
      cases h
      exact ⟨0, by simp at e; simp [e], rfl⟩
    | false =>
      rw [e] at h
      obtain ⟨k, a, b⟩ := lookup_pos h
      exact ⟨k + 1, by simpa using a, by simpa using b⟩
/-- the parameters at the call -/
theorem io_of (S : SV M ent σ v H1 H F) : ∀ {as : List Ar} {ds : List (Option D)} {us : List V} {ps : List (Sh × D)}, RA M σ H1 as ds us → params v as ds = some ps → Io M H1 H ps us ((ioOf v as).map F)
  | _, _, _, ps, .nil, h => by cases h; exact .nil
  | _, _, _, ps, @RA.v _ _ _ e0 u d as ds us r ra, h => by
    simp only [params] at h
    cases z : params v as ds with
    | none => rw [z] at h; cases h
    | some qs =>
      rw [z] at h; cases h
      have ih := io_of S ra z
      exact .sh r ih
  | _, _, _, ps, @RA.io _ _ _ i u as ds us r ra, h => by
    simp only [params] at h
    split at h
    · rename_i io s d e
      cases z : params v as ds with
      | none => rw [z] at h; cases h
      | some qs =>
        rw [z] at h; cases h
        obtain ⟨u', h1, h2, _⟩ := S.slot i _ e
        rw [r] at h1; cases h1
        have ih := io_of S ra z
        by_cases hs : s = .sh
        · subst hs
          simp only [ioOf, e]
          exact .sh h2.1 ih
        · have ei : ioOf v (.io i :: as) = i :: ioOf v as := by
            simp only [ioOf, e]
            cases s <;> first | exact absurd rfl hs | rfl
          rw [ei]
          exact .io hs h2 ih
    · cases h
theorem w3_of (S : SV M ent σ v H1 H F) : ∀ {as : List Ar} {ds : List (Option D)} {us : List V} {ps : List (Sh × D)} {new : List (Sh × D)} {fs : List (List Addr)}, RA M σ H1 as ds us → params v as ds = some ps → No M H1'' H'' ps us new fs →
    W3 (fun i d f => ∃ io s0 d0 u, v[i]? = some (.at io s0 d0) ∧ σ[i]? = some (some u) ∧ RS M H1'' H'' d.1 u d.2 f) (ioOf v as) new fs
  | _, _, _, ps, _, _, .nil, h, no => by cases h; cases no; exact .nil
  | _, _, _, ps, _, _, @RA.v _ _ _ e0 u d as ds us r ra, h, no => by
    simp only [params] at h
    cases z : params v as ds with
    | none => rw [z] at h; cases h
    | some qs =>
      rw [z] at h; cases h
      cases no with
      | sh no =>
        have ih := w3_of S ra z no
        exact ih
      | io hs _ _ => exact absurd rfl hs
  | _, _, _, ps, _, _, @RA.io _ _ _ i u as ds us r ra, h, no => by
    simp only [params] at h
    split at h
    · rename_i io s d e
      cases z : params v as ds with
      | none => rw [z] at h; cases h
      | some qs =>
        rw [z] at h; cases h
        by_cases hs : s = .sh
        · subst hs
          simp only [ioOf, e]
          cases no with
          | sh no => exact w3_of S ra z no
          | io hs _ _ => exact absurd rfl hs
        · have ei : ioOf v (.io i :: as) = i :: ioOf v as := by
            simp only [ioOf, e]
            cases s <;> first | exact absurd rfl hs | rfl
          rw [ei]
          cases no with
          | sh no => exact absurd rfl hs
          | io hs' r' no => exact .cons ⟨io, s, d, u, e, r, r'⟩ (w3_of S ra z no)
    · cases h
theorem SV.called {is : List Nat} (S : SV M ent σ v H1' H' F') (nd : is.Nodup) (w : W3 (fun i d f => ∃ io s0 d0 u, v[i]? = some (.at io s0 d0) ∧ σ[i]? = some (some u) ∧ RS M H1'' H'' d.1 u d.2 f) is new fs') (hb : back v is new = some v2) {f : List Addr}
    (t : Tr (MF (is.map F')) H1' H' H1'' H'' (fun b => MF fs' b ∨ b ∈ f)) (sub : Same H1'' H'') (sep : Sep fs') (ap : ∀ b, MF fs' b → b ∉ f) (dj : ∀ b, MF fs' b ∨ b ∈ f → H1'' b = none) :
    ∃ F2, SV M ent σ v2 H1'' H'' F2 ∧ (∀ b, OF F2 b → MF fs' b ∨ OF F' b) ∧ ∀ b ∈ f, ¬ OF F2 b := by
  obtain ⟨bl, b1, b2⟩ := back_get w nd hb
  have mfO : ∀ b, MF (is.map F') b → OF F' b := fun b ⟨g, hg, hbg⟩ => by
    obtain ⟨i, hi, rfl⟩ := List.mem_map.mp hg
    exact ⟨i, hbg⟩
  have mfI : ∀ b j, MF (is.map F') b → b ∈ F' j → j ∈ is := fun b j ⟨g, hg, hbg⟩ hj => by
    obtain ⟨i, hi, rfl⟩ := List.mem_map.mp hg
    rw [S.nd j i b hj hbg]; exact hi
  -- what is new is not another slot's
  have apart : ∀ b j, MF fs' b ∨ b ∈ f → b ∈ F' j → j ∈ is := fun b j h hj => by
    rcases t.own b h with z | z
    · exact absurd z (S.there ⟨j, hj⟩)
    · exact mfI b j z hj
  have look : ∀ {i g}, (is.zip fs').lookup i = some g → g ∈ fs' := fun {i g} h => by
    obtain ⟨k, _, e⟩ := lookup_pos h
    exact List.mem_of_getElem? e
  refine ⟨fun i => ((is.zip fs').lookup i).getD (F' i), ⟨sub, by rw [bl]; exact S.len, fun j sl e => ?_, fun j hj => ?_, fun i j b hi hj => ?_, fun i b hi => ?_⟩, fun b ⟨i, hi⟩ => ?_, fun b hbf ⟨i, hi⟩ => ?_⟩
  · by_cases hj : j ∈ is
    · obtain ⟨d, g, l, ⟨io, s, d0, u, e0, eu, r⟩, hv⟩ := b1 j hj
      rw [hv io s d0 e0] at e
      cases e
      obtain ⟨u', h1, h2, h3⟩ := S.slot j _ e0
      rw [eu] at h1; cases h1
      refine ⟨u, eu, ?_, h3⟩
      rw [l]; exact r
    · obtain ⟨l, hv⟩ := b2 j hj
      rw [hv] at e
      have q := S.slot j sl e
      rw [l]
      show SlotOk M ent σ H1'' H'' j (F' j) sl
      cases sl with
      | no => exact q
      | «at» io s d =>
        obtain ⟨u, h1, h2, h3⟩ := q
        exact ⟨u, h1, h2.step t.mono fun b o hbj hbo => t.frame b o hbo fun z => hj (mfI b j z hbj), h3⟩
  · have hj' : v.length ≤ j := by rw [← bl]; exact hj
    have hn : j ∉ is := fun z => by
      obtain ⟨d, g, l, ⟨io, s, d0, u, e0, _⟩, _⟩ := b1 j z
      exact absurd (List.getElem?_eq_some_iff.mp e0).1 (by omega)
    show ((is.zip fs').lookup j).getD (F' j) = []
    rw [(b2 j hn).1]
    exact S.out j hj'
  · try dsimp only at hi hj
    by_cases h1 : i ∈ is
    · obtain ⟨d, g, l, _⟩ := b1 i h1
      rw [l] at hi
      have hi : b ∈ g := hi
      by_cases h2 : j ∈ is
      · obtain ⟨d', g', l', _⟩ := b1 j h2
        rw [l'] at hj
        have hj : b ∈ g' := hj
        obtain ⟨k, k1, k2⟩ := lookup_pos l
        obtain ⟨k', k1', k2'⟩ := lookup_pos l'
        have := sep k k' g g' b k2 k2' hi hj
        subst this
        rw [k1] at k1'; cases k1'; rfl
      · rw [(b2 j h2).1] at hj
        have hj : b ∈ F' j := hj
        exact absurd (apart b j (.inl ⟨g, look l, hi⟩) hj) h2
    · rw [(b2 i h1).1] at hi
      have hi : b ∈ F' i := hi
      by_cases h2 : j ∈ is
      · obtain ⟨d', g', l', _⟩ := b1 j h2
        rw [l'] at hj
        have hj : b ∈ g' := hj
        exact absurd (apart b i (.inl ⟨g', look l', hj⟩) hi) h1
      · rw [(b2 j h2).1] at hj
        exact S.nd i j b hi hj
  · try dsimp only at hi
    by_cases h1 : i ∈ is
    · obtain ⟨d, g, l, _⟩ := b1 i h1
      rw [l] at hi
      exact dj b (.inl ⟨g, look l, hi⟩)
    · rw [(b2 i h1).1] at hi
      have hi : b ∈ F' i := hi
      cases q : H1'' b with
      | none => rfl
      | some o =>
        rcases t.new b (by rw [q]; simp) with z | z | z
        · exact absurd (S.dis i b hi) z
        · exact absurd z (S.there ⟨i, hi⟩)
        · exact absurd (mfI b i z hi) h1
  · try dsimp only at hi
    by_cases h1 : i ∈ is
    · obtain ⟨d, g, l, _⟩ := b1 i h1
      rw [l] at hi
      exact .inl ⟨g, look l, hi⟩
    · rw [(b2 i h1).1] at hi
      exact .inr ⟨i, hi⟩
  · try dsimp only at hi
    by_cases h1 : i ∈ is
    · obtain ⟨d, g, l, _⟩ := b1 i h1
      rw [l] at hi
      exact ap b ⟨g, look l, hi⟩ hbf
    · rw [(b2 i h1).1] at hi
      exact h1 (apart b i (.inr hbf) hi)
theorem sep_map {is : List Nat} (S : SV M ent σ v H1 H F) (nd : is.Nodup) : Sep (is.map F) := by
  intro i j f g b hi hj hf hg
  rw [List.getElem?_map] at hi hj
  cases a : is[i]? with
  | none => rw [a] at hi; cases hi
  | some k =>
    cases a' : is[j]? with
    | none => rw [a'] at hj; cases hj
    | some l =>
      rw [a] at hi; rw [a'] at hj
      cases hi; cases hj
      have e := S.nd k l b hf hg
      subst e
      obtain ⟨h1, e1⟩ := List.getElem?_eq_some_iff.mp a
      obtain ⟨h2, e2⟩ := List.getElem?_eq_some_iff.mp a'
      exact (List.getElem_inj nd).mp (e1.trans e2.symm)
theorem tCall_of {Fm : Fn} {s : Sh} {d : D} {Q : VK} (S : SV M ent σ v H1 H F) (e1 : evas L as v = some (ds, v1)) (nd : (ioOf v1 as).Nodup) (e2 : params v1 as ds = some ps) (e3 : Fm ps = some (s, d, new)) (e4 : back v1 (ioOf v1 as) new = some v2)
    (q : ∀ u H1' H' F' f, Post M ent σ F H1 H s d v2 u H1' H' F' f → Q u H') : tCall (spOf M Fm) [] E0 (tAr M ent L as) σ H Q := by
  refine ⟨v, H1, F, ds, v1, S, e1, fun us Ha Hb Fa ta Sa ra => ?_⟩
  show spOf M Fm (us ++ []) Hb Q E0
  rw [List.append_nil]
  refine ⟨ps, s, d, new, Ha, (ioOf v1 as).map Fa, Sa.sub, io_of Sa ra e2, sep_map Sa nd, fun b ⟨g, hg, hb⟩ => ?_, e3, fun u Hc Hd fs' f t sub no rs sep ap dj => ?_⟩
  · obtain ⟨i, _, rfl⟩ := List.mem_map.mp hg
    exact Sa.dis i b hb
  · obtain ⟨F2, S2, o2, a2⟩ := Sa.called nd (w3_of Sa ra e2 no) e4 t sub sep ap dj
    refine q u Hc Hd F2 f ⟨ta.trans (t.weak (fun b ⟨g, hg, hb⟩ => ?_) fun b h => ?_), S2, rs, a2, fun b hb => dj b (.inr hb)⟩
    · obtain ⟨i, _, rfl⟩ := List.mem_map.mp hg
      exact ⟨i, hb⟩
    · rcases h with h | h
      · rcases o2 b h with h | h
        · exact .inl (.inl h)
        · exact .inr h
      · exact .inl (.inr h)
theorem tCallo_of {Fm : Fn} {e : E} {s : Sh} {d d' : D} {x : Sh × D} {Q : VK} (S : SV M ent σ v H1 H F) (e1 : L e v = some (.lst, d, v1)) (e3 : Fm [(.lst, d)] = some (s, d', [x]))
    (q : ∀ u H1' H' F' f, Post M ent σ F H1 H s d' v1 u H1' H' F' f → Q u H') : tE M ent L e σ H fun u H1 => spOf M Fm [u] H1 Q E0 := by
  refine ⟨v, H1, F, .lst, d, v1, S, e1, fun u Ha Hb Fa f p => ?_⟩
  refine ⟨[(.lst, d)], s, d', [x], Ha, [f], p.sv.sub, .io (by intro z; cases z) p.rs .nil, ?_, ?_, e3, fun u2 Hc Hd fs' f2 t sub no rs sep ap dj => ?_⟩
  · intro i j f1 g1 b hi hj _ _
    cases i with
    | zero => cases j with
      | zero => rfl
      | succ j => simp at hj
    | succ i => simp at hi
  · intro b ⟨g, hg, hb⟩
    rw [List.mem_singleton.mp hg] at hb
    exact p.dj b hb
  · have off : ∀ b, OF Fa b → ¬ MF [f] b := fun b hb ⟨g, hg, hbg⟩ => by
      rw [List.mem_singleton.mp hg] at hbg
      exact p.ap b hbg hb
    have S2 : SV M ent σ v1 Hc Hd Fa := by
      refine p.sv.keep t.mono sub (fun b o hb h => t.frame b o h (off b hb)) fun b hb => ?_
      cases z : Hc b with
      | none => rfl
      | some o =>
        rcases t.new b (by rw [z]; simp) with h | h | h
        · obtain ⟨i, hi⟩ := hb
          exact absurd (p.sv.dis i b hi) h
        · exact absurd h (p.sv.there hb)
        · exact absurd h (off b hb)
    refine q u2 Hc Hd Fa f2 ⟨p.tr.trans (t.weak (fun b ⟨g, hg, hb⟩ => ?_) fun b h => ?_), S2, rs, fun b hb z => ?_, fun b hb => dj b (.inr hb)⟩
    · rw [List.mem_singleton.mp hg] at hb
      exact .inr hb
    · rcases h with h | h
      · exact .inr (.inl h)
      · exact .inl (.inr h)
    · rcases t.own b (.inr hb) with h | h
      · exact absurd h (p.sv.there z)
      · exact off b z h
end
end Q

set_option Elab.async false
set_option linter.all false
set_option maxRecDepth 100000
set_option maxHeartbeats 8000000
/-! R9: expressions are sound. -/
namespace Q
open PySem L2
section
variable {Φ : Tab} {N : List Str} {n : Nat} {c : Sx} {X : Cx} {cl : Nat → Addr × List Str} {ent : Nat → Option V}
/-! ### small facts -/
theorem size1000 {k : Nat} (h : k < 1000) : k ≤ sizeLine := by rw [sizeLine_eq]; omega
theorem set_dct {a : List Expr} {b : Nat} {d : Pos} {ks es : List E} (h : ckE N (n + 1) c (.Set a b d) (.dct ks es) = true) : False := by
  simp only [ckE] at h
  split at h <;> cases h
theorem ckE_set {a : List Expr} {b : Nat} {d : Pos} {e : E} (h : ckE N n c (.Set a b d) e = true) : False := by
  induction n generalizing e with
  | zero => cases h
  | succ n ih =>
    cases e with
    | pv p => cases p <;> cases h
    | dct ks es => exact set_dct h
    | bor e => exact ih h
    | frz e => exact ih h
    | _ => cases h
theorem ckE_noSet {op : CmpOp} {z : Expr} {e : E} (h : ckE N n c z e = true) : behindInMarks op z = false := by
  cases z with
  | Set a b d => exact (ckE_set h).elim
  | _ => rfl
theorem plainIx {z : Expr} (h : notSlice z = true) : PlainIx z := by
  intro o i
  cases z <;> first | rfl | cases h
theorem evs_len {L : LE} : ∀ {es : List E} {v v' : Ev} {ds : List D}, evs L es v = some (ds, v') → ds.length = es.length
  | [], _, _, _, h => by cases h; rfl
  | e :: r, v, v', ds, h => by
    obtain ⟨d, dr, v1, _, h2, rfl⟩ := evs_cons h
    rw [List.length_cons, List.length_cons, evs_len h2]
theorem tyName_ok {y : Str} {s : String} (h : tyName y = some s) : bootBuiltins y = some (.type s) ∧ s ∈ ["int", "bool", "str", "list", "tuple", "dict"] ∧ y ∈ bltNames := by
  unfold tyName at h
  repeat' split at h
  all_goals first
    | (cases h; done)
    | (cases h; subst_vars; exact ⟨by decide +kernel, by decide, by decide +kernel⟩)
def tyAll : List String := ["NoneType", "bool", "int", "str", "list", "tuple", "dict"]
theorem kitB_all : (tyAll.all fun a => (["int", "bool", "str", "list", "tuple", "dict"] : List String).all fun b => decide (kitB a b = some (isiOne a b))) = true := by decide +kernel
theorem kit_at {K : PySem.W.Frag} {a b : String} (ha : a ∈ tyAll) (hb : b ∈ (["int", "bool", "str", "list", "tuple", "dict"] : List String)) : PySem.W.kitOne K (.type a) (.type b) = some (isiOne a b) :=
  kit_ty (of_decide_eq_true (List.all_eq_true.mp (List.all_eq_true.mp kitB_all a ha) b hb))
theorem kit_any {K : PySem.W.Frag} {a : String} (ha : a ∈ tyAll) : ∀ {ts : List String}, (∀ t ∈ ts, t ∈ (["int", "bool", "str", "list", "tuple", "dict"] : List String)) → PySem.W.kitAny K (.type a) (ts.map Value.type) = some (ts.any fun t => isiOne a t)
  | [], _ => rfl
  | t :: r, h => by
    refine kitAny_cons (kit_at ha (h t (by simp))) (fun e => ?_) fun e => ?_
    · rw [kit_any ha fun t' ht => h t' (by simp [ht]), List.any_cons, e, Bool.false_or]
    · rw [List.any_cons, e, Bool.true_or]
/-- what isinstance asks of a value -/
def TyD (K : PySem.W.Frag) (H : Hp) (x : V) (t : Value) : Prop := TyX K H x t ∨ ∃ a o, x = .ref a ∧ H a = some (DX a o) ∧ o.cls = .type "dict" ∧ t = .type "dict"
theorem kit_ofD {pins : List (Addr × Obj)} {σ : L2.St} {H : Hp} {s : Shared} {x : V} {u t : Value} (I : Inv X pins σ H s) (rx : RelV x u) (ty : TyD X.K H x t) : ∃ P : Heap → Prop, PySem.W.KitX X.K u t P ∧ P s.heap ∧ u ≠ .builtin "__main__.__loader__#opaque" := by
  rcases ty with ty | ⟨a, o, rfl, h1, h2, rfl⟩
  · exact kit_of I rx ty
  · cases (show u = Value.ref a from rx)
    exact ⟨_, PySem.W.kitx_dict, ⟨o, dx_get I h1, h2⟩, fun z => nomatch z⟩
theorem call_isiD : CallR X (.builtin "isinstance") (fun xs H Q => ∃ (x c : V) (t u : Value) (b : Bool), xs = [x, c] ∧ ClsV c u ∧ TyD X.K H x t ∧ PySem.W.kitOne X.K t u = some b ∧ Q (.bl b) H) := fun pins s σ H xs us Q I r ⟨x, c, t, u, b, ex, k, ty, e, q⟩ => by
  subst ex
  obtain ⟨u1, u2, rfl, r1, r2⟩ := vals2 r
  have e2 := k.eq r2
  subst e2
  obtain ⟨P, Z, p, hx⟩ := kit_ofD I r1 ty
  exact PySem.W.kia_one Z I.kIn p e hx fun tk => ⟨.bl b, H, I.tok tk, rfl, q⟩
theorem call_isiTD : CallR X (.builtin "isinstance") (fun xs H Q => ∃ (x : V) (tp : Addr) (cs : List V) (t : Value) (us : List Value) (b : Bool), xs = [x, .ref tp] ∧ H tp = some (.tup cs) ∧ Paired ClsV cs us ∧ TyD X.K H x t ∧ PySem.W.kitAny X.K t us = some b ∧ Q (.bl b) H) := fun pins s σ H xs us Q I r ⟨x, tp, cs, t, ws, b, ex, hT, k, ty, e, q⟩ => by
  subst ex
  obtain ⟨u1, u2, rfl, r1, r2⟩ := vals2 r
  cases (show u2 = Value.ref tp from r2)
  obtain ⟨P, Z, p, hx⟩ := kit_ofD I r1 ty
  obtain ⟨_, its, rv, o, h1, h2, n, h3⟩ := (show ObjOk X.prog X.w H s.heap tp (.tup cs) from I.hok tp _ hT)
  have e3 := ClsV.all k rv
  subst e3
  obtain ⟨oc, od, dt, sl⟩ := o
  simp only at h2 h3
  subst h2 h3
  exact PySem.W.kia_tup Z I.kIn p h1 e hx fun tk => ⟨.bl b, H, I.tok tk, rfl, q⟩
def isIns : D → Bool
  | .ins _ _ => true
  | _ => false
theorem Rp.ty {M : Mw} {H : Hp} {u : V} {d : D} (r : Rp M H u d) (ni : isIns d = false) : TyD M.K H u (.type (tyOf d)) ∧ tyOf d ∈ tyAll := by
  cases r with
  | ins _ _ _ => cases ni
  | dct h0 h1 h2 h3 h4 h5 h6 => exact ⟨.inr ⟨_, _, rfl, h0, h2.1, rfl⟩, by simp [tyOf, tyAll]⟩
  | non => exact ⟨.inl (.base .non), by simp [tyOf, tyAll]⟩
  | bl b => exact ⟨.inl (.base (.bl b)), by simp [tyOf, tyAll]⟩
  | int i => exact ⟨.inl (.base (.int i)), by simp [tyOf, tyAll]⟩
  | str x => exact ⟨.inl (.base (.str x)), by simp [tyOf, tyAll]⟩
  | lst h _ _ => exact ⟨.inl (.base (.lst h)), by simp [tyOf, tyAll]⟩
  | tup h _ _ =>
    refine ⟨?_, by simp [tyOf, tyAll]⟩
    rcases h with (h | ⟨o, h⟩) | ⟨o, its, m, h1, h2, _⟩
    · exact .inl (.base (.tup h))
    · exact .inl (.fTuple h)
    · exact .inl (.kTuple h1 h2)
/-- the classes of an isinstance -/
theorem go_tys (C : Cn Φ cl X) (A : At Φ.cl X N c) : ∀ {xs : List Expr} {ts : List String}, tyNames c xs ts = true → PA X xs (fun σ H Q => Q (ts.map V.ty) H) ∧ (∀ t ∈ ts, t ∈ (["int", "bool", "str", "list", "tuple", "dict"] : List String)) ∧ xs.length = ts.length ∧ ∀ x ∈ xs, NoStar x
  | [], [], _ => ⟨PA.mono pa_nil fun _ _ _ h => h, fun t h => by simp at h, rfl, fun x h => by simp at h⟩
  | x :: r, t :: ts, h => by
    cases x with
    | Name y pos =>
      simp only [tyNames, Bool.and_eq_true] at h
      obtain ⟨⟨h1, h2⟩, h3⟩ := h
      obtain ⟨hg, hd, hn⟩ := gl_of A h1
      obtain ⟨k1, k2, k3⟩ := tyName_ok (of_decide_eq_true h2)
      obtain ⟨p, q1, q2, q3⟩ := go_tys C A h3
      refine ⟨PA.mono (pa_cons (pe_bltn (v := .ty t) hg (C.blt y k3) k1 rfl hn hd) p (star_cons trivial)) fun σ H Q q => q, fun t' ht => ?_, by simp [q2], fun x hx => ?_⟩
      · rcases List.mem_cons.mp ht with rfl | ht
        · exact k2
        · exact q1 t' ht
      · rcases List.mem_cons.mp hx with rfl | hx
        · trivial
        · exact q3 x hx
    | _ => simp [tyNames] at h
  | [], _ :: _, h => by simp [tyNames] at h
  | x :: _, [], h => by cases x <;> simp [tyNames] at h
theorem cls_all : ∀ ts : List String, Paired ClsV (ts.map V.ty) (ts.map Value.type)
  | [] => .nil
  | t :: r => .cons (.ty t) (cls_all r)
theorem thnR {M : Mw} {σ : L2.St} {v : Ev} {H1 H : Hp} {F F' : Nat → List Addr} {Ha Hb : Hp} {v' : Ev} {d : D} {u : V} (t : Tr (OF F) H1 H Ha Hb (OF F')) (S : SV M ent σ v' Ha Hb F') (r : Rp M Ha u d) : Post M ent σ F H1 H .sh d v' u Ha Hb F' [] :=
  (NewR.old S.sub r).post S t

/-! ### and, or -/
def tAn (M : Mw) (ent : Nat → Option V) (L : LE) (f : LE → E → List E → Ev → Option (D × Ev)) (a : E) (es : List E) : TE := fun σ H Q => ∃ v H1 F d v', SV M ent σ v H1 H F ∧ f L a es v = some (d, v') ∧ ∀ u H1' H' F', PostV M ent σ F H1 H d v' u H1' H' F' → Q u H'
def tAb (M : Mw) (ent : Nat → Option V) (L : LE) (f : LE → E → List E → Ev → Option (D × Ev)) (a : E) (es : List E) : TT := fun σ H Q => ∃ v H1 F b v', SV M ent σ v H1 H F ∧ f L a es v = some (.bl b, v') ∧ ∀ H1' H' F', Tr (OF F) H1 H H1' H' (OF F') → SV M ent σ v' H1' H' F' → Q b H'
theorem evt_v {L : LE} {e : E} {v v' : Ev} {b : Bool} (h : evt L e v = some (b, v')) : evv L e v = some (.bl b, v') := by
  unfold evt at h
  split at h
  · rename_i z; cases h; exact z
  · cases h
theorem evAnd_cons {L : LE} {a b : E} {r : List E} {v v' : Ev} {d : D} (h : evAnd L a (b :: r) v = some (d, v')) : ∃ v1, (evt L a v = some (true, v1) ∧ evAnd L b r v1 = some (d, v')) ∨ (evt L a v = some (false, v') ∧ d = .bl false) := by
  simp only [evAnd] at h
  cases z : evt L a v with
  | none => rw [z] at h; cases h
  | some p =>
    obtain ⟨k, v1⟩ := p
    rw [z] at h
    cases k with
    | true => exact ⟨v1, .inl ⟨rfl, h⟩⟩
    | false => cases h; exact ⟨v, .inr ⟨rfl, rfl⟩⟩
theorem evOr_cons {L : LE} {a b : E} {r : List E} {v v' : Ev} {d : D} (h : evOr L a (b :: r) v = some (d, v')) : ∃ v1, (evt L a v = some (false, v1) ∧ evOr L b r v1 = some (d, v')) ∨ (evt L a v = some (true, v') ∧ d = .bl true) := by
  simp only [evOr] at h
  cases z : evt L a v with
  | none => rw [z] at h; cases h
  | some p =>
    obtain ⟨k, v1⟩ := p
    rw [z] at h
    cases k with
    | false => exact ⟨v1, .inl ⟨rfl, h⟩⟩
    | true => cases h; exact ⟨v, .inr ⟨rfl, rfl⟩⟩
theorem go_and (g : GoE Φ cl N n) (C : Cn Φ cl X) (A : At Φ.cl X N c) {pos : Pos} : ∀ {ys : List Expr} {y : Expr} {a : E} {es : List E}, ckE N n c y a = true → all2 (ckE N n c) ys es = true → PE X (.BoolOp .And (y :: ys) pos) (tAn (mw X cl) ent (lev Φ n).e evAnd a es)
  | [], y, a, [], h, _ => by
    refine PE.mono (pe_one (g.v (ent := ent) h C A)) fun σ H Q q => ?_
    obtain ⟨v, H1, F, d, v', S, e, q⟩ := q
    exact ⟨v, H1, F, d, v', S, e, q⟩
  | z :: zs, y, a, b :: es, h, h2 => by
    have h2' := Bool.and_eq_true_iff.mp h2
    refine PE.mono (pe_and (g.v (ent := ent) h C A) (go_and g C A h2'.1 h2'.2)) fun σ H Q q => ?_
    obtain ⟨v, H1, F, d, v', S, e, q⟩ := q
    obtain ⟨v1, ⟨e1, e2⟩ | ⟨e1, rfl⟩⟩ := evAnd_cons e
    · refine tV_of S (evt_v e1) fun u Ha Hb Fa t Sa r => ?_
      cases r
      refine ⟨true, rfl, ?_⟩
      rw [if_pos rfl]
      exact ⟨v1, Ha, Fa, d, v', Sa, e2, fun u H1' H' F' p => q u H1' H' F' ⟨t.trans p.tr, p.sv, p.rp⟩⟩
    · refine tV_of S (evt_v e1) fun u Ha Hb Fa t Sa r => ?_
      cases r
      refine ⟨false, rfl, ?_⟩
      rw [if_neg Bool.false_ne_true]
      exact q _ Ha Hb Fa ⟨t, Sa, .bl false⟩
  | [], _, _, _ :: _, _, h => by cases h
  | _ :: _, _, _, [], _, h => by cases h
theorem go_or (g : GoE Φ cl N n) (C : Cn Φ cl X) (A : At Φ.cl X N c) {pos : Pos} : ∀ {ys : List Expr} {y : Expr} {a : E} {es : List E}, ckE N n c y a = true → all2 (ckE N n c) ys es = true → PE X (.BoolOp .Or (y :: ys) pos) (tAn (mw X cl) ent (lev Φ n).e evOr a es)
  | [], y, a, [], h, _ => by
    refine PE.mono (pe_one (g.v (ent := ent) h C A)) fun σ H Q q => ?_
    obtain ⟨v, H1, F, d, v', S, e, q⟩ := q
    exact ⟨v, H1, F, d, v', S, e, q⟩
  | z :: zs, y, a, b :: es, h, h2 => by
    have h2' := Bool.and_eq_true_iff.mp h2
    refine PE.mono (pe_or (g.v (ent := ent) h C A) (go_or g C A h2'.1 h2'.2)) fun σ H Q q => ?_
    obtain ⟨v, H1, F, d, v', S, e, q⟩ := q
    obtain ⟨v1, ⟨e1, e2⟩ | ⟨e1, rfl⟩⟩ := evOr_cons e
    · refine tV_of S (evt_v e1) fun u Ha Hb Fa t Sa r => ?_
      cases r
      refine ⟨false, rfl, ?_⟩
      rw [if_neg Bool.false_ne_true]
      exact ⟨v1, Ha, Fa, d, v', Sa, e2, fun u H1' H' F' p => q u H1' H' F' ⟨t.trans p.tr, p.sv, p.rp⟩⟩
    · refine tV_of S (evt_v e1) fun u Ha Hb Fa t Sa r => ?_
      cases r
      refine ⟨true, rfl, ?_⟩
      rw [if_pos rfl]
      exact q _ Ha Hb Fa ⟨t, Sa, .bl true⟩
  | [], _, _, _ :: _, _, h => by cases h
  | _ :: _, _, _, [], _, h => by cases h
theorem PW.mono {X : Cx} {e : Expr} {t t' : TT} (h : PW X e t) (m : ∀ σ H Q, t' σ H Q → t σ H Q) : PW X e t' := ⟨fun wh pins s σ H Q I q => h.run wh pins s σ H Q I (m σ H Q q)⟩
theorem tB_of {M : Mw} {σ : L2.St} {v v' : Ev} {H1 H : Hp} {F : Nat → List Addr} {L : LE} {e : E} {b : Bool} {Q : Bool → Hp → Prop} (S : SV M ent σ v H1 H F) (h : evt L e v = some (b, v')) (q : ∀ H1' H' F', Tr (OF F) H1 H H1' H' (OF F') → SV M ent σ v' H1' H' F' → Q b H') : tB M ent L e σ H Q := ⟨v, H1, F, b, v', S, h, q⟩
theorem evt_of {L : LE} {e : E} {v v' : Ev} {b : Bool} (h : evv L e v = some (.bl b, v')) : evt L e v = some (b, v') := by
  unfold evt; rw [h]
theorem go_andT (g : GoE Φ cl N n) (C : Cn Φ cl X) (A : At Φ.cl X N c) {pos : Pos} : ∀ {ys : List Expr} {y : Expr} {a : E} {es : List E}, ckE N n c y a = true → tst a = true → all2 (ckE N n c) ys es = true → es.all tst = true → PW X (.BoolOp .And (y :: ys) pos) (tAb (mw X cl) ent (lev Φ n).e evAnd a es)
  | [], y, a, [], h, ht, _, _ => by
    refine PW.mono (pw_and1 ((g c y a h X C A ent).2 ht)) fun σ H Q q => ?_
    obtain ⟨v, H1, F, b, v', S, e, q⟩ := q
    exact tB_of S (evt_of e) q
  | z :: zs, y, a, b :: es, h, ht, h2, h3 => by
    have h2' := Bool.and_eq_true_iff.mp h2
    have h3' := Bool.and_eq_true_iff.mp h3
    refine PW.mono (pw_and ((g c y a h X C A ent).2 ht) (go_andT g C A h2'.1 h3'.1 h2'.2 h3'.2)) fun σ H Q q => ?_
    obtain ⟨v, H1, F, b, v', S, e, q⟩ := q
    obtain ⟨v1, ⟨e1, e2⟩ | ⟨e1, eb⟩⟩ := evAnd_cons e
    · refine tB_of S e1 fun Ha Hb Fa t Sa => ?_
      rw [if_pos rfl]
      exact ⟨v1, Ha, Fa, b, v', Sa, e2, fun H1' H' F' t' S' => q H1' H' F' (t.trans t') S'⟩
    · cases eb
      refine tB_of S e1 fun Ha Hb Fa t Sa => ?_
      rw [if_neg Bool.false_ne_true]
      exact q Ha Hb Fa t Sa
  | [], _, _, _ :: _, _, _, h, _ => by cases h
  | _ :: _, _, _, [], _, _, h, _ => by cases h
theorem go_orT (g : GoE Φ cl N n) (C : Cn Φ cl X) (A : At Φ.cl X N c) {pos : Pos} : ∀ {ys : List Expr} {y : Expr} {a : E} {es : List E}, ckE N n c y a = true → tst a = true → all2 (ckE N n c) ys es = true → es.all tst = true → PW X (.BoolOp .Or (y :: ys) pos) (tAb (mw X cl) ent (lev Φ n).e evOr a es)
  | [], y, a, [], h, ht, _, _ => by
    refine PW.mono (pw_or1 ((g c y a h X C A ent).2 ht)) fun σ H Q q => ?_
    obtain ⟨v, H1, F, b, v', S, e, q⟩ := q
    exact tB_of S (evt_of e) q
  | z :: zs, y, a, b :: es, h, ht, h2, h3 => by
    have h2' := Bool.and_eq_true_iff.mp h2
    have h3' := Bool.and_eq_true_iff.mp h3
    refine PW.mono (pw_or ((g c y a h X C A ent).2 ht) (go_orT g C A h2'.1 h3'.1 h2'.2 h3'.2)) fun σ H Q q => ?_
    obtain ⟨v, H1, F, b, v', S, e, q⟩ := q
    obtain ⟨v1, ⟨e1, e2⟩ | ⟨e1, eb⟩⟩ := evOr_cons e
    · refine tB_of S e1 fun Ha Hb Fa t Sa => ?_
      rw [if_neg Bool.false_ne_true]
      exact ⟨v1, Ha, Fa, b, v', Sa, e2, fun H1' H' F' t' S' => q H1' H' F' (t.trans t') S'⟩
    · cases eb
      refine tB_of S e1 fun Ha Hb Fa t Sa => ?_
      rw [if_pos rfl]
      exact q Ha Hb Fa t Sa
  | [], _, _, _ :: _, _, _, h, _ => by cases h
  | _ :: _, _, _, [], _, _, h, _ => by cases h

/-! ### arguments of a call -/
abbrev ckA (N : List Str) (n : Nat) (c : Sx) : Expr → Ar → Bool := ckAr (ckE N n c) N c
theorem ckA_io {x : Expr} {i : Nat} (h : ckA N n c x (.io i) = true) : ∃ y pos, x = .Name y pos ∧ N[i]? = some y ∧ visN c y = true ∧ okName y = true := by
  cases x with
  | Name y pos =>
    have h' : (decide (N[i]? = some y) && visN c y && okName y) = true := h
    simp only [Bool.and_eq_true] at h'
    exact ⟨y, pos, rfl, of_decide_eq_true h'.1.1, h'.1.2, h'.2⟩
  | _ => cases h
theorem ckA_noStar {x : Expr} {a : Ar} (h : ckA N n c x a = true) : NoStar x := by
  cases a with
  | v e => exact ckE_noStar h
  | io i => cases x <;> first | trivial | cases h
theorem all2A_noStar : ∀ {xs : List Expr} {as : List Ar}, all2 (ckA N n c) xs as = true → ∀ x ∈ xs, NoStar x
  | [], _, _, x, hx => by cases hx
  | y :: r, e :: es, h, x, hx => by
    have h' := Bool.and_eq_true_iff.mp h
    rcases List.mem_cons.mp hx with rfl | hx
    · exact ckA_noStar h'.1
    · exact all2A_noStar h'.2 x hx
  | _ :: _, [], h, _, _ => by cases h
theorem go_args (g : GoE Φ cl N n) (C : Cn Φ cl X) (A : At Φ.cl X N c) : ∀ {xs : List Expr} {as : List Ar}, all2 (ckA N n c) xs as = true → PA X xs (tAr (mw X cl) ent (lev Φ n).e as)
  | [], [], _ => PA.mono pa_nil fun σ H Q q => by
    obtain ⟨v, H1, F, ds, v', S, e, q⟩ := q
    cases e
    exact q [] H1 H F (Tr.refl fun _ h => h) S .nil
  | x :: r, .v e :: as, h => by
    have h' := Bool.and_eq_true_iff.mp h
    refine PA.mono (pa_cons (g.v (ent := ent) (show ckE N n c x e = true from h'.1) C A) (go_args g C A h'.2) (star_cons (ckA_noStar h'.1))) fun σ H Q q => ?_
    obtain ⟨v, H1, F, ds, v', S, ev, q⟩ := q
    simp only [evas] at ev
    split at ev
    · rename_i d v1 z
      split at ev
      · rename_i ds' v2 z2
        cases ev
        refine tV_of S z fun u Ha Hb Fa t Sa ru => ⟨v1, Ha, Fa, ds', _, Sa, z2, fun us Hc Hd Fc tc Sc ra => ?_⟩
        exact q (u :: us) Hc Hd Fc (t.trans tc) Sc (.v (ru.mono tc.mono) ra)
      · cases ev
    · cases ev
  | x :: r, .io i :: as, h => by
    have h' := Bool.and_eq_true_iff.mp h
    obtain ⟨y, pos, rfl, k1, k2, k3⟩ := ckA_io h'.1
    · have kn := okName_of k3
      refine PA.mono (pa_cons (pe_var (i := i) (by rw [A.n]; exact k1) (vis_of A k2) kn.1 kn.2.1) (go_args g C A h'.2) (star_cons trivial)) fun σ H Q q => ?_
      obtain ⟨v, H1, F, ds, v', S, ev, q⟩ := q
      simp only [evas] at ev
      split at ev
      · rename_i io s d e
        split at ev
        · rename_i ds' v2 z2
          cases ev
          obtain ⟨u, hu, _, _⟩ := S.slot i _ e
          exact ⟨u, hu, v, H1, F, ds', _, S, z2, fun us Hc Hd Fc tc Sc ra => q (u :: us) Hc Hd Fc tc Sc (.io hu ra)⟩
        · cases ev
      · cases ev
  | [], _ :: _, h => by cases h
  | _ :: _, [], h => by cases h
end
/-! ### places -/
def PlAt (cl : Nat → Addr × List Str) (σ : L2.St) (H : Hp) (u : V) : Pl → Prop
  | .s i => σ[i]? = some (some u)
  | .f i c j => ∃ a dx us, σ[i]? = some (some (.ref a)) ∧ H a = some (.ins (cl c).1 dx ((cl c).2.zip us)) ∧ us[j]? = some u ∧ us.length ≤ (cl c).2.length
def tPl (cl : Nat → Addr × List Str) (p : Pl) : TE := fun σ H Q => ∃ u, PlAt cl σ H u p ∧ Q u H
def Pl.i : Pl → Nat
  | .s i => i
  | .f i _ _ => i
theorem zip_lookup : ∀ {ns : List Str} {us : List V} {j : Nat} {f : Str} {u : V}, ns.Nodup → ns[j]? = some f → us[j]? = some u → (ns.zip us).lookup f = some u
  | [], _, _, _, _, _, h, _ => by simp at h
  | _ :: _, [], _, _, _, _, _, h => by simp at h
  | n :: ns, w :: us, 0, f, u, _, h1, h2 => by
    simp at h1 h2
    subst h1 h2
    simp [List.lookup]
  | n :: ns, w :: us, j + 1, f, u, nd, h1, h2 => by
    rw [List.nodup_cons] at nd
    have hm : f ∈ ns := List.mem_of_getElem? (by simpa using h1)
    have hne : (f == n) = false := by
      rw [beq_eq_false_iff_ne]
      intro z
      exact nd.1 (by rw [← z]; exact hm)
    rw [List.zip_cons_cons, List.lookup_cons, hne]
    exact zip_lookup nd.2 (by simpa using h1) (by simpa using h2)
section
variable {Φ : Tab} {N : List Str} {n : Nat} {c : Sx} {X : Cx} {cl : Nat → Addr × List Str}
theorem go_pl (C : Cn Φ cl X) (A : At Φ.cl X N c) {x : Expr} : ∀ {p : Pl}, ckPl N c x p = true → PE X x (tPl cl p)
  | .s i, h => by
    simp only [ckPl] at h
    split at h
    · rename_i y pos
      simp only [Bool.and_eq_true] at h
      obtain ⟨⟨k1, k2⟩, k3⟩ := h
      have kn := okName_of k3
      exact PE.mono (pe_var (i := i) (by rw [A.n]; exact of_decide_eq_true k1) (vis_of A k2) kn.1 kn.2.1) fun σ H Q q => q
    · cases h
  | .f i k j, h => by
    simp only [ckPl] at h
    split at h
    · rename_i y py f pos
      simp only [Bool.and_eq_true] at h
      obtain ⟨⟨⟨k1, k2⟩, k3⟩, k4⟩ := h
      have kn := okName_of k3
      have k5 := of_decide_eq_true k4
      rw [← A.ct] at k5
      obtain ⟨f1, f2⟩ := C.fld k j f k5
      refine PE.mono (pe_fld (pe_var (i := i) (by rw [A.n]; exact of_decide_eq_true k1) (vis_of A k2) kn.1 kn.2.1) rfl) fun σ H Q q => ?_
      obtain ⟨u, ⟨a, dx, us, e1, e2, e3, e4⟩, q⟩ := q
      refine ⟨_, e1, a, _, dx, _, u, rfl, e2, f1, f2, ?_, q⟩
      rw [C.nm]
      exact zip_lookup (C.cnd k).1 k5 e3
    · cases h
end
section
variable {M : Mw} {ent : Nat → Option V} {σ : L2.St} {v v' : Ev} {H1 H H1' H' : Hp} {F F' : Nat → List Addr} {cl : Nat → Addr × List Str} {p : Pl}
theorem PlAt.keep {u : V} (h : PlAt cl σ H u p) (s : Same H H') : PlAt cl σ H' u p := by
  cases p with
  | s i => exact h
  | f i c j =>
    obtain ⟨a, dx, us, e1, e2, e3, e4⟩ := h
    exact ⟨a, dx, us, e1, s _ _ e2, e3, e4⟩
theorem zip_inj {ns : List Str} : ∀ {us ws : List V}, us.length ≤ ns.length → ws.length ≤ ns.length → ns.zip us = ns.zip ws → us = ws := by
  induction ns with
  | nil =>
    intro us ws h1 h2 _
    cases us <;> cases ws <;> first | rfl | simp at h1 h2
  | cons n ns ih =>
    intro us ws h1 h2 h
    cases us with
    | nil => cases ws with
      | nil => rfl
      | cons w ws => simp at h
    | cons u us => cases ws with
      | nil => simp at h
      | cons w ws =>
        simp only [List.zip_cons_cons, List.cons.injEq, Prod.mk.injEq, true_and] at h
        rw [h.1, ih (by simpa using h1) (by simpa using h2) h.2]
theorem PlAt.inj {u u' : V} (h : PlAt cl σ H u p) (h' : PlAt cl σ H u' p) : u = u' := by
  cases p with
  | s i =>
    have e : σ[i]? = some (some u) := h
    have e' : σ[i]? = some (some u') := h'
    rw [e] at e'; cases e'; rfl
  | f i c j =>
    obtain ⟨a, dx, us, e1, e2, e3, e4⟩ := h
    obtain ⟨a', dx', us', e1', e2', e3', e4'⟩ := h'
    rw [e1] at e1'; cases e1'
    rw [e2] at e2'
    injection e2' with e2'
    injection e2' with _ _ e5
    rw [zip_inj e4 e4' e5, e3'] at e3
    cases e3; rfl
theorem RFs.get : ∀ {ss : List Fs} {us : List V} {ds : List D} {fs : List (List Addr)} {j : Nat} {s : Fs}, RFs M H1 H ss us ds fs → ss[j]? = some s → ∃ u d f, us[j]? = some u ∧ ds[j]? = some d ∧ fs[j]? = some f ∧ RF M H1 H s u d f
  | _, _, _, _, _, _, .nil, h => by simp at h
  | _, _, _, _, 0, _, .cons r t, h => by simp at h; subst h; exact ⟨_, _, _, rfl, rfl, rfl, r⟩
  | _, _, _, _, j + 1, _, .cons r t, h => by
    obtain ⟨u, d, f, h1, h2, h3, h4⟩ := RFs.get (j := j) t (by simpa using h)
    exact ⟨u, d, f, by simpa using h1, by simpa using h2, by simpa using h3, h4⟩
theorem RFs.len {ss : List Fs} {us : List V} {ds : List D} {fs : List (List Addr)} (h : RFs M H1 H ss us ds fs) : us.length = ss.length ∧ ds.length = ss.length ∧ fs.length = ss.length := by
  induction h with
  | nil => exact ⟨rfl, rfl, rfl⟩
  | cons _ _ ih => simp [ih.1, ih.2.1, ih.2.2]
/-- what stands at a place -/
theorem SV.pl {s : Sh} {d : D} (S : SV M ent σ v H1 H F) (e : getP v p = some (s, d)) : ∃ u f, PlAt M.cl σ H u p ∧ RS M H1 H s u d f ∧ ∀ b ∈ f, b ∈ F p.i := by
  cases p with
  | s i =>
    simp only [getP] at e
    split at e
    · rename_i io s' d' e0
      cases e
      obtain ⟨u, h1, h2, _⟩ := S.slot i _ e0
      exact ⟨u, _, h1, h2, fun b hb => hb⟩
    · cases e
  | f i c j =>
    simp only [getP] at e
    split at e
    · rename_i io c' ds e0
      split at e
      · rename_i hc
        subst hc
        split at e
        · rename_i d' e1
          cases e
          obtain ⟨u, h1, ⟨h2, hf⟩, _⟩ := S.slot i _ e0
          cases h2 with
          | ins q z r =>
            obtain ⟨w, g1, g2⟩ := r.get' e1
            exact ⟨w, [], ⟨_, _, _, h1, S.sub _ _ q, g1, z⟩, ⟨g2, rfl⟩, fun b hb => by simp at hb⟩
        · cases e
      · cases e
    · rename_i io c' fs c'' ds e0
      split at e
      · rename_i hc
        obtain ⟨rfl, rfl⟩ := hc
        split at e
        · rename_i f d' e1 e2
          cases e
          obtain ⟨u, h1, ⟨a, dx, us, ds', ff, rfl, ed, ef, ha, hd, z, r, nd⟩, _⟩ := S.slot i _ e0
          cases ed
          obtain ⟨w, d2, f2, g1, g2, g3, g4⟩ := r.get e1
          rw [e2] at g2
          cases g2
          refine ⟨w, f2, ⟨a, dx, us, h1, ha, g1, z⟩, RF.rs.mp g4, fun b hb => ?_⟩
          show b ∈ F i
          rw [ef]
          simp only [List.mem_cons, List.mem_flatten]
          exact .inr (.inr ⟨f2, List.mem_of_getElem? g3, hb⟩)
        · cases e
      · cases e
    · cases e
end
/-- a dict at a place -/
theorem SV.plD {M : Mw} {ent : Nat → Option V} {σ : L2.St} {v : Ev} {H1 H : Hp} {F : Nat → List Addr} {p : Pl} {s : Sh} {ks vs : List D} (S : SV M ent σ v H1 H F) (e : getP v p = some (s, .dct ks vs)) : ∃ a o, PlAt M.cl σ H (.ref a) p ∧ H a = some (DX a o) ∧ DOb M H1 a o ks vs := by
  obtain ⟨u, f, h1, h2, h4⟩ := S.pl e
  cases s with
  | sh =>
    cases h2.1 with
    | dct h0 k1 k2 k3 k4 k5 k6 => exact ⟨_, _, h1, S.sub _ _ h0, k1, k2, ⟨_, _, k3, k4⟩, k5, k6⟩
  | lst => obtain ⟨al, vs, ds, _, e2, _⟩ := h2; cases e2
  | fro => obtain ⟨al, vs, ds, _, e2, _⟩ := h2; cases e2
  | ins c fs => obtain ⟨al, dx, us, ds, ff, _, e2, _⟩ := h2; cases e2
  | dct =>
    obtain ⟨al, o, ks', vs', rfl, e2, _, e3, e4⟩ := h2
    cases e2
    exact ⟨al, o, h1, e3, e4⟩
/-! ### method calls -/
theorem meth_eval {o : Expr} {m : Str} {apos pos : Pos} {args : List Expr} {env : Env} (h1 : nsp o = true) (h2 : methodCallForm (args.length + ([] : List Keyword).length) (backTo pos (starEach args env)) (backToKw pos (keywordEach [] env)) = true) (h3 : (apos.endLine == pos.line) = true) :
    eval (.Call (.Attribute o m apos) args [] pos) env = (do
      let ov ← eval o env
      standAt apos.atName
      let (f, first) ← holding [ov] (getMethod ov m (do return (← importBound o env).getD true))
      callWith pos f first (backTo pos (starEach args env)) (backToKw pos (keywordEach [] env))) := by
  have e : eval (.Call (.Attribute o m apos) args [] pos) env = (do
      let ov ← attributeBase o m env (eval o env)
      standAt apos.atName
      methodCall o m apos pos env ov (args.length + ([] : List Keyword).length) (backTo pos (starEach args env)) (backToKw pos (keywordEach [] env))) := rfl
  rw [e, ab_nsp h1]
  unfold methodCall calleeOf methodCallPos
  rw [h2]
  simp only [if_true, h3, Bool.or_true, Bool.not_true, Bool.false_or, pure_bind]
theorem few_of {args : List Expr} {pos : Pos} {env : Env} (h1 : ∀ x ∈ args, NoStar x) (h2 : args.length < 25) : methodCallForm (args.length + ([] : List Keyword).length) (backTo pos (starEach args env)) (backToKw pos (keywordEach [] env)) = true := by
  have h3 : (backTo pos (starEach args env)).all (fun x => !x.1) = true := by
    have h4 := backTo_plain (pos := pos) (env := env) h1
    rw [List.all_eq_true]
    intro x hx
    rw [List.any_eq_false] at h4
    have := h4 x hx
    simpa using this
  unfold methodCallForm
  rw [h3]
  show (true && true && decide (args.length + 0 + 0 < 30)) = true
  simp only [Bool.and_self, Bool.true_and, decide_eq_true_eq]
  omega
end Q

set_option Elab.async false
set_option linter.all false
set_option maxRecDepth 100000
set_option maxHeartbeats 8000000
/-! Q13: rules of dicts; expressions that change nothing. -/
namespace Q
open PySem L2
theorem PE.or {X : Cx} {x : Expr} {t t' : TE} (h : PE X x t) (h' : PE X x t') : PE X x (fun σ H Q => t σ H Q ∨ t' σ H Q) := ⟨fun pins s σ H Q I q => by
  rcases q with q | q
  · exact h.run pins s σ H Q I q
  · exact h'.run pins s σ H Q I q⟩
section
variable {X : Cx} {cl : Nat → Addr × List Str} {k : Nat}
def rIxD (M : Mw) : R2 := fun x y H Q => ∃ a o H1 ks vs k d, x = .ref a ∧ H a = some (DX a o) ∧ Same H1 H ∧ DOb M H1 a o ks vs ∧ Rp M H1 y k ∧ kOk ks k = true ∧ dGet ks vs k = some d ∧ ∀ u, Rp M H1 u d → Q u H
theorem pe_ixd (hr : Room k X.A) {a b : Expr} {ta tb : TE} {pos : Pos} (ha : PE X a ta) (hb : PE X b tb) (hs : PlainIx b) : PE X (.Subscript a b pos) (tOp (rIxD (mw X cl)) ta tb) := ⟨fun pins s σ H Q I h => by
  have hu := hr.units
  refine subD_of PySem.F.slot_dict_getitem.lookup hs (thn (ha.run pins s σ H _ I h) fun u s1 ⟨x, Ha, Ia, rx, q1⟩ => thn (hb.run pins s1 σ Ha _ Ia q1) fun iv s2 ⟨y, Hb, Ib, ry, a, o, H1, ks, vs, k, d, ex, e, sub, dd, rk, ok, g, q2⟩ => ?_)
  cases ex
  cases (show u = Value.ref a from rx)
  exact ⟨dd.tyIs Ib e, dx_getItem (by omega) Ib sub e dd ok g ry rk fun v w s' I' r1 r2 => ⟨v, Hb, I', r1, q2 v r2⟩⟩⟩
def tDg (M : Mw) (td : TE) (ta : TA) : TE := fun σ H Q => td σ H fun x Ha => ∃ a o, x = .ref a ∧ Ha a = some (DX a o) ∧ o.ExactDict ∧ ta σ Ha fun ys Hc =>
  ∃ y z o' H1 ks vs k d, ys = [y, z] ∧ Hc a = some (DX a o') ∧ Same H1 Hc ∧ DOb M H1 a o' ks vs ∧ Rp M H1 y k ∧ Rp M H1 z d ∧ kOk ks k = true ∧ ∀ u, Rp M H1 u ((dGet ks vs k).getD d) → Q u Hc
theorem pe_dg (hr : Room k X.A) {y e f : Expr} {td : TE} {ta : TA} {ap cp : Pos} (hd : PE X y td) (ha : PA X [e, f] ta) (h1 : nsp y = true) (h2 : NoStar e) (h3 : NoStar f) (h4 : (ap.endLine == cp.line) = true) :
    PE X (.Call (.Attribute y "get" ap) [e, f] [] cp) (tDg (mw X cl) td ta) := ⟨fun pins s σ H Q I h => by
  have hu := hr.units
  have st : starEach [e, f] X.env = [(false, eval e X.env), (false, eval f X.env)] := by rw [star_cons h2, star_cons h3]; rfl
  have few : ((backTo cp (starEach [e, f] X.env)).all (fun x => !x.1) && (backToKw cp (keywordEach [] X.env)).all (fun x => x.1.isSome) && decide (([e, f] : List Expr).length + ([] : List Keyword).length + (if ([] : List Keyword).isEmpty then 0 else 1) < 30)) = true := by rw [st]; rfl
  refine wpAny_Call_method (ab_nsp h1) few h4 PySem.F.plainAttrs_dict PySem.F.slot_dict_get PySem.F.type_dict_get (thn (hd.run pins s σ H _ I h) fun u s1 ⟨x, Ha, Ia, rx, a, o, ex, e1, xd, q1⟩ => ?_)
  cases ex
  cases (show u = Value.ref a from rx)
  refine ⟨⟨o, dx_get Ia e1, xd.1⟩, fun b q => by cases q; exact ⟨o, dx_get Ia e1, xd.2.1⟩, ?_⟩
  have hA := ha.run cp pins s1 σ Ha _ Ia q1
  have pl : (backTo cp (starEach [f] X.env)).any (·.1) = false := backTo_plain fun x hx => by
    simp at hx
    rw [hx]; exact h3
  rw [star_cons h2] at hA ⊢
  refine Calls.callWith_builtin (show (false || (backTo cp (starEach [f] X.env)).any (·.1)) = false by rw [pl]; rfl) (Calls.evalArgs_plain ?_)
  refine thn hA fun us s2 ⟨ws, Hc, Ic, rw', y', z', o', H1, ks, vs, k, d, ey, e2, sub, dd, rk, rd, ok, q4⟩ => ?_
  subst ey
  obtain ⟨u1, u2, rfl, r1, r2⟩ := vals2 rw'
  exact dx_get2 (by omega) Ic sub e2 dd ok r1 rk r2 rd fun v w s' I' r1 r2 => ⟨v, Hc, I', r1, q4 v r2⟩⟩
/-- NAME.get(k, x), the dict the module's own: a key that stands there -/
def tKg (K : PySem.W.Frag) (a : Addr) (ta : TA) : TE := fun σ H Q => ta σ H fun ys Hc => ∃ z w u0 v0, ys = [.str z, w] ∧ PySem.W.nsIn K a z = some (some u0) ∧ RelV v0 u0 ∧ Q v0 Hc
theorem pe_kdg {a : Addr} {es : Array DictEntry} {n : Nat} (D : KDict X.K X.w a es n) {y e f : Expr} {ta : TA} {ap cp : Pos} (hd : PE X y (fun _ H Q => Q (.ref a) H)) (ha : PA X [e, f] ta) (h1 : nsp y = true) (h2 : NoStar e) (h3 : NoStar f) (h4 : (ap.endLine == cp.line) = true) :
    PE X (.Call (.Attribute y "get" ap) [e, f] [] cp) (tKg X.K a ta) := ⟨fun pins s σ H Q I h => by
  have st : starEach [e, f] X.env = [(false, eval e X.env), (false, eval f X.env)] := by rw [star_cons h2, star_cons h3]; rfl
  have few : ((backTo cp (starEach [e, f] X.env)).all (fun x => !x.1) && (backToKw cp (keywordEach [] X.env)).all (fun x => x.1.isSome) && decide (([e, f] : List Expr).length + ([] : List Keyword).length + (if ([] : List Keyword).isEmpty then 0 else 1) < 30)) = true := by rw [st]; rfl
  refine wpAny_Call_method (ab_nsp h1) few h4 PySem.F.plainAttrs_dict PySem.F.slot_dict_get PySem.F.type_dict_get (thn (hd.run pins s σ H (fun x Ha => x = .ref a ∧ ta σ Ha fun ys Hc => ∃ z w u0 v0, ys = [.str z, w] ∧ PySem.W.nsIn X.K a z = some (some u0) ∧ RelV v0 u0 ∧ Q v0 Hc) I ⟨rfl, h⟩) fun u s1 ⟨x, Ha, Ia, rx, ex, q1⟩ => ?_)
  subst ex
  cases (show u = Value.ref a from rx)
  have hK := Ia.kIn _ _ D.at_
  refine ⟨⟨_, hK, rfl⟩, fun b q => by cases q; exact ⟨_, hK, rfl⟩, ?_⟩
  have hA := ha.run cp pins s1 σ Ha _ Ia q1
  have pl : (backTo cp (starEach [f] X.env)).any (·.1) = false := backTo_plain fun x hx => by
    simp at hx
    rw [hx]; exact h3
  rw [star_cons h2] at hA ⊢
  refine Calls.callWith_builtin (show (false || (backTo cp (starEach [f] X.env)).any (·.1)) = false by rw [pl]; rfl) (Calls.evalArgs_plain ?_)
  refine thn hA fun us s2 ⟨ws, Hc, Ic, rw', z, w, u0, v0, ey, en, r0, q4⟩ => ?_
  subst ey
  obtain ⟨u1, u2, rfl, r1, r2⟩ := vals2 rw'
  obtain ⟨t, rfl⟩ := (show ∃ t, u1 = Value.str z t from r1)
  have hm := PySem.W.mapOf_K (prog := X.prog) Ic.kIn D.at_ D.lit
  exact call_meetsIn PySem.F.slot_dict_get ⟨_, Ic.kIn _ _ D.at_, rfl⟩ PySem.F.entry_dict_get (PySem.F.args_dict_get_3 _ _ _) (meets_dict_get_default (strKind X.prog X.w) a (PySem.strKind_is X.prog X.w z t) D.low u2) ⟨_, hm, by rw [PySem.W.find_K D.at_ en]; exact ⟨v0, Hc, Ic.tok _, r0, q4⟩⟩⟩
/-- dict(d) -/
theorem call_cpy : CallR X (.type "dict") (fun xs H Q => ∃ a o H1 ks vs, xs = [.ref a] ∧ H a = some (DX a o) ∧ DOb (mw X cl) H1 a o ks vs ∧ kinds ks false = true ∧ ∀ p o', H p = none → DOb (mw X cl) H1 p o' ks vs → Q (.ref p) (upd H p (DX p o'))) := fun pins s σ H xs us Q I r ⟨a, o, H1, ks, vs, ex, e, dd, hk, q⟩ => by
  subst ex
  obtain ⟨u, rfl, ru⟩ := vals1 r
  cases (show u = Value.ref a from ru)
  exact dx_copy I e dd hk fun p o' s' hp d' I' => ⟨.ref p, _, I', rfl, q p o' hp d'⟩
/-- len(d) -/
theorem call_lenDx : CallR X (.builtin "len") (fun xs H Q => ∃ a o H1 ks vs, xs = [.ref a] ∧ H a = some (DX a o) ∧ Same H1 H ∧ DOb (mw X cl) H1 a o ks vs ∧ (kinds ks false || kinds ks true) = true ∧ Q (.int ks.length) H) := fun pins s σ H xs us Q I r ⟨a, o, H1, ks, vs, ex, e, sub, dd, hk, q⟩ => by
  subst ex
  obtain ⟨u, rfl, ru⟩ := vals1 r
  cases (show u = Value.ref a from ru)
  exact dx_len I sub e dd hk fun t s' I' => ⟨.int _, H, I', ⟨t, rfl⟩, q⟩
/-- k in d, k not in d -/
theorem op_dIn (hr : Room k X.A) (neg : Bool) : OpR X (compareOp (if neg then .NotIn else .In)) (fun x y H Q => ∃ a o H1 ks vs k, y = .ref a ∧ H a = some (DX a o) ∧ Same H1 H ∧ DOb (mw X cl) H1 a o ks vs ∧ Rp (mw X cl) H1 x k ∧ kOk ks k = true ∧ Q (.bl (if neg then !(dHas ks k) else dHas ks k)) H) := fun pins s σ H x y v u Q I rx ry ⟨a, o, H1, ks, vs, k, ey, e, sub, dd, rk, ok, q⟩ => by
  have hu := hr.units
  subst ey
  cases (show u = Value.ref a from ry)
  cases neg with
  | true => exact dx_notIn (by omega) I sub e dd ok rx rk fun s' I' => ⟨.bl _, H, I', rfl, q⟩
  | false => exact dx_in (by omega) I sub e dd ok rx rk fun s' I' => ⟨.bl _, H, I', rfl, q⟩
/-- d[k] = x -/
theorem set_dx (hr : Room k X.A) : PSet X (fun x y z H Q => ∃ a o H1 ks vs k d, x = .ref a ∧ H a = some (DX a o) ∧ Same H1 H ∧ DOb (mw X cl) H1 a o ks vs ∧ Rp (mw X cl) H1 y k ∧ Rp (mw X cl) H1 z d ∧ kOk ks k = true ∧ ks.length < sizeLine ∧ ∀ o', DOb (mw X cl) H1 a o' (dPut ks vs k d).1 (dPut ks vs k d).2 → Q (upd H a (DX a o'))) := fun pins s σ H x y z ov iv u Q I rx ry rz ⟨a, o, H1, ks, vs, k, d, ex, e, sub, dd, rk, rd, ok, hz, q⟩ => by
  have hu := hr.units
  subst ex
  cases (show ov = Value.ref a from rx)
  exact dx_setItem (by omega) I sub e dd ok hz ry rk rz rd fun o' s' d' I' => ⟨_, I', q o' d'⟩
end
/-- {k: x} -/
theorem pe_disp1 {X : Cx} {cl : Nat → Addr × List Str} {k0 : Nat} (hr : Room k0 X.A) {kx vx : Expr} {tk tv : TE} {pos : Pos} (hk : PE X kx tk) (hv : PE X vx tv) : PE X (.Dict [some kx] [vx] pos) (fun σ H Q => ∀ p o, H p = none → tk σ (upd H p (DX p o)) fun u Ha => tv σ Ha fun w Hb =>
    Hb p = some (DX p o) ∧ ∃ k d H1 bb, kd k = some bb ∧ Same H1 Hb ∧ Rp (mw X cl) H1 u k ∧ Rp (mw X cl) H1 w d ∧ ∀ o', DOb (mw X cl) H1 p o' [k] [d] → Q (.ref p) (upd Hb p (DX p o'))) := ⟨fun pins s σ H Q I q => by
  have hu := hr.units
  have hn := I.hok.fresh (Nat.le_refl s.heap.objs.size)
  have I1 := dx_laid (o' := { cls := .type "dict", data := .dict #[] }) (t' := s.toks) (h' := s.heap.push { cls := .type "dict", data := .dict #[] }) I (fun _ _ z => Heap.get?_push_of_some _ z) (Heap.get?_push_size _ rfl)
  let o0 : Obj := { cls := .type "dict", data := .dict #[] }
  let Q' : List (V × V) → Hp → Prop := fun ps Hb => match ps with
    | [(u, w)] => Hb s.heap.objs.size = some (DX s.heap.objs.size o0) ∧ ∃ k d H1 bb, kd k = some bb ∧ Same H1 Hb ∧ Rp (mw X cl) H1 u k ∧ Rp (mw X cl) H1 w d ∧ ∀ o', DOb (mw X cl) H1 s.heap.objs.size o' [k] [d] → Q (.ref s.heap.objs.size) (upd Hb s.heap.objs.size (DX s.heap.objs.size o'))
    | _ => False
  refine wpAny_Dict_any rfl rfl (fun z => by cases z) (by simp) (thn ((pps_cons hk hv pps_nil).run pins _ σ _ Q' I1 (q _ o0 hn)) fun ws s2 ⟨ps, H2, I2, rel, hx⟩ => ?_)
  match ps, rel, hx with
  | [(u, w)], rel, hx =>
    obtain ⟨e, k, d, H1, bb, hkd, sub, ru, rw', fin⟩ := hx
    cases rel with
    | @cons _ b _ bs h t =>
      cases t
      obtain ⟨b1, b2⟩ := b
      have g0 := dx_get I2 e
      cases bb with
      | false =>
        have eu := ru.kv hkd
        subst eu
        have is := kV_is (P := X.prog) (w := X.w) h.1
        refine wpAny_storeAll (knd := mixKind X.prog X.w) [(b1, b2)] [(kKey k, b2)] [] s2 _ ⟨is, rfl, trivial⟩ ⟨o0, #[], 0, g0, ⟨rfl, rfl, rfl⟩, rfl, (fun e he => by simp at he), .nil, List.nodup_nil⟩ (by rw [sizeLine_eq]; show 0 + 1 ≤ _; omega) fun h' dd' hs => ?_
        obtain ⟨o', g1, g2⟩ := DOb.mk' (X := X) (cl := cl) (o := o0) (newSys I) (by rw [sizeLine_eq]; show 1 ≤ _; omega) (RK.cons hkd h.2 rw' .nil) dd' (by simp)
        exact ⟨.ref s.heap.objs.size, _, dx_write I2 e hs g1, rfl, fin o' g2⟩
      | true =>
        obtain ⟨b0, eb, is⟩ := key_is I2 (ru.mono sub) h.1 hkd
        subst eb
        have ru' : u = .ref b0 := by
          obtain ⟨b', rfl⟩ := ru.kref hkd
          cases (show Value.ref b0 = Value.ref b' from h.1)
          rfl
        subst ru'
        refine wpAny_storeAllH (knd := nestedKind X.prog X.w) (show X.A.units + 8 < cLine by omega) [(.ref b0, b2)] [(kOf k, b0, b2)] [] s2 _ ⟨rfl, rfl, is, trivial⟩ ⟨o0, #[], 0, g0, ⟨rfl, rfl, rfl⟩, rfl, rfl, (fun _ hx => nomatch hx), List.nodup_nil⟩ (by rw [sizeLine_eq]; show 0 + 1 ≤ _; omega) fun h' tk dd' hs => ?_
        obtain ⟨o', g1, g2⟩ := DOb.mkH (X := X) (cl := cl) (newSys I) (by rw [sizeLine_eq]; show 1 ≤ _; omega) (RX.cons hkd ru h.2 rw' .nil) dd' (by simp)
        exact ⟨.ref s.heap.objs.size, _, dx_write I2 e hs g1, rfl, fin o' g2⟩⟩
/-! ### expressions that change nothing -/
def tN (M : Mw) (ent : Nat → Option V) (L : LE) (e : E) : TE := fun σ H Q => ∃ v H1 F d v', SV M ent σ v H1 H F ∧ evv L e v = some (d, v') ∧ ∀ u H1' H', Same H H' → Tr (OF F) H1 H H1' H' (OF F) → v' = v → SV M ent σ v H1' H' F → Rp M H1' u d → Q u H'
def tNs (M : Mw) (ent : Nat → Option V) (L : LE) (es : List E) : TA := fun σ H Q => ∃ v H1 F ds v', SV M ent σ v H1 H F ∧ evs L es v = some (ds, v') ∧ ∀ us H1' H', Same H H' → Tr (OF F) H1 H H1' H' (OF F) → v' = v → SV M ent σ v H1' H' F → Rps M H1' us ds → Q us H'
section
variable {M : Mw} {ent : Nat → Option V} {σ : L2.St} {v v' : Ev} {H1 H H1' H' : Hp} {F : Nat → List Addr} {L : LE}
theorem tN_of {e : E} {d : D} {Q : VK} (S : SV M ent σ v H1 H F) (h : evv L e v = some (d, v')) (q : ∀ u H1' H', Same H H' → Tr (OF F) H1 H H1' H' (OF F) → v' = v → SV M ent σ v H1' H' F → Rp M H1' u d → Q u H') : tN M ent L e σ H Q := ⟨v, H1, F, d, v', S, h, q⟩
theorem tNs_cons {e : E} {r : List E} {Q : List V → Hp → Prop} (h : tNs M ent L (e :: r) σ H Q) : tCons (tN M ent L e) (tNs M ent L r) σ H Q := by
  obtain ⟨v, H1, F, ds, v', S, ev, q⟩ := h
  obtain ⟨d, dr, v1, e1, e2, rfl⟩ := evs_cons ev
  refine tN_of S e1 fun u Ha Hb s1 t1 ev1 S1 ru => ?_
  subst ev1
  exact ⟨v1, Ha, F, dr, v', S1, e2, fun us Hc Hd s2 t2 ev2 S2 rs => q (u :: us) Hc Hd (s1.trans s2) (t1.trans t2) ev2 S2 (.cons (ru.mono t2.mono) rs)⟩
theorem evv_of {e : E} {s : Sh} {d : D} (h : L e v = some (s, d, v')) (hs : s ≠ .fro) : evv L e v = some (d, v') := by
  unfold evv
  rw [h]
  cases s <;> first | rfl | exact absurd rfl hs
/-- a new thing that is frozen at once -/
theorem NewR.n {s : Sh} {d : D} {u : V} {f : List Addr} (n : NewR M H1 H s d u H1' H' f) (S : SV M ent σ v H1 H F) (hs : s ≠ .fro) : Same H H' ∧ Tr (OF F) H1 H (join H1' H' f) H' (OF F) ∧ SV M ent σ v (join H1' H' f) H' F ∧ Rp M (join H1' H' f) u d := by
  have p := (n.post S (Tr.refl fun _ h => h)).v hs
  exact ⟨fun b o h => n.tr.frame b o h (fun z => z), p.tr, p.sv, p.rp⟩
end
abbrev GoN (Φ : Tab) (cl : Nat → Addr × List Str) (N : List Str) (n : Nat) : Prop := ∀ (c : Sx) (x : Expr) (e : E), ckE N n c x e = true → smp e = true → ∀ X, Cn Φ cl X → At Φ.cl X N c → ∀ ent, PE X x (tN (mw X cl) ent (lev Φ n).e e)
theorem GoN.all {Φ : Tab} {cl : Nat → Addr × List Str} {N : List Str} {n : Nat} {c : Sx} {X : Cx} {ent : Nat → Option V} (g : GoN Φ cl N n) (C : Cn Φ cl X) (A : At Φ.cl X N c) : ∀ {xs : List Expr} {es : List E}, all2 (ckE N n c) xs es = true → smps es = true → PA X xs (tNs (mw X cl) ent (lev Φ n).e es)
  | [], [], _, _ => PA.mono pa_nil fun σ H Q h => by
    obtain ⟨v, H1, F, ds, v', S, e, q⟩ := h
    cases e
    exact q [] H1 H (fun _ _ z => z) (Tr.refl fun _ h => h) rfl S .nil
  | x :: r, e :: es, h, hs => by
    have h' := Bool.and_eq_true_iff.mp h
    have hs' := Bool.and_eq_true_iff.mp (show (smp e && smps es) = true from hs)
    exact PA.mono (pa_cons (g c x e h'.1 hs'.1 X C A ent) (GoN.all g C A h'.2 hs'.2) (star_cons (ckE_noStar h'.1))) fun _ _ _ q => tNs_cons q
  | [], _ :: _, h, _ => by cases h
  | _ :: _, [], h, _ => by cases h
theorem goN (Φ : Tab) (cl : Nat → Addr × List Str) (N : List Str) : ∀ n, GoN Φ cl N n
  | 0 => fun c x e h => by cases h
  | n + 1 => fun c x e h hs X C A ent => by
    have g := goN Φ cl N n
    have fin : ∀ {σ : L2.St} {H H1 : Hp} {v v' : Ev} {F : Nat → List Addr} {d : D} {Q : VK} {u : V}, SV (mw X cl) ent σ v H1 H F → (∀ u H1' H', Same H H' → Tr (OF F) H1 H H1' H' (OF F) → v' = v → SV (mw X cl) ent σ v H1' H' F → Rp (mw X cl) H1' u d → Q u H') → v' = v → Rp (mw X cl) H1 u d → Q u H :=
      fun S q e r => q _ _ _ (fun _ _ z => z) (Tr.refl fun _ z => z) e S r
    cases e with
    | c d =>
      simp only [ckE] at h
      split at h
      · rename_i k j pos
        have go : ∀ {u : V}, (∀ H, Rp (mw X cl) H u d) → PE X (.Constant k j pos) (tC u) → PE X (.Constant k j pos) (tN (mw X cl) ent (lev Φ (n + 1)).e (.c d)) := fun {u} r p => PE.mono p fun σ H Q q => by
          obtain ⟨v, H1, F, d', v', S, ev, q⟩ := q
          obtain ⟨s, ev, hs'⟩ := evv_some ev
          change (if leaf d then some (Sh.sh, d, v) else none) = _ at ev
          split at ev
          · cases ev; exact fin S q rfl (r _)
          · cases ev
        cases k with
        | none => cases d <;> first | (cases h; done) | exact go (fun _ => .non) pe_non
        | bool b => cases d <;> first | (cases h; done) | (have e := eq_of_beq h; subst e; exact go (fun _ => .bl _) pe_bl)
        | int i => cases d <;> first | (cases h; done) | (have e := of_decide_eq_true h; subst e; exact go (fun _ => .int _) pe_int)
        | str i => cases d <;> first | (cases h; done) | (have e := of_decide_eq_true h; subst e; exact go (fun _ => .str _) pe_str)
        | _ => cases d <;> cases h
      · cases h
    | pv p =>
      refine PE.mono (go_pl C A (show ckPl N c x p = true from h)) fun σ H Q q => ?_
      obtain ⟨v, H1, F, d', v', S, ev, q⟩ := q
      obtain ⟨s, ev, hs'⟩ := evv_some ev
      change stepE Φ (lev Φ n).e (.pv p) v = _ at ev
      simp only [stepE] at ev
      split at ev
      · rename_i d e
        cases ev
        obtain ⟨u, f, h1, ⟨h2, h3⟩, h4⟩ := S.pl e
        exact ⟨u, h1, fin S q rfl h2⟩
      · cases ev
    | glob z =>
      simp only [ckE] at h
      split at h
      · rename_i y pos
        obtain ⟨k1, k2⟩ := Bool.and_eq_true_iff.mp h
        have e := of_decide_eq_true k1
        subst e
        obtain ⟨hg, hd, hn⟩ := gl_of A k2
        cases zd : Φ.gl y with
        | none =>
          refine ⟨fun pins s σ H Q I q => ?_⟩
          obtain ⟨v, H1, F, d', v', S, ev, q⟩ := q
          obtain ⟨s, ev, hs'⟩ := evv_some ev
          change stepE Φ (lev Φ n).e (.glob y) v = _ at ev
          simp only [stepE] at ev
          rw [zd] at ev
          cases ev
        | some d =>
          obtain ⟨v0, u0, m0, r0, p0⟩ := C.gl y d zd
          refine PE.mono (pe_glob hg m0 r0 hd) fun σ H Q q => ?_
          obtain ⟨v, H1, F, d', v', S, ev, q⟩ := q
          obtain ⟨s, ev, hs'⟩ := evv_some ev
          change stepE Φ (lev Φ n).e (.glob y) v = _ at ev
          simp only [stepE] at ev
          rw [zd] at ev
          cases ev
          exact fin S q rfl (p0 _)
      · cases h
    | tup es =>
      simp only [ckE] at h
      split at h
      · rename_i xs k pos
        obtain ⟨k1, k2⟩ := Bool.and_eq_true_iff.mp h
        have hl := all2_len k2
        refine PE.mono (pe_tup (GoN.all (ent := ent) g C A k2 hs)) fun σ H Q q => ?_
        obtain ⟨v, H1, F, d', v', S, ev, q⟩ := q
        obtain ⟨s, ev, hs'⟩ := evv_some ev
        change stepE Φ (lev Φ n).e (.tup es) v = _ at ev
        simp only [stepE] at ev
        split at ev
        · rename_i ds v1 z
          cases ev
          have z5 : ds.length ≤ sizeLine := size1000 (by rw [evs_len z, ← hl]; exact of_decide_eq_true k1)
          refine ⟨v, H1, F, ds, _, S, z, fun us Ha Hb s1 t1 e1 S1 rs => ⟨by rw [rs.length]; exact z5, fun a ha => ?_⟩⟩
          obtain ⟨g1, g2, g3, g4⟩ := (NewR.tup S1.sub ha rs z5).n S1 (by simp)
          exact q _ _ _ (s1.trans g1) (t1.trans g2) e1 g3 g4
        · cases ev
      · cases h
    | idx a i =>
      simp only [ckE] at h
      split at h
      · rename_i y z pos
        simp only [Bool.and_eq_true] at h
        obtain ⟨⟨k0, k1⟩, k2⟩ := h
        have hs2 := Bool.and_eq_true_iff.mp (show (smp a && smp i) = true from hs)
        have pa := g c y a k1 hs2.1 X C A ent
        have pb := g c z i k2 hs2.2 X C A ent
        refine PE.mono (PE.or (pe_ix (ix_idx (cl := cl)) pa pb (plainIx k0)) (pe_ixd (cl := cl) C.room pa pb (plainIx k0))) fun σ H Q q => ?_
        obtain ⟨v, H1, F, d', v', S, ev, q⟩ := q
        obtain ⟨s, ev, hs'⟩ := evv_some ev
        change stepE Φ (lev Φ n).e (.idx a i) v = _ at ev
        simp only [stepE] at ev
        split at ev
        · rename_i x y v1 ee
          cases zb : idx x y with
          | none => rw [zb] at ev; cases ev
          | some r =>
            rw [zb] at ev; cases ev
            obtain ⟨d1, dr1, va, e1, e2, ed⟩ := evs_cons ee
            obtain ⟨d2, dr2, vb, e3, e4, ed2⟩ := evs_cons e2
            cases e4
            cases ed2
            cases ed
            cases hx : noDct x with
            | true =>
              refine .inl (tN_of S e1 fun u Ha Hb s1 t1 ev1 S1 ru => ?_)
              subst ev1
              refine tN_of S1 e3 fun w Hc Hd s2 t2 ev2 S2 rw' => ?_
              exact ⟨Hc, _, _, _, S2.sub, ru.mono t2.mono, rw', hx, zb, fun u r => q _ _ _ (s1.trans s2) (t1.trans t2) ev2 S2 r⟩
            | false =>
              cases x with
              | dct ks vs =>
                simp only [idx] at zb
                split at zb
                · rename_i ok
                  refine .inr (tN_of S e1 fun u Ha Hb s1 t1 ev1 S1 ru => ?_)
                  subst ev1
                  refine tN_of S1 e3 fun w Hc Hd s2 t2 ev2 S2 rw' => ?_
                  cases ru.mono t2.mono with
                  | dct h0 h1 h2 h3 h4 h5 h6 => exact ⟨_, _, Hc, _, _, _, _, rfl, S2.sub _ _ h0, S2.sub, ⟨h1, h2, ⟨_, _, h3, h4⟩, h5, h6⟩, rw', ok, zb, fun u r => q _ _ _ (s1.trans s2) (t1.trans t2) ev2 S2 r⟩
                · cases zb
              | _ => cases hx
        · cases ev
      · cases h
    | fld a k j =>
      simp only [ckE] at h
      split at h
      · rename_i y f pos
        simp only [Bool.and_eq_true] at h
        obtain ⟨⟨k0, k1⟩, k2⟩ := h
        have k5 := of_decide_eq_true k1
        rw [← A.ct] at k5
        obtain ⟨f1, f2⟩ := C.fld k j f k5
        refine PE.mono (pe_fld (g c y a k2 hs X C A ent) (ab_nsp k0)) fun σ H Q q => ?_
        obtain ⟨v, H1, F, d', v', S, ev, q⟩ := q
        obtain ⟨s, ev, hs'⟩ := evv_some ev
        change stepE Φ (lev Φ n).e (.fld a k j) v = _ at ev
        simp only [stepE] at ev
        split at ev
        · rename_i c' ds v1 ee
          split at ev
          · rename_i hc
            subst hc
            split at ev
            · rename_i d e1
              cases ev
              refine tN_of S ee fun u Ha Hb s1 t1 ev1 S1 ru => ?_
              cases ru with
              | ins q0 z r =>
                obtain ⟨w, g1, g2⟩ := r.get' e1
                refine ⟨_, _, _, _, w, rfl, S1.sub _ _ q0, f1, f2, ?_, q _ _ _ s1 t1 ev1 S1 g2⟩
                show ((cl k).2.zip _).lookup f = _
                rw [C.nm]
                exact zip_lookup (C.cnd k).1 k5 g1
            · cases ev
          · cases ev
        · cases ev
      · cases h
    | ocpy p =>
      simp only [ckE] at h
      split at h
      · rename_i f pf px pos
        simp only [Bool.and_eq_true] at h
        obtain ⟨⟨k0, k1⟩, k2⟩ := h
        have e := of_decide_eq_true k0
        subst e
        obtain ⟨hg, hd, hn⟩ := gl_of A k1
        have ns : NoStar px := by cases px <;> first | trivial | (cases p <;> cases k2)
        refine PE.mono (pe_callTy (call_cpy (cl := cl)) hg (C.blt _ (by decide)) (by decide +kernel) (pa_cons (go_pl C A k2) pa_nil (star_cons ns)) hn hd (star_cons ns)) fun σ H Q q => ?_
        obtain ⟨v, H1, F, d', v', S, ev, q⟩ := q
        obtain ⟨s, ev, hs'⟩ := evv_some ev
        change stepE Φ (lev Φ n).e (.ocpy p) v = _ at ev
        simp only [stepE] at ev
        split at ev
        · rename_i s1 ks vs e0
          split at ev
          · rename_i hk
            cases ev
            obtain ⟨a, o, h1, ha, dd⟩ := S.plD e0
            refine ⟨_, h1, a, o, H1, _, _, rfl, ha, dd, hk, fun p o' hp d' => ?_⟩
            obtain ⟨g1, g2, g3, g4⟩ := (NewR.dct S.sub hp d').n S (by simp)
            exact q _ _ _ g1 g2 rfl g3 g4
          · cases ev
        · cases ev
      · cases h
    | _ => cases hs
end Q

set_option Elab.async false
set_option linter.all false
set_option maxRecDepth 100000
set_option maxHeartbeats 8000000
/-! R10: every expression. -/
namespace Q
open PySem L2
theorem own_of {N : List Str} : ∀ {vs : List Nat} {own : List (Str × Nat)}, (vs.mapM fun i => (N[i]?).map fun y => (y, i)) = some own → own.map (·.2) = vs
  | [], own, h => by
    cases h; rfl
  | i :: r, own, h => by
    rw [List.mapM_cons] at h
    cases e : N[i]? with
    | none => rw [e] at h; cases h
    | some y =>
      rw [e] at h
      cases e2 : (r.mapM fun i => (N[i]?).map fun y => (y, i)) with
      | none => rw [e2] at h; cases h
      | some o =>
        rw [e2] at h
        cases h
        rw [List.map_cons, own_of e2]
theorem go_o {Φ : Tab} {N : List Str} {n : Nat} {c : Sx} {X : Cx} {cl : Nat → Addr × List Str} {ent : Nat → Option V} (g : GoE Φ cl N n) (C : Cn Φ cl X) (A : At Φ.cl X N c) : ∀ {lx : Option Expr} {le : Option E}, ckO (ckE N n c) lx le = true →
    PO X lx (fun σ H Q => ∃ v H1 F o v', SV (mw X cl) ent σ v H1 H F ∧ evo (lev Φ n).e le v = some (o, v') ∧ ∀ H1' H' F', Tr (OF F) H1 H H1' H' (OF F') → SV (mw X cl) ent σ v' H1' H' F' → Q o H')
  | none, none, _ => ⟨fun pins s σ H Q I q => by
    obtain ⟨v, H1, F, o, v', S, e, q⟩ := q
    cases e
    exact po_none.run pins s σ H Q I (q H1 H F (Tr.refl fun _ h => h) S)⟩
  | some x, some e, h => ⟨fun pins s σ H Q I q => by
    obtain ⟨v, H1, F, o, v', S, ev, q⟩ := q
    refine (po_some (g.v (ent := ent) h C A)).run pins s σ H Q I ?_
    simp only [evo] at ev
    split at ev
    · rename_i i v1 z
      cases ev
      refine tV_of S z fun u Ha Hb Fa t Sa r => ?_
      cases r
      exact ⟨i, rfl, q Ha Hb Fa t Sa⟩
    · cases ev⟩
  | none, some _, h => by cases h
  | some _, none, h => by cases h
theorem ckI_noSet {N : List Str} {n : Nat} {c : Sx} {tg x : Expr} {it : It} (h : ckI (ckE N n c) c tg x it = true) (env : Env) (y : Value) : foldedSetIterable x env y = pure y := by
  cases x with
  | Set a b d =>
    exfalso
    cases it with
    | seq e => exact ckE_set h
    | _ => cases h
  | _ => rfl
abbrev GoEx (Φ : Tab) (cl : Nat → Addr × List Str) (X : Cx) (ent : Nat → Option V) (n : Nat) (x : Expr) (e : E) : Prop := PE X x (tE (mw X cl) ent (lev Φ n).e e) ∧ (tst e = true → PT X x (tB (mw X cl) ent (lev Φ n).e e))
section
variable {Φ : Tab} {cl : Nat → Addr × List Str} {N : List Str} {n : Nat} {c : Sx} {X : Cx} {ent : Nat → Option V} {x : Expr}
theorem go_dct (g : GoE Φ cl N n) (C : Cn Φ cl X) (A : At Φ.cl X N c) {ks es : List E} (h : ckE N (n + 1) c x (.dct ks es) = true) : GoEx Φ cl X ent (n + 1) x (.dct ks es) := by
  simp only [ckE] at h
  split at h
  · split at h
    · rename_i pos
      have p : PE X (.Dict [] [] pos) (tE (mw X cl) ent (lev Φ (n + 1)).e (.dct [] [])) := PE.mono (pe_dnew (cl := cl)) fun σ H Q q => by
        obtain ⟨v, H1, F, s, d', v', S, ev, q⟩ := q
        change stepE Φ (lev Φ n).e (.dct [] []) v = _ at ev
        simp only [stepE, List.append_nil, evs] at ev
        cases ev
        intro p o Hx hp dd
        have dd' : DOb (mw X cl) H1 p o [] [] := by
          obtain ⟨h1, h2, ⟨es, ep, h3, h4⟩, h5, h6⟩ := dd
          refine ⟨h1, h2, ⟨es, ep, h3, ?_⟩, h5, h6⟩
          have : es.toList = [] := by
            generalize es.toList = l at h4
            cases h4
            rfl
          rw [this]
          exact .nil
        exact q _ _ _ _ _ ((NewR.dct S.sub hp dd').post S (Tr.refl fun _ z => z))
      exact ⟨p, fun _ => pt_b p (by intro _; rfl)⟩
    · cases h
  · rename_i k e
    split at h
    · rename_i kx vx pos
      obtain ⟨k1, k2⟩ := Bool.and_eq_true_iff.mp h
      have p : PE X (.Dict [some kx] [vx] pos) (tE (mw X cl) ent (lev Φ (n + 1)).e (.dct [k] [e])) := PE.mono (pe_disp1 (cl := cl) C.room (g.v (ent := ent) k1 C A) (g.v (ent := ent) k2 C A)) fun σ H Q q => by
        obtain ⟨v, H1, F, s, d', v', S, ev, q⟩ := q
        change stepE Φ (lev Φ n).e (.dct [k] [e]) v = _ at ev
        simp only [stepE, List.cons_append, List.nil_append] at ev
        split at ev
        · rename_i ds v1 ee
          split at ev
          · rename_i kd' dd'
            split at ev
            · rename_i hk
              cases ev
              intro p o hp
              have S0 := S.laidO (o := DX p o) hp
              obtain ⟨d1, dr1, va, e1, e2, ed⟩ := evs_cons ee
              obtain ⟨d2, dr2, vb, e3, e4, ed2⟩ := evs_cons e2
              cases e4
              cases ed2
              cases ed
              refine tV_of S0 e1 fun u Ha Hb Fa ta Sa ra => tV_of Sa e3 fun w Hc Hd Fc tc Sc rc => ?_
              have nF : ¬ OF F p := S.new hp
              have h1p : H1 p = none := S.sub.free hp
              have hb : Hb p = some (DX p o) := ta.frame p _ upd_same nF
              have nFa : ¬ OF Fa p := fun z => by
                rcases ta.own p z with q | q
                · rw [upd_same] at q; cases q
                · exact nF q
              have hd : Hd p = some (DX p o) := tc.frame p _ hb nFa
              have nFc : ¬ OF Fc p := fun z => by
                rcases tc.own p z with q | q
                · rw [hb] at q; cases q
                · exact nFa q
              have hap : Ha p = none := by
                cases zz : Ha p with
                | none => rfl
                | some o' =>
                  rcases ta.new p (by rw [zz]; simp) with z | z | z
                  · exact absurd h1p z
                  · rw [upd_same] at z; cases z
                  · exact absurd z nF
              have hcp : Hc p = none := by
                cases zz : Hc p with
                | none => rfl
                | some o' =>
                  rcases tc.new p (by rw [zz]; simp) with z | z | z
                  · exact absurd hap z
                  · rw [hb] at z; cases z
                  · exact absurd z nFa
              obtain ⟨bb, hk⟩ := Option.isSome_iff_exists.mp hk
              refine ⟨hd, kd', dd', Hc, bb, hk, Sc.sub, ra.mono tc.mono, rc, fun o' dob => ?_⟩
              refine q _ Hc (upd Hd p (DX p o')) Fc [p] ⟨?_, Sc.write nFc hcp, ⟨p, o', _, _, rfl, rfl, rfl, upd_same, dob⟩, fun b hb' => ?_, fun b hb' => ?_⟩
              · have t1 : Tr (OF F) H1 H Ha Hb (fun b => OF Fa b ∨ b = p) := ((Tr.laidO hp).trans (ta.weak (fun b z => .inl z) fun b z => by
                    rcases z with z | z
                    · exact .inl z
                    · exact .inr (.inr z)))
                have t2 : Tr (OF F) H1 H Hc Hd (fun b => OF Fc b ∨ b = p) := t1.trans (tc.weak (fun b z => .inl z) fun b z => by
                    rcases z with z | z
                    · exact .inl z
                    · exact .inr (.inr z))
                exact (t2.trans (Tr.write (O := fun b => OF Fc b ∨ b = p) (.inr rfl))).weak (fun _ z => z) fun b z => by
                    rcases z with z | z
                    · exact .inl (.inl z)
                    · exact .inl (.inr (by simpa using z))
              · have e : b = p := by simpa using hb'
                rw [e]; exact nFc
              · have e : b = p := by simpa using hb'
                rw [e]; exact hcp
            · cases ev
          · cases ev
        · cases ev
      exact ⟨p, fun _ => pt_b p (by intro _; rfl)⟩
    · cases h
  · cases h
theorem go_idx (g : GoE Φ cl N n) (C : Cn Φ cl X) (A : At Φ.cl X N c) {a i : E} (h : ckE N (n + 1) c x (.idx a i) = true) : GoEx Φ cl X ent (n + 1) x (.idx a i) := by
  simp only [ckE] at h
  split at h
  · rename_i y z pos
    simp only [Bool.and_eq_true] at h
    obtain ⟨⟨k0, k1⟩, k2⟩ := h
    have pa := g.v (ent := ent) k1 C A
    have pb := g.v (ent := ent) k2 C A
    have p : PE X (.Subscript y z pos) (tE (mw X cl) ent (lev Φ (n + 1)).e (.idx a i)) := PE.mono (PE.or (pe_ix (ix_idx (cl := cl)) pa pb (plainIx k0)) (pe_ixd (cl := cl) C.room pa pb (plainIx k0))) fun σ H Q q => by
      obtain ⟨v, H1, F, s, d', v', S, ev, q⟩ := q
      change stepE Φ (lev Φ n).e (.idx a i) v = _ at ev
      simp only [stepE] at ev
      split at ev
      · rename_i x y v1 ee
        cases zb : idx x y with
        | none => rw [zb] at ev; cases ev
        | some r =>
          rw [zb] at ev; cases ev
          cases hx : noDct x with
          | true =>
            refine .inl (two S ee fun x' y' u w Ha Hb Fa ed t Sa rx ry => ?_)
            cases ed
            exact ⟨Ha, _, _, _, Sa.sub, rx, ry, hx, zb, fun u r => q _ _ _ _ _ (thnR (v := v) t Sa r)⟩
          | false =>
            cases x with
            | dct ks vs =>
              simp only [idx] at zb
              split at zb
              · rename_i ok
                refine .inr (two S ee fun x' y' u w Ha Hb Fa ed t Sa rx ry => ?_)
                cases ed
                cases rx with
                | dct h0 h1 h2 h3 h4 h5 h6 => exact ⟨_, _, Ha, _, _, _, _, rfl, Sa.sub _ _ h0, Sa.sub, ⟨h1, h2, ⟨_, _, h3, h4⟩, h5, h6⟩, ry, ok, zb, fun u r => q _ _ _ _ _ (thnR (v := v) t Sa r)⟩
              · cases zb
            | _ => cases hx
      · cases ev
    exact ⟨p, fun _ => pt_b p (by intro _; rfl)⟩
  · cases h
theorem go_fld (g : GoE Φ cl N n) (C : Cn Φ cl X) (A : At Φ.cl X N c) {a : E} {k j : Nat} (h : ckE N (n + 1) c x (.fld a k j) = true) : GoEx Φ cl X ent (n + 1) x (.fld a k j) := by
  simp only [ckE] at h
  split at h
  · rename_i y f pos
    simp only [Bool.and_eq_true] at h
    obtain ⟨⟨k0, k1⟩, k2⟩ := h
    have k5 := of_decide_eq_true k1
    rw [← A.ct] at k5
    obtain ⟨f1, f2⟩ := C.fld k j f k5
    have p : PE X (.Attribute y f pos) (tE (mw X cl) ent (lev Φ (n + 1)).e (.fld a k j)) := PE.mono (pe_fld (g.v (ent := ent) k2 C A) (ab_nsp k0)) fun σ H Q q => by
      obtain ⟨v, H1, F, s, d', v', S, ev, q⟩ := q
      change stepE Φ (lev Φ n).e (.fld a k j) v = _ at ev
      simp only [stepE] at ev
      split at ev
      · rename_i c' ds v1 ee
        split at ev
        · rename_i hc
          subst hc
          split at ev
          · rename_i d e1
            cases ev
            refine tV_of S ee fun u Ha Hb Fa t Sa ru => ?_
            cases ru with
            | ins q0 z r =>
              obtain ⟨w, g1, g2⟩ := r.get' e1
              refine ⟨_, _, _, _, w, rfl, Sa.sub _ _ q0, f1, f2, ?_, q _ _ _ _ _ (thnR (v := v) t Sa g2)⟩
              show ((cl k).2.zip _).lookup f = _
              rw [C.nm]
              exact zip_lookup (C.cnd k).1 k5 g1
          · cases ev
        · cases ev
      · cases ev
    exact ⟨p, fun _ => pt_b p (by intro _; rfl)⟩
  · cases h
end
end Q

set_option Elab.async false
set_option linter.all false
set_option maxRecDepth 100000
set_option maxHeartbeats 8000000
/-! Q15: places, methods, new instances, borrowed things. -/
namespace Q
open PySem L2
section
variable {Φ : Tab} {cl : Nat → Addr × List Str} {N : List Str} {n : Nat} {c : Sx} {X : Cx} {ent : Nat → Option V} {x : Expr}
theorem ckPl_noStar {p : Pl} (h : ckPl N c x p = true) : NoStar x := by
  cases x <;> first | trivial | (cases p <;> cases h)
theorem ckPl_nsp {p : Pl} (h : ckPl N c x p = true) : nsp x = true := by
  cases p with
  | s i =>
    simp only [ckPl] at h
    split at h
    · rfl
    · cases h
  | f i k j =>
    simp only [ckPl] at h
    split at h
    · rfl
    · cases h
theorem ckPl_noSet {op : CmpOp} {p : Pl} (h : ckPl N c x p = true) : behindInMarks op x = false := by
  cases x with
  | Set a b d => cases p <;> cases h
  | _ => rfl
/-- an item of what stands at a place -/
theorem ix_at {σ : L2.St} {v : Ev} {H1 H : Hp} {F : Nat → List Addr} {p : Pl} {s : Sh} {a y r : D} {w : V} {Q : VK} (S : SV (mw X cl) ent σ v H1 H F) (e : getP v p = some (s, a)) (hs : ∀ c fs, s ≠ .ins c fs) (rw' : Rp (mw X cl) H1 w y) (er : idx a y = some r) (q : ∀ u, Rp (mw X cl) H1 u r → Q u H) :
    ∃ u, PlAt cl σ H u p ∧ (noDct a = true → rIx X.K u w H Q) ∧ (noDct a = false → rIxD (mw X cl) u w H Q) := by
  obtain ⟨u, f, h1, h2, h4⟩ := S.pl e
  refine ⟨u, h1, ?_⟩
  have seqL : ∀ {al : Addr} {vs : List V} {ds : List D}, u = .ref al → a = .lst ds → SqL X.K H al vs → Rps (mw X cl) H1 vs ds → rIx X.K u w H Q := by
    intro al vs ds e1 e2 e3 e4
    subst e1 e2
    cases rw' with
    | int j =>
      obtain ⟨w2, g1, g2⟩ := e4.at (show atI ds j = some r from er)
      exact .inl ⟨_, _, _, _, rfl, rfl, e3, g1, q _ g2⟩
    | _ => cases er
  have dk : ∀ {al : Addr} {o : Obj} {ks vs : List D}, u = .ref al → a = .dct ks vs → H al = some (DX al o) → DOb (mw X cl) H1 al o ks vs → rIxD (mw X cl) u w H Q := by
    intro al o ks vs e1 e2 e3 e4
    subst e1 e2
    simp only [idx] at er
    split at er
    · rename_i ok
      exact ⟨_, _, H1, _, _, _, _, rfl, e3, S.sub, e4, rw', ok, er, q⟩
    · cases er
  cases s with
  | sh =>
    cases h2.1 with
    | lst hl z rs => exact ⟨fun _ => seqL rfl rfl (SqL.of (S.sub _ _ hl)) rs, fun z => by cases z⟩
    | tup hl z rs =>
      cases rw' with
      | int j =>
        obtain ⟨w2, g1, g2⟩ := rs.at (show atI _ j = some r from er)
        exact ⟨fun _ => .inr (.inl ⟨_, _, _, _, rfl, rfl, same_seqT S.sub hl, g1, q _ g2⟩), fun z => by cases z⟩
      | _ => cases er
    | dct h0 k1 k2 k3 k4 k5 k6 => exact ⟨(fun z => by cases z), fun _ => dk rfl rfl (S.sub _ _ h0) ⟨k1, k2, ⟨_, _, k3, k4⟩, k5, k6⟩⟩
    | _ => cases rw' <;> cases er
  | lst =>
    obtain ⟨al, vs, ds, e1, e2, _, e3, e4, _⟩ := h2
    exact ⟨fun _ => seqL e1 e2 (SqL.of e3) e4, fun z => by rw [e2] at z; cases z⟩
  | fro =>
    obtain ⟨al, vs, ds, e1, e2, _, e3, e4, _⟩ := h2
    exact ⟨fun _ => seqL e1 e2 (S.sub.seq e3) e4, fun z => by rw [e2] at z; cases z⟩
  | dct =>
    obtain ⟨al, o, ks, vs, e1, e2, _, e3, e4⟩ := h2
    exact ⟨(fun z => by rw [e2] at z; cases z), fun _ => dk e1 e2 e3 e4⟩
  | ins c fs => exact absurd rfl (hs c fs)
theorem PlAt.slot {σ : L2.St} {H H' : Hp} {u : V} {p : Pl} (hp : p.isF = false) (h : PlAt cl σ H u p) : PlAt cl σ H' u p := by
  cases p with
  | s i => exact h
  | f i k j => cases hp
theorem go_oidx (g : GoE Φ cl N n) (gN : GoN Φ cl N n) (C : Cn Φ cl X) (A : At Φ.cl X N c) {p : Pl} {e : E} (h : ckE N (n + 1) c x (.oidx p e) = true) : GoEx Φ cl X ent (n + 1) x (.oidx p e) := by
  simp only [ckE] at h
  split at h
  · rename_i px z pos
    simp only [Bool.and_eq_true] at h
    obtain ⟨⟨⟨k0, k1⟩, k2⟩, k3⟩ := h
    have pl := go_pl C A k1
    have parts : ∀ {v : Ev} {s : Sh} {d' : D} {v' : Ev}, stepE Φ (lev Φ n).e (.oidx p e) v = some (s, d', v') → ∃ s0 d0 y s1 d1, getP v p = some (s0, d0) ∧ (∀ c fs, s0 ≠ .ins c fs) ∧ evv (lev Φ n).e e v = some (y, v') ∧ getP v' p = some (s1, d1) ∧ (∀ c fs, s1 ≠ .ins c fs) ∧ s = .sh ∧ idx d1 y = some d' := by
      intro v s d' v' ev
      simp only [stepE] at ev
      split at ev
      · cases ev
      · rename_i q hq e0
        split at ev
        · rename_i y v1 ee
          split at ev
          · cases ev
          · rename_i s1 d1 hq1 e1
            cases zb : idx d1 y with
            | none => rw [zb] at ev; cases ev
            | some r =>
              rw [zb] at ev; cases ev
              obtain ⟨s0, d0⟩ := q
              refine ⟨s0, d0, y, s1, d1, e0, ?_, ee, e1, ?_, rfl, zb⟩
              · intro c fs z; subst z; exact hq c fs d0 rfl
              · intro c fs z; subst z; exact hq1 c fs rfl
          · cases ev
        · cases ev
      · cases ev
    have pp : PE X (.Subscript px z pos) (tE (mw X cl) ent (lev Φ (n + 1)).e (.oidx p e)) := by
      cases hp : p.isF with
      | false =>
        have pe := g.v (ent := ent) k2 C A
        refine PE.mono (PE.or (pe_ix ix_seq pl pe (plainIx k0)) (pe_ixd (cl := cl) C.room pl pe (plainIx k0))) fun σ H Q q => ?_
        obtain ⟨v, H1, F, s, d', v', S, ev, q⟩ := q
        obtain ⟨s0, d0, y, s1, d1, e0, n0, ee, e1, n1, rfl, er⟩ := parts ev
        obtain ⟨u0, f0, p0, _, _⟩ := S.pl e0
        have key : ∀ (w : V) (Ha Hb : Hp) (Fa : Nat → List Addr), Tr (OF F) H1 H Ha Hb (OF Fa) → SV (mw X cl) ent σ v' Ha Hb Fa → Rp (mw X cl) Ha w y → (noDct d1 = true → rIx X.K u0 w Hb Q) ∧ (noDct d1 = false → rIxD (mw X cl) u0 w Hb Q) := by
          intro w Ha Hb Fa t Sa rw'
          obtain ⟨u1, p1, r1⟩ := ix_at (Q := Q) Sa e1 n1 rw' er fun u r => q _ _ _ _ _ (thnR (v := v) t Sa r)
          rw [p1.inj (p0.slot hp)] at r1
          exact r1
        cases hd : noDct d1 with
        | true => exact .inl ⟨u0, p0, tV_of S ee fun w Ha Hb Fa t Sa rw' => (key w Ha Hb Fa t Sa rw').1 hd⟩
        | false => exact .inr ⟨u0, p0, tV_of S ee fun w Ha Hb Fa t Sa rw' => (key w Ha Hb Fa t Sa rw').2 hd⟩
      | true =>
        rw [hp] at k3
        have pe := gN c z e k2 k3 X C A ent
        refine PE.mono (PE.or (pe_ix ix_seq pl pe (plainIx k0)) (pe_ixd (cl := cl) C.room pl pe (plainIx k0))) fun σ H Q q => ?_
        obtain ⟨v, H1, F, s, d', v', S, ev, q⟩ := q
        obtain ⟨s0, d0, y, s1, d1, e0, n0, ee, e1, n1, rfl, er⟩ := parts ev
        obtain ⟨u0, f0, p0, _, _⟩ := S.pl e0
        have key : ∀ (w : V) (Ha Hb : Hp), Same H Hb → Tr (OF F) H1 H Ha Hb (OF F) → v' = v → SV (mw X cl) ent σ v Ha Hb F → Rp (mw X cl) Ha w y → (noDct d1 = true → rIx X.K u0 w Hb Q) ∧ (noDct d1 = false → rIxD (mw X cl) u0 w Hb Q) := by
          intro w Ha Hb sm t ev' Sa rw'
          subst ev'
          obtain ⟨u1, p1, r1⟩ := ix_at (Q := Q) Sa e1 n1 rw' er fun u r => q _ _ _ _ _ (thnR (v := v') t Sa r)
          rw [p1.inj (p0.keep sm)] at r1
          exact r1
        cases hd : noDct d1 with
        | true => exact .inl ⟨u0, p0, tN_of S ee fun w Ha Hb sm t ev' Sa rw' => (key w Ha Hb sm t ev' Sa rw').1 hd⟩
        | false => exact .inr ⟨u0, p0, tN_of S ee fun w Ha Hb sm t ev' Sa rw' => (key w Ha Hb sm t ev' Sa rw').2 hd⟩
    exact ⟨pp, fun _ => pt_b pp (by intro _; rfl)⟩
  · cases h
theorem go_olen (g : GoE Φ cl N n) (C : Cn Φ cl X) (A : At Φ.cl X N c) {p : Pl} (h : ckE N (n + 1) c x (.olen p) = true) : GoEx Φ cl X ent (n + 1) x (.olen p) := by
  simp only [ckE] at h
  split at h
  · rename_i f pf px pos
    simp only [Bool.and_eq_true] at h
    obtain ⟨⟨k0, k1⟩, k2⟩ := h
    have e := of_decide_eq_true k0
    subst e
    obtain ⟨hg, hd, hn⟩ := gl_of A k1
    have ns := ckPl_noStar k2
    have pl := go_pl C A k2
    have pp : PE X (.Call (.Name "len" pf) [px] [] pos) (tE (mw X cl) ent (lev Φ (n + 1)).e (.olen p)) := PE.mono (PE.or (pe_callB call_len hg (C.blt _ (by decide)) PySem.boot_len (pa_cons pl pa_nil (star_cons ns)) hn hd (star_cons ns)) (pe_callB (call_lenDx (cl := cl)) hg (C.blt _ (by decide)) PySem.boot_len (pa_cons pl pa_nil (star_cons ns)) hn hd (star_cons ns))) fun σ H Q q => by
      obtain ⟨v, H1, F, s, d', v', S, ev, q⟩ := q
      change stepE Φ (lev Φ n).e (.olen p) v = _ at ev
      simp only [stepE] at ev
      split at ev
      · cases ev
      · rename_i s0 xs hq e0
        cases ev
        obtain ⟨u, f, h1, h2, h4⟩ := S.pl e0
        refine .inl ⟨u, h1, u, xs.length, rfl, ?_, q _ _ _ _ _ (S.post (.int _))⟩
        cases s0 with
        | sh =>
          cases h2.1 with
          | lst hl z rs => exact .inl ⟨_, SqL.of (S.sub _ _ hl), rs.length.symm⟩
        | lst =>
          obtain ⟨al, vs, ds, rfl, e2, _, e3, e4, _⟩ := h2
          cases e2
          exact .inl ⟨_, SqL.of e3, e4.length.symm⟩
        | fro =>
          obtain ⟨al, vs, ds, rfl, e2, _, e3, e4, _⟩ := h2
          cases e2
          exact .inl ⟨_, S.sub.seq e3, e4.length.symm⟩
        | dct => obtain ⟨al, o, ks, vs, rfl, e2, _⟩ := h2; cases e2
        | ins c fs => obtain ⟨al, dx, us, ds, ff, rfl, e2, _⟩ := h2; cases e2
      · rename_i ks vs e0
        split at ev
        · rename_i hk
          cases ev
          obtain ⟨u, f, h1, ⟨al, o, ks', vs', rfl, e2, _, e3, e4⟩, h4⟩ := S.pl e0
          cases e2
          exact .inr ⟨_, h1, al, o, H1, _, _, rfl, e3, S.sub, e4, hk, q _ _ _ _ _ (S.post (.int _))⟩
        · cases ev
      · rename_i ks vs e0
        split at ev
        · rename_i hk
          cases ev
          obtain ⟨al, o, h1, e3, e4⟩ := S.plD e0
          exact .inr ⟨_, h1, al, o, H1, _, _, rfl, e3, S.sub, e4, hk, q _ _ _ _ _ (S.post (.int _))⟩
        · cases ev
      · cases ev
    exact ⟨pp, fun _ => pt_b pp (by intro _; rfl)⟩
  · cases h
theorem go_oin (g : GoE Φ cl N n) (C : Cn Φ cl X) (A : At Φ.cl X N c) {neg : Bool} {e : E} {p : Pl} (h : ckE N (n + 1) c x (.oin neg e p) = true) : GoEx Φ cl X ent (n + 1) x (.oin neg e p) := by
  simp only [ckE] at h
  split at h
  · rename_i z op px pos
    simp only [Bool.and_eq_true] at h
    obtain ⟨⟨k0, k1⟩, k2⟩ := h
    have eo := of_decide_eq_true k0
    subst eo
    have pl := go_pl C A k2
    have key : ∀ (σ : L2.St) (H : Hp) (Q : VK) (v : Ev) (H1 : Hp) (F : Nat → List Addr) (s : Sh) (d' : D) (v' : Ev), SV (mw X cl) ent σ v H1 H F → stepE Φ (lev Φ n).e (.oin neg e p) v = some (s, d', v') →
        ∃ b, s = .sh ∧ d' = .bl b ∧ ((∀ H1' H' F', Tr (OF F) H1 H H1' H' (OF F') → SV (mw X cl) ent σ v' H1' H' F' → Q (.bl b) H') → tOp (fun x y H Q => ∃ a o H1 ks vs k, y = .ref a ∧ H a = some (DX a o) ∧ Same H1 H ∧ DOb (mw X cl) H1 a o ks vs ∧ Rp (mw X cl) H1 x k ∧ kOk ks k = true ∧ Q (.bl (if neg then !(dHas ks k) else dHas ks k)) H) (tV (mw X cl) ent (lev Φ n).e e) (tPl cl p) σ H Q) := by
      intro σ H Q v H1 F s d' v' S ev
      simp only [stepE] at ev
      split at ev
      · rename_i k v1 ee
        split at ev
        · cases ev
        · rename_i s1 ks vs hq e0
          split at ev
          · rename_i ok
            cases ev
            refine ⟨_, rfl, rfl, fun q => tV_of S ee fun u Ha Hb Fa t Sa ru => ?_⟩
            obtain ⟨al, o, h1, e3, e4⟩ := Sa.plD e0
            exact ⟨_, h1, al, o, Ha, _, _, k, rfl, e3, Sa.sub, e4, ru, ok, q Ha Hb Fa t Sa⟩
          · cases ev
        · cases ev
      · cases ev
    refine ⟨PE.mono (pe_cmpR (op_dIn (cl := cl) C.room neg) (g.v (ent := ent) k1 C A) pl (ckPl_noSet k2)) fun σ H Q q => ?_, fun _ => PT.mono (pt_cmpR (op_dIn (cl := cl) C.room neg) (g.v (ent := ent) k1 C A) pl (ckPl_noSet k2)) fun σ H Q q => ?_⟩
    · obtain ⟨v, H1, F, s, d', v', S, ev, q⟩ := q
      obtain ⟨b, rfl, rfl, k⟩ := key σ H Q v H1 F s d' v' S ev
      exact k fun Ha Hb Fa t Sa => q _ _ _ _ _ (thnR (v := v) t Sa (.bl _))
    · obtain ⟨v, H1, F, b', v', S, ev, q⟩ := q
      obtain ⟨s, ev2, hs⟩ := evv_some (evt_v ev)
      obtain ⟨b, rfl, eb, k⟩ := key σ H _ v H1 F s _ v' S ev2
      cases eb
      exact k fun Ha Hb Fa t Sa => ⟨b', rfl, q Ha Hb Fa t Sa⟩
  · cases h
theorem go_gget (g : GoE Φ cl N n) (C : Cn Φ cl X) (A : At Φ.cl X N c) {z : Str} {k d : E} (h : ckE N (n + 1) c x (.gget z k d) = true) : GoEx Φ cl X ent (n + 1) x (.gget z k d) := by
  change ckGg (ckE N n c) c x z k d = true at h
  unfold ckGg at h
  split at h
  · rename_i y py m ap kx dx cp
    simp only [Bool.and_eq_true] at h
    obtain ⟨⟨⟨⟨⟨⟨k0, k1⟩, k2⟩, k3⟩, k4⟩, k5⟩, k6⟩ := h
    have em := of_decide_eq_true k0
    subst em
    have ez := of_decide_eq_true k1
    subst ez
    obtain ⟨hg, hd, hn⟩ := gl_of A k2
    have k34 : all2 (ckE N n c) [kx, dx] [k, d] = true := by simp [all2, k4, k5]
    have pp : PE X (.Call (.Attribute (.Name y py) "get" ap) [kx, dx] [] cp) (tE (mw X cl) ent (lev Φ (n + 1)).e (.gget y k d)) := by
      cases zd : Φ.gd y with
      | none =>
        refine ⟨fun pins s σ H Q I q => ?_⟩
        obtain ⟨v, H1, F, s, d', v', S, ev, q⟩ := q
        change stepE Φ (lev Φ n).e (.gget y k d) v = _ at ev
        simp only [stepE] at ev
        rw [zd] at ev
        cases ev
      | some kvs =>
        obtain ⟨a, es, n', m0, D, hv⟩ := C.gd y kvs zd
        refine PE.mono (pe_kdg D (pe_glob (v := V.ref a) hg m0 rfl hd) (g.all (ent := ent) C A k34) k3 (ckE_noStar k4) (ckE_noStar k5) k6) fun σ H Q q => ?_
        obtain ⟨v, H1, F, s, d', v', S, ev, q⟩ := q
        change stepE Φ (lev Φ n).e (.gget y k d) v = _ at ev
        simp only [stepE] at ev
        rw [zd] at ev
        split at ev
        · rename_i kvs' zz j v1 e0 ee
          cases e0
          split at ev
          · rename_i i ei
            cases ev
            obtain ⟨u0, en, r0⟩ := hv zz i ei
            refine ⟨v, H1, F, _, _, S, ee, fun us Hc Hd Fc p => ?_⟩
            have r := p.rp
            cases r with
            | cons r1 rt =>
              cases rt with
              | cons r2 rt =>
                cases rt
                cases r1
                exact ⟨zz, _, u0, .int i, rfl, en, r0, q _ _ _ _ _ (thnR (v := v) p.tr p.sv (.int i))⟩
          · cases ev
        · cases ev
    exact ⟨pp, fun _ => pt_b pp (by intro _; rfl)⟩
  · cases h
theorem go_get (g : GoE Φ cl N n) (C : Cn Φ cl X) (A : At Φ.cl X N c) {a k d : E} (h : ckE N (n + 1) c x (.get a k d) = true) : GoEx Φ cl X ent (n + 1) x (.get a k d) := by
  simp only [ckE] at h
  split at h
  · rename_i y m ap kx dx cp
    simp only [Bool.and_eq_true] at h
    obtain ⟨⟨⟨⟨⟨k0, k1⟩, k2⟩, k3⟩, k4⟩, k5⟩ := h
    have em := of_decide_eq_true k0
    subst em
    have k34 : all2 (ckE N n c) [kx, dx] [k, d] = true := by simp [all2, k3, k4]
    have pp : PE X (.Call (.Attribute y "get" ap) [kx, dx] [] cp) (tE (mw X cl) ent (lev Φ (n + 1)).e (.get a k d)) := PE.mono (pe_dg (cl := cl) C.room (g.v (ent := ent) k2 C A) (g.all (ent := ent) C A k34) k1 (ckE_noStar k3) (ckE_noStar k4) k5) fun σ H Q q => by
      obtain ⟨v, H1, F, s, d', v', S, ev, q⟩ := q
      change stepE Φ (lev Φ n).e (.get a k d) v = _ at ev
      simp only [stepE] at ev
      split at ev
      · rename_i ks vs kk xx v1 ee
        split at ev
        · rename_i ok
          cases ev
          obtain ⟨d1, dr1, va, e1, e2, ed⟩ := evs_cons ee
          cases ed
          refine tV_of S e1 fun u Ha Hb Fa t Sa ru => ?_
          cases ru with
          | dct h0 j1 j2 j3 j4 j5 j6 =>
            refine ⟨_, _, rfl, Sa.sub _ _ h0, j2, va, Ha, Fa, _, _, Sa, e2, fun us Hc Hd Fc p => ?_⟩
            have r := p.rp
            cases r with
            | cons r1 rt =>
              cases rt with
              | cons r2 rt =>
                cases rt
                have m := p.tr.mono
                exact ⟨_, _, _, Hc, ks, vs, kk, xx, rfl, p.sv.sub _ _ (m _ _ h0), p.sv.sub, ⟨j1, j2, ⟨_, _, j3, j4.mono m⟩, j5, j6⟩, r1, r2, ok, fun w rw' => q _ _ _ _ _ (thnR (v := v) (t.trans p.tr) p.sv rw')⟩
        · cases ev
      · cases ev
    exact ⟨pp, fun _ => pt_b pp (by intro _; rfl)⟩
  · cases h
theorem go_oget (g : GoE Φ cl N n) (gN : GoN Φ cl N n) (C : Cn Φ cl X) (A : At Φ.cl X N c) {p : Pl} {k d : E} (h : ckE N (n + 1) c x (.oget p k d) = true) : GoEx Φ cl X ent (n + 1) x (.oget p k d) := by
  simp only [ckE] at h
  split at h
  · rename_i y m ap kx dx cp
    simp only [Bool.and_eq_true] at h
    obtain ⟨⟨⟨⟨⟨k0, k1⟩, k3⟩, k4⟩, k5⟩, k6⟩ := h
    have em := of_decide_eq_true k0
    subst em
    have k34 : all2 (ckE N n c) [kx, dx] [k, d] = true := by simp [all2, k3, k4]
    have pl := go_pl C A k1
    have parts : ∀ {v : Ev} {s : Sh} {d' : D} {v' : Ev}, stepE Φ (lev Φ n).e (.oget p k d) v = some (s, d', v') → ∃ s0 k0 v0 s1 kk xx ks vs, getP v p = some (s0, .dct k0 v0) ∧ evs (lev Φ n).e [k, d] v = some ([kk, xx], v') ∧ getP v' p = some (s1, .dct ks vs) ∧ kOk ks kk = true ∧ s = .sh ∧ d' = (dGet ks vs kk).getD xx := by
      intro v s d' v' ev
      simp only [stepE] at ev
      split at ev
      · rename_i s0 k0 v0 e0
        split at ev
        · rename_i kk xx v1 ee
          split at ev
          · rename_i s1 ks vs e1
            split at ev
            · rename_i ok
              cases ev
              exact ⟨_, _, _, _, _, _, _, _, e0, ee, e1, ok, rfl, rfl⟩
            · cases ev
          · cases ev
        · cases ev
      · cases ev
    have pp : PE X (.Call (.Attribute y "get" ap) [kx, dx] [] cp) (tE (mw X cl) ent (lev Φ (n + 1)).e (.oget p k d)) := by
      cases hp : p.isF with
      | false =>
        refine PE.mono (pe_dg (cl := cl) C.room pl (g.all (ent := ent) C A k34) (ckPl_nsp k1) (ckE_noStar k3) (ckE_noStar k4) k5) fun σ H Q q => ?_
        obtain ⟨v, H1, F, s, d', v', S, ev, q⟩ := q
        obtain ⟨s0, k0, v0, s1, kk, xx, ks, vs, e0, ee, e1, ok, rfl, rfl⟩ := parts ev
        obtain ⟨al, o, h1, e3, e4⟩ := S.plD e0
        refine ⟨_, h1, al, o, rfl, e3, e4.ex, v, H1, F, _, _, S, ee, fun us Hc Hd Fc pa => ?_⟩
        obtain ⟨al', o', h1', e3', e4'⟩ := pa.sv.plD e1
        have := h1'.inj (h1.slot hp)
        cases this
        have r := pa.rp
        cases r with
        | cons r1 rt =>
          cases rt with
          | cons r2 rt =>
            cases rt
            exact ⟨_, _, o', Hc, ks, vs, kk, xx, rfl, e3', pa.sv.sub, e4', r1, r2, ok, fun w rw' => q _ _ _ _ _ (thnR (v := v) pa.tr pa.sv rw')⟩
      | true =>
        rw [hp] at k6
        refine PE.mono (pe_dg (cl := cl) C.room pl (GoN.all (ent := ent) gN C A k34 (by simpa [smps] using k6)) (ckPl_nsp k1) (ckE_noStar k3) (ckE_noStar k4) k5) fun σ H Q q => ?_
        obtain ⟨v, H1, F, s, d', v', S, ev, q⟩ := q
        obtain ⟨s0, k0, v0, s1, kk, xx, ks, vs, e0, ee, e1, ok, rfl, rfl⟩ := parts ev
        obtain ⟨al, o, h1, e3, e4⟩ := S.plD e0
        refine ⟨_, h1, al, o, rfl, e3, e4.ex, v, H1, F, _, _, S, ee, fun us Hc Hd sm t ev' Sc rs => ?_⟩
        subst ev'
        obtain ⟨al', o', h1', e3', e4'⟩ := Sc.plD e1
        have := h1'.inj (h1.keep sm)
        cases this
        cases rs with
        | cons r1 rt =>
          cases rt with
          | cons r2 rt =>
            cases rt
            exact ⟨_, _, o', Hc, ks, vs, kk, xx, rfl, e3', Sc.sub, e4', r1, r2, ok, fun w rw' => q _ _ _ _ _ (thnR (v := v') t Sc rw')⟩
    exact ⟨pp, fun _ => pt_b pp (by intro _; rfl)⟩
  · cases h
theorem go_ocpy (g : GoE Φ cl N n) (C : Cn Φ cl X) (A : At Φ.cl X N c) {p : Pl} (h : ckE N (n + 1) c x (.ocpy p) = true) : GoEx Φ cl X ent (n + 1) x (.ocpy p) := by
  simp only [ckE] at h
  split at h
  · rename_i f pf px pos
    simp only [Bool.and_eq_true] at h
    obtain ⟨⟨k0, k1⟩, k2⟩ := h
    have e := of_decide_eq_true k0
    subst e
    obtain ⟨hg, hd, hn⟩ := gl_of A k1
    have ns := ckPl_noStar k2
    have pp : PE X (.Call (.Name "dict" pf) [px] [] pos) (tE (mw X cl) ent (lev Φ (n + 1)).e (.ocpy p)) := PE.mono (pe_callTy (call_cpy (cl := cl)) hg (C.blt _ (by decide)) (by decide +kernel) (pa_cons (go_pl C A k2) pa_nil (star_cons ns)) hn hd (star_cons ns)) fun σ H Q q => by
      obtain ⟨v, H1, F, s, d', v', S, ev, q⟩ := q
      change stepE Φ (lev Φ n).e (.ocpy p) v = _ at ev
      simp only [stepE] at ev
      split at ev
      · rename_i s1 ks vs e0
        split at ev
        · rename_i hk
          cases ev
          obtain ⟨a, o, h1, ha, dd⟩ := S.plD e0
          exact ⟨_, h1, a, o, H1, _, _, rfl, ha, dd, hk, fun p o' hp d' => q _ _ _ _ _ ((NewR.dct S.sub hp d').post S (Tr.refl fun _ z => z))⟩
        · cases ev
      · cases ev
    exact ⟨pp, fun _ => pt_b pp (by intro _; rfl)⟩
  · cases h
def rOls (M : Mw) : List V → Hp → VK → Prop := fun xs H Q => ∃ a H1 ks, xs = [V.ref a] ∧ ks.length ≤ sizeLine ∧ Same H1 H ∧ ((∃ o vs, H a = some (DX a o) ∧ DOb M H1 a o ks vs) ∨ ∃ vs, H a = some (.lst vs) ∧ Rps M H1 vs ks) ∧ ∀ p us, H p = none → Rps M H1 us ks → Q (.ref p) (upd H p (.lst us))
theorem call_ols (hc : X.calm = true) : CallR X (.type "list") (rOls (mw X cl)) := by
  intro pins s σ H xs us Q I r h
  obtain ⟨a, H1, ks, rfl, z, sub, h, q⟩ := h
  rcases h with ⟨o, vs, ha, d⟩ | ⟨vs, ha, rv⟩
  · cases r with
    | cons r1 rt =>
      cases rt
      cases r1
      exact dx_list (I.ok.hd hc) I ha d q
  · exact call_list_of pins s σ H _ us Q I r ⟨_, _, rfl, .inl (SqL.of ha), fun p hp => q p _ hp rv⟩
theorem go_olst (g : GoE Φ cl N n) (C : Cn Φ cl X) (A : At Φ.cl X N c) {p : Pl} (h : ckE N (n + 1) c x (.olst p) = true) : GoEx Φ cl X ent (n + 1) x (.olst p) := by
  simp only [ckE] at h
  split at h
  · rename_i f pf px pos
    simp only [Bool.and_eq_true] at h
    obtain ⟨⟨k0, k1⟩, k2⟩ := h
    have e := of_decide_eq_true k0
    subst e
    obtain ⟨hg, hd, hn⟩ := gl_of A k1
    have ns := ckPl_noStar k2
    have pp : PE X (.Call (.Name "list" pf) [px] [] pos) (tE (mw X cl) ent (lev Φ (n + 1)).e (.olst p)) := PE.mono (pe_callTy (call_ols (cl := cl) C.calm) hg (C.blt _ (by decide)) (by decide +kernel) (pa_cons (go_pl C A k2) pa_nil (star_cons ns)) hn hd (star_cons ns)) fun σ H Q q => by
      obtain ⟨v, H1, F, s, d', v', S, ev, q⟩ := q
      change stepE Φ (lev Φ n).e (.olst p) v = _ at ev
      simp only [stepE] at ev
      split at ev
      · rename_i s1 ks vs e0
        cases ev
        obtain ⟨a, o, h1, ha, dd⟩ := S.plD e0
        exact ⟨_, h1, a, H1, ks, rfl, dd.z, S.sub, .inl ⟨o, _, ha, dd⟩, fun p us hp r => q _ _ _ _ _ ((NewR.lst S.sub hp r dd.z).post S (Tr.refl fun _ z => z))⟩
      · rename_i xs e0
        cases ev
        obtain ⟨u, f, h1, ⟨al, vs, ds, rfl, e2, _, e3, e4, e5⟩, h4⟩ := S.pl e0
        cases e2
        exact ⟨_, h1, al, H1, xs, rfl, e5, S.sub, .inr ⟨vs, e3, e4⟩, fun p us hp r => q _ _ _ _ _ ((NewR.lst S.sub hp r e5).post S (Tr.refl fun _ z => z))⟩
      · cases ev
    exact ⟨pp, fun _ => pt_b pp (by intro _; rfl)⟩
  · cases h
def rOsr (M : Mw) : List V → Hp → VK → Prop := fun xs H Q => ∃ a H1, xs = [V.ref a] ∧ Same H1 H ∧ ((∃ o ks vs, H a = some (DX a o) ∧ DOb M H1 a o ks vs ∧ srtOk ks = true ∧ ∀ p us, H p = none → Rps M H1 us (ks.mergeSort (PySem.W.dataLe false D.py)) → Q (.ref p) (upd H p (.lst us))) ∨
  ∃ vs ds sh d, H a = some (.lst vs) ∧ Rps M H1 vs ds ∧ ds.length ≤ sizeLine ∧ srt ds = some (sh, d) ∧ ∀ u H1' H' f, NewR M H1 H sh d u H1' H' f → Q u H')
theorem call_osr (hc : X.calm = true) {k : Nat} (hr : Room k X.A) : CallR X (.builtin "sorted") (rOsr (mw X cl)) := by
  intro pins s σ H xs us Q I r h
  obtain ⟨a, H1, rfl, sub, h⟩ := h
  rcases h with ⟨o, ks, vs, ha, d, ok, q⟩ | ⟨vs, ds, sh, d, ha, rv, z, e, q⟩
  · cases r with
    | cons r1 rt =>
      cases rt
      cases r1
      exact dx_sorted hr (I.ok.hd hc) I sub ha d ok q
  · exact srt_ok hr sub ha z rv e I r q
theorem go_osrt (g : GoE Φ cl N n) (C : Cn Φ cl X) (A : At Φ.cl X N c) {p : Pl} (h : ckE N (n + 1) c x (.osrt p) = true) : GoEx Φ cl X ent (n + 1) x (.osrt p) := by
  simp only [ckE] at h
  split at h
  · rename_i f pf px pos
    simp only [Bool.and_eq_true] at h
    obtain ⟨⟨k0, k1⟩, k2⟩ := h
    have e := of_decide_eq_true k0
    subst e
    obtain ⟨hg, hd, hn⟩ := gl_of A k1
    have ns := ckPl_noStar k2
    have pp : PE X (.Call (.Name "sorted" pf) [px] [] pos) (tE (mw X cl) ent (lev Φ (n + 1)).e (.osrt p)) := PE.mono (pe_callB (call_osr (cl := cl) C.calm C.room) hg (C.blt _ (by decide)) (by decide +kernel) (pa_cons (go_pl C A k2) pa_nil (star_cons ns)) hn hd (star_cons ns)) fun σ H Q q => by
      obtain ⟨v, H1, F, s, d', v', S, ev, q⟩ := q
      change stepE Φ (lev Φ n).e (.osrt p) v = _ at ev
      simp only [stepE] at ev
      split at ev
      · rename_i s1 ks vs e0
        split at ev
        · rename_i ok
          cases ev
          obtain ⟨a, o, h1, ha, dd⟩ := S.plD e0
          exact ⟨_, h1, a, H1, rfl, S.sub, .inl ⟨o, ks, _, ha, dd, ok, fun p us hp r => q _ _ _ _ _ ((NewR.lst S.sub hp r (by rw [List.length_mergeSort]; exact dd.z)).post S (Tr.refl fun _ z => z))⟩⟩
        · cases ev
      · rename_i xs e0
        cases zs : srt xs with
        | none => rw [zs] at ev; cases ev
        | some r =>
          rw [zs] at ev
          cases ev
          obtain ⟨u, f, h1, ⟨al, vs, ds, rfl, e2, _, e3, e4, e5⟩, h4⟩ := S.pl e0
          cases e2
          exact ⟨_, h1, al, H1, rfl, S.sub, .inr ⟨vs, xs, r.1, r.2, e3, e4, e5, zs, fun u H1' H' f nr => q _ _ _ _ _ (nr.post S (Tr.refl fun _ z => z))⟩⟩
      · cases ev
    exact ⟨pp, fun _ => pt_b pp (by intro _; rfl)⟩
  · cases h
end
end Q

set_option Elab.async false
set_option linter.all false
set_option maxRecDepth 100000
set_option maxHeartbeats 8000000
/-! Q16: methods, new instances, borrowed things. -/
namespace Q
open PySem L2
section
variable {M : Mw} {ent : Nat → Option V} {σ : L2.St} {v v' v1 v2 : Ev} {H1 H H1' H' : Hp} {F F' : Nat → List Addr} {L : LE} {as : List Ar} {ds : List (Option D)} {us : List V} {ps : List (Sh × D)} {new : List (Sh × D)}
theorem sp_call {Fm : Fn} {s : Sh} {d : D} {Q : VK} {Hc Hd : Hp} {Fc : Nat → List Addr} (tc : Tr (OF F) H1 H Hc Hd (OF Fc)) (Sc : SV M ent σ v1 Hc Hd Fc) (ra : RA M σ Hc as ds us) (nd : (ioOf v1 as).Nodup) (e2 : params v1 as ds = some ps) (e3 : Fm ps = some (s, d, new)) (e4 : back v1 (ioOf v1 as) new = some v2)
    (q : ∀ u H1' H' F' f, Post M ent σ F H1 H s d v2 u H1' H' F' f → Q u H') : spOf M Fm us Hd Q E0 := by
  refine ⟨ps, s, d, new, Hc, (ioOf v1 as).map Fc, Sc.sub, io_of Sc ra e2, sep_map Sc nd, fun b ⟨g, hg, hb⟩ => ?_, e3, fun u He Hf fs' f t sub no rs sep ap dj => ?_⟩
  · obtain ⟨i, _, rfl⟩ := List.mem_map.mp hg
    exact Sc.dis i b hb
  · obtain ⟨F2, S2, o2, a2⟩ := Sc.called nd (w3_of Sc ra e2 no) e4 t sub sep ap dj
    refine q u He Hf F2 f ⟨tc.trans (t.weak (fun b ⟨g, hg, hb⟩ => ?_) fun b h => ?_), S2, rs, a2, fun b hb => dj b (.inr hb)⟩
    · obtain ⟨i, _, rfl⟩ := List.mem_map.mp hg
      exact ⟨i, hb⟩
    · rcases h with h | h
      · rcases o2 b h with h | h
        · exact .inl (.inl h)
        · exact .inr h
      · exact .inl (.inr h)
def tR (M : Mw) (ent : Nat → Option V) (L : LE) : Ar → TE
  | .v e => tV M ent L e
  | .io i => tPl M.cl (.s i)
theorem zip_none {m : Str} : ∀ {ns : List Str} {us : List V}, m ∉ ns → (ns.zip us).lookup m = none
  | [], _, _ => rfl
  | _ :: _, [], _ => rfl
  | n :: ns, u :: us, h => by
    have hne : (m == n) = false := by
      rw [beq_eq_false_iff_ne]
      intro z
      exact h (by simp [z])
    rw [List.zip_cons_cons, List.lookup_cons, hne]
    exact zip_none fun z => h (by simp [z])
theorem tMeth_of {Fm : Fn} {s s0 : Sh} {d : D} {d0 : List D} {Q : VK} {c : Nat} {m : Str} {r : Ar} (hm : m ∉ (M.cl c).2) (S : SV M ent σ v H1 H F) (er : recvOk v c r = true) (e1 : evas L (r :: as) v = some (ds, v1)) (nd : (ioOf v1 (r :: as)).Nodup) (e2 : params v1 (r :: as) ds = some ((s0, .ins c d0) :: ps))
    (e3 : Fm ((s0, .ins c d0) :: ps) = some (s, d, new)) (e4 : back v1 (ioOf v1 (r :: as)) new = some v2) (q : ∀ u H1' H' F' f, Post M ent σ F H1 H s d v2 u H1' H' F' f → Q u H') : tMeth (M.cl c).1 m (spOf M Fm) [] E0 (tR M ent L r) (tAr M ent L as) σ H Q := by
  cases r with
  | v e =>
    simp only [evas] at e1
    split at e1
    · rename_i dd va ee
      split at e1
      · rename_i ds' vb z2
        cases e1
        refine tV_of S ee fun u Ha Hb Fa ta Sa ru => ?_
        have ed : dd = .ins c d0 := by
          simp only [params] at e2
          cases z : params v1 as ds' with
          | none => rw [z] at e2; cases e2
          | some qs => rw [z] at e2; cases e2; rfl
        subst ed
        have ru' := ru
        cases ru' with
        | @ins a dx _ us' _ q0 z r0 =>
          refine ⟨a, dx, _, rfl, Sa.sub _ _ q0, zip_none hm, va, Ha, Fa, ds', v1, Sa, z2, fun us Hc Hd Fc tc Sc ra => ?_⟩
          show spOf M Fm (V.ref a :: (us ++ [])) Hd Q E0
          rw [List.append_nil]
          exact sp_call (ta.trans tc) Sc (.v (ru.mono tc.mono) ra) nd e2 e3 e4 q
      · cases e1
    · cases e1
  | io i =>
    simp only [evas] at e1
    split at e1
    · rename_i io s1 d1 e0
      split at e1
      · rename_i ds' vb z2
        cases e1
        simp only [recvOk, e0] at er
        split at er
        · rename_i io' s' c' ds'' eq
          cases eq
          have hc := of_decide_eq_true er
          subst hc
          obtain ⟨u, h1, h2, _⟩ := S.slot i _ e0
          have key : ∃ a dx us', u = .ref a ∧ H a = some (.ins (M.cl c).1 dx ((M.cl c).2.zip us')) := by
            cases s1 with
            | sh =>
              cases h2.1 with
              | ins q0 z r0 => exact ⟨_, _, _, rfl, S.sub _ _ q0⟩
            | lst => obtain ⟨a, vs, ds, rfl, e5, _⟩ := h2; cases e5
            | fro => obtain ⟨a, vs, ds, rfl, e5, _⟩ := h2; cases e5
            | dct => obtain ⟨a, o, ks, vs, rfl, e5, _⟩ := h2; cases e5
            | ins c2 fs =>
              obtain ⟨a, dx, us', ds', ff, rfl, e5, _, ha, _⟩ := h2
              cases e5
              exact ⟨a, dx, us', rfl, ha⟩
          obtain ⟨a, dx, us', rfl, ha⟩ := key
          refine ⟨_, h1, a, dx, _, rfl, ha, zip_none hm, v, H1, F, ds', v1, S, z2, fun us Hc Hd Fc tc Sc ra => ?_⟩
          show spOf M Fm (V.ref a :: (us ++ [])) Hd Q E0
          rw [List.append_nil]
          exact sp_call tc Sc (.io h1 ra) nd e2 e3 e4 q
        · cases er
      · cases e1
    · cases e1
/-! ### new instances -/
theorem evs_app : ∀ {es kes : List E} {v v' : Ev} {ds : List D}, evs L (es ++ kes) v = some (ds, v') → ∃ d1 va d2, evs L es v = some (d1, va) ∧ evs L kes va = some (d2, v') ∧ ds = d1 ++ d2
  | [], kes, v, v', ds, h => ⟨[], v, ds, rfl, h, rfl⟩
  | e :: es, kes, v, v', ds, h => by
    obtain ⟨d, dr, v1, e1, e2, rfl⟩ := evs_cons (show evs L (e :: (es ++ kes)) v = _ from h)
    obtain ⟨d1, va, d2, g1, g2, rfl⟩ := evs_app e2
    exact ⟨d :: d1, va, d2, by simp only [evs, e1, g1], g2, rfl⟩
theorem fill_io {H : Hp} : ∀ {fl : List (Sum Nat D)} {ds : List D} {us : List V} {ps : List (Sh × D)}, Rps M H1 us ds → flOk fl = true → fill ds fl = some ps → Io M H1 H ps (fillV us fl) []
  | [], ds, us, ps, _, _, h => by cases h; exact .nil
  | .inl k :: fl, ds, us, ps, r, ok, h => by
    simp only [fill] at h
    split at h
    · rename_i d q e1 e2
      cases h
      obtain ⟨u, g1, g2⟩ := r.get' e1
      have : (us.getD k .non) = u := by simp [List.getD, g1]
      show Io M H1 H ((.sh, d) :: q) (us.getD k .non :: fillV us fl) []
      rw [this]
      exact .sh g2 (fill_io r (by simpa [flOk] using ok) e2)
    · cases h
  | .inr d :: fl, ds, us, ps, r, ok, h => by
    simp only [fill] at h
    split at h
    · rename_i q e2
      cases h
      have ok' := Bool.and_eq_true_iff.mp (show (leaf d && flOk fl) = true from ok)
      exact .sh (rp_vOf ok'.1) (fill_io r ok'.2 e2)
    · cases h
/-- a new instance, behind its __init__ -/
theorem sp_make {Fm : Fn} {s : Sh} {d : D} {Q : VK} {c : Nat} {fl : List (Sum Nat D)} {dsv : List D} {x dx : Addr} (S : SV M ent σ v' H1 H F') (rs : Rps M H1 us dsv) (ok : flOk fl = true) (e2 : fill dsv fl = some ps) (e3 : Fm ((.ins c [], .ins c []) :: ps) = some (.sh, .non, [(s, d)]))
    (hx : H x = none) (hdx : H dx = none) (ne : dx ≠ x) (q : ∀ H1' H' f, NewR M H1 H s d (.ref x) H1' H' f → Q (.ref x) H') :
    spOf M Fm (.ref x :: fillV us fl) (upd (upd H dx (.own x)) x (.ins (M.cl c).1 dx [])) (fun w H2 => w = .non ∧ Q (.ref x) H2) E0 := by
  have h1x : H1 x = none := S.sub.free hx
  have h1d : H1 dx = none := S.sub.free hdx
  have hx2 : upd H dx (.own x) x = none := by rw [upd_ne (Ne.symm ne)]; exact hx
  have sub : Same H1 (upd (upd H dx (.own x)) x (.ins (M.cl c).1 dx [])) := (S.sub.trans (same_new hdx)).trans (same_new hx2)
  have self : RS M H1 (upd (upd H dx (.own x)) x (.ins (M.cl c).1 dx [])) (.ins c []) (.ref x) (.ins c []) [x, dx] := by
    refine ⟨x, dx, [], [], [], rfl, rfl, rfl, ?_, ?_, Nat.zero_le _, .nil, ?_⟩
    · rw [upd_same]; simp
    · rw [upd_ne ne, upd_same]
    · simp [Ne.symm ne]
  have mf : ∀ b, MF [[x, dx]] b → b = x ∨ b = dx := fun b ⟨f, hf, hb⟩ => by
    simp at hf
    subst hf
    simpa using hb
  refine ⟨_, .sh, .non, [(s, d)], H1, [[x, dx]], sub, .io (by intro z; cases z) self (fill_io rs ok e2), ?_, fun b hb => ?_, e3, fun u Hc Hd fs' f t sub' no rs' sep ap dj => ?_⟩
  · intro i j f g b hi hj _ _
    have h1 : i < 1 := (List.getElem?_eq_some_iff.mp hi).1
    have h2 : j < 1 := (List.getElem?_eq_some_iff.mp hj).1
    omega
  · rcases mf b hb with rfl | rfl <;> assumption
  · obtain ⟨r0, ef⟩ := rs'
    cases r0
    subst ef
    cases no with
    | @io _ _ _ _ _ f' _ _ _ fs'' hs r no =>
      have hfs : fs'' = [] ∧ True := by
        have := fill_io (H := upd (upd H dx (.own x)) x (.ins (M.cl c).1 dx [])) rs ok e2
        have z : ∀ {ps : List (Sh × D)} {vs : List V} {fs : List (List Addr)}, Io M H1 (upd (upd H dx (.own x)) x (.ins (M.cl c).1 dx [])) ps vs [] → No M Hc Hd ps vs [] fs → fs = [] := by
          intro ps vs fs h1 h2
          generalize hh : ([] : List (List Addr)) = e at h1
          induction h1 generalizing fs with
          | nil => cases h2; rfl
          | sh _ _ ih =>
            cases h2 with
            | sh h2 => exact ih h2 hh
          | io _ _ _ _ => cases hh
        exact ⟨z this no, trivial⟩
      obtain ⟨rfl, _⟩ := hfs
      refine ⟨rfl, q Hc Hd f' ⟨?_, sub', r, fun b hb => dj b (.inl ⟨f', by simp, hb⟩)⟩⟩
      have t0 : Tr (fun _ => False) H1 H H1 (upd (upd H dx (.own x)) x (.ins (M.cl c).1 dx [])) (fun b => MF [[x, dx]] b) := by
        refine ((Tr.laidO (O := fun _ => False) hdx).trans (Tr.laidO hx2)).weak (fun _ z => z) fun b hb => .inl ?_
        rcases mf b hb with rfl | rfl
        · exact .inr rfl
        · exact .inl (.inr rfl)
      refine (t0.trans t).weak (fun _ z => z) fun b hb => .inl (.inl ⟨f', by simp, hb⟩)
/-! ### borrowed things -/
open Classical in
noncomputable def joinA (H1 H : Hp) (F : Nat → List Addr) : Hp := fun b => if OF F b then H b else H1 b
theorem joinA_up (S : SV M ent σ v H1 H F) : Same H1 (joinA H1 H F) := fun b o e => by
  unfold joinA
  rw [if_neg (fun ⟨i, hi⟩ => by rw [S.dis i b hi] at e; cases e)]
  exact e
theorem joinA_sub (S : SV M ent σ v H1 H F) : Same (joinA H1 H F) H := fun b o e => by
  unfold joinA at e
  split at e
  · exact e
  · exact S.sub b o e
theorem SV.fzA (S : SV M ent σ v H1 H F) : SV M ent σ (fzA v) (joinA H1 H F) H (fun _ => []) := by
  refine ⟨joinA_sub S, by rw [Q.fzA, List.length_map]; exact S.len, fun i sl e => ?_, fun i _ => rfl, fun i j b hb => by simp at hb, fun i b hb => by simp at hb⟩
  rw [Q.fzA, List.getElem?_map] at e
  cases z : v[i]? with
  | none => rw [z] at e; cases e
  | some sl0 =>
    rw [z] at e
    cases e
    have q := S.slot i sl0 z
    cases sl0 with
    | no => rfl
    | «at» io s d =>
      obtain ⟨u, h1, h2, h3⟩ := q
      have fz : ∀ hs : s ≠ .fro, Rp M (joinA H1 H F) u d := fun hs => h2.frozeG (joinA_up S) (fun b o hb e => by unfold joinA; rw [if_pos ⟨i, hb⟩]; exact e) hs
      cases s with
      | fro =>
        obtain ⟨a, vs, ds, rfl, rfl, _, ha, r, zz⟩ := h2
        exact ⟨_, h1, ⟨a, vs, ds, rfl, rfl, rfl, (joinA_up S).seq ha, r.mono (joinA_up S), zz⟩, h3⟩
      | _ => exact ⟨u, h1, ⟨fz (by intro z; cases z), rfl⟩, fun z => by cases z⟩
/-- what is borrowed is given back -/
theorem Post.back {s : Sh} {d : D} {u : V} {f : List Addr} (S : SV M ent σ v H1 H F) (p : Post M ent σ (fun _ => []) (joinA H1 H F) H s d v' u H1' H' F' f) (hd : (s = .sh ∧ leaf d = true) ∨ ∃ ds, s = .lst ∧ d = .lst ds ∧ ds.all leaf = true) : Post M ent σ F H1 H s d v u H1 H' F f := by
  have no : ∀ b, ¬ OF (fun _ => ([] : List Addr)) b := fun b ⟨i, hi⟩ => by simp at hi
  have keep : Same H H' := fun b o e => p.tr.frame b o e (no b)
  have fn : ∀ b ∈ f, H b = none := fun b hb => by
    rcases p.tr.own b (.inr hb) with z | z
    · exact z
    · exact absurd z (no b)
  refine ⟨⟨fun _ _ e => e, fun b o e _ => keep b o e, fun b e => .inl e, fun b e => ?_⟩, S.keep (fun _ _ e => e) (S.sub.trans keep) (fun b o _ e => keep b o e) (fun b ⟨i, hi⟩ => S.dis i b hi), ?_, fun b hb hF => S.there hF (fn b hb), fun b hb => S.sub.free (fn b hb)⟩
  · rcases e with e | e
    · exact .inr e
    · exact .inl (fn b e)
  · have lf : ∀ {w : V} {d : D}, Rp M H1' w d → leaf d = true → Rp M H1 w d := by
      intro w d r h
      cases r <;> first | exact .non | exact .bl _ | exact .int _ | exact .str _ | cases h
    rcases hd with ⟨rfl, hl⟩ | ⟨ds, rfl, rfl, hl⟩
    · exact ⟨lf p.rs.1 hl, p.rs.2⟩
    · obtain ⟨a, vs, ds', rfl, e, rfl, ha, r, z⟩ := p.rs
      cases e
      refine ⟨a, vs, ds, rfl, rfl, rfl, ha, ?_, z⟩
      have all : ∀ {vs : List V} {ds : List D}, Rps M H1' vs ds → ds.all leaf = true → Rps M H1 vs ds := by
        intro vs ds
        induction ds generalizing vs with
        | nil => intro r _; cases r; exact .nil
        | cons d ds ih =>
          intro r h
          rw [List.all_cons, Bool.and_eq_true_iff] at h
          cases r with
          | cons r1 rt => exact .cons (lf r1 h.1) (ih rt h.2)
      exact all r hl
end
end Q

set_option Elab.async false
set_option linter.all false
set_option maxRecDepth 100000
set_option maxHeartbeats 8000000
/-! Q16p: owned things are changed; xs.pop(i), xs.pop(). -/
namespace Q
open PySem L2
section
variable {M : Mw} {ent : Nat → Option V} {σ : L2.St} {v v' : Ev} {H1 H H1' H' : Hp} {F F' : Nat → List Addr}
/-- a thing that is owned at a place is changed -/
theorem RFs.set {ss : List Fs} {us : List V} {ds : List D} {fs : List (List Addr)} {j : Nat} {s : Fs} {u : V} {d' : D} {f : List Addr} {a : Addr} {o : HO} (h : RFs M H1 H ss us ds fs) (hs : ss[j]? = some s) (hu : us[j]? = some u) (hf : fs[j]? = some f) (nd : fs.flatten.Nodup) (ha : a ∈ f) (new : RF M H1 (upd H a o) s u d' f) : RFs M H1 (upd H a o) ss us (ds.set j d') fs := by
  induction h generalizing j with
  | nil => simp at hs
  | @cons s0 v0 d0 f0 ss us ds fs r t ih =>
    rw [List.flatten_cons, List.nodup_append] at nd
    cases j with
    | zero =>
      simp at hs hu hf
      subst hs hu hf
      refine .cons new (t.step (fun _ _ e => e) fun b ob hb e => ?_)
      have ne : b ≠ a := fun z => nd.2.2 a ha a (by rw [← z]; exact hb) rfl
      rw [upd_ne ne]; exact e
    | succ j =>
      have hf' : fs[j]? = some f := by simpa using hf
      refine .cons (r.step (fun _ _ e => e) fun b ob hb e => ?_) (ih (by simpa using hs) (by simpa using hu) hf' nd.2.1)
      have ne : b ≠ a := fun z => nd.2.2 b hb b (by rw [List.mem_flatten]; exact ⟨f, List.mem_of_getElem? hf', by rw [z]; exact ha⟩) rfl
      rw [upd_ne ne]; exact e
theorem SV.mutP (S : SV M ent σ v H1 H F) {p : Pl} {s : Sh} {d : D} (e : getP v p = some (s, d)) (hs : s = .lst ∨ s = .dct) :
    ∃ a, PlAt M.cl σ H (.ref a) p ∧ RS M H1 H s (.ref a) d [a] ∧ ∀ o d', RS M H1 (upd H a o) s (.ref a) d' [a] → SV M ent σ (putP v d' p) H1 (upd H a o) F ∧ Tr (OF F) H1 H H1 (upd H a o) (OF F) := by
  obtain ⟨u, f, h1, h2, h4⟩ := S.pl e
  have key : ∃ a, u = .ref a ∧ f = [a] := by
    rcases hs with rfl | rfl
    · obtain ⟨a, vs, ds, rfl, _, rfl, _⟩ := h2; exact ⟨a, rfl, rfl⟩
    · obtain ⟨a, ob, ks, vs, rfl, _, rfl, _⟩ := h2; exact ⟨a, rfl, rfl⟩
  obtain ⟨a, rfl, rfl⟩ := key
  have oa : a ∈ F p.i := h4 a (by simp)
  have h1a : H1 a = none := S.dis _ a oa
  have mk : ∀ (o : HO) (v2 : Ev) (i : Nat), v2.length = v.length → a ∈ F i → (∀ j, j ≠ i → v2[j]? = v[j]?) → (∀ sl, v2[i]? = some sl → SlotOk M ent σ H1 (upd H a o) i (F i) sl) → SV M ent σ v2 H1 (upd H a o) F := by
    intro o v2 i hl ai hne hself
    refine ⟨fun b ob hb => ?_, by rw [hl]; exact S.len, fun j sl ej => ?_, fun j hj => S.out j (by rw [hl] at hj; exact hj), S.nd, S.dis⟩
    · rw [upd_ne (ne_of_none hb h1a)]; exact S.sub b ob hb
    · by_cases hj : j = i
      · subst hj; exact hself sl ej
      · rw [hne j hj] at ej
        have q := S.slot j sl ej
        cases sl with
        | no => exact q
        | «at» io sh d' =>
          obtain ⟨w, a1, a2, a3⟩ := q
          refine ⟨w, a1, a2.step (fun _ _ h => h) fun b ob hb h => ?_, a3⟩
          have ne : b ≠ a := fun q => hj (S.nd j i b hb (by rw [q]; exact ai))
          rw [upd_ne ne]; exact h
  refine ⟨a, h1, h2, fun o d' new => ⟨?_, Tr.write ⟨_, oa⟩⟩⟩
  cases p with
  | s i =>
    simp only [getP] at e
    split at e
    · rename_i io s' d0 e0
      cases e
      have hi : i < v.length := (List.getElem?_eq_some_iff.mp e0).1
      have ev : putP v d' (.s i) = v.set i (.at io s d') := by simp only [putP, e0]
      rw [ev]
      refine mk o _ i (by simp) oa (fun j hj => List.getElem?_set_ne (Ne.symm hj)) fun sl esl => ?_
      rw [List.getElem?_set_self hi] at esl
      cases esl
      obtain ⟨w, g1, g2, g3⟩ := S.slot i _ e0
      have : w = .ref a := by
        have q1 : σ[i]? = some (some (V.ref a)) := h1
        rw [g1] at q1; cases q1; rfl
      subst this
      refine ⟨_, g1, ?_, g3⟩
      have ef : F i = [a] := by
        rcases hs with rfl | rfl
        · obtain ⟨a', vs, ds, e1, _, e2, _⟩ := g2; cases e1; exact e2
        · obtain ⟨a', ob, ks, vs, e1, _, e2, _⟩ := g2; cases e1; exact e2
      rw [ef]; exact new
    · cases e
  | f i c j =>
    simp only [getP] at e
    split at e
    · rename_i io c' ds e0
      split at e
      · split at e
        · cases e; rcases hs with z | z <;> cases z
        · cases e
      · cases e
    · rename_i io c' fs c'' ds e0
      split at e
      · rename_i hc
        obtain ⟨rfl, rfl⟩ := hc
        split at e
        · rename_i f0 d0 e1 e2
          cases e
          have hi : i < v.length := (List.getElem?_eq_some_iff.mp e0).1
          have ev : putP v d' (.f i c j) = v.set i (.at io (.ins c fs) (.ins c (ds.set j d'))) := by simp only [putP, e0]
          rw [ev]
          refine mk o _ i (by simp) oa (fun j hj => List.getElem?_set_ne (Ne.symm hj)) fun sl esl => ?_
          rw [List.getElem?_set_self hi] at esl
          cases esl
          obtain ⟨w, g1, ⟨b, dx, us, ds', ff, rfl, ed, ef, hb, hd, z, r, nd⟩, g3⟩ := S.slot i _ e0
          cases ed
          obtain ⟨u2, d2, f2, q1, q2, q3, q4⟩ := r.get e1
          have hpl := h1.inj ⟨b, dx, us, g1, hb, q1, z⟩
          have af2 : f2 = [a] := by
            cases f0 with
            | sh => rcases hs with z | z <;> cases z
            | lst => obtain ⟨a', vs, ds, e1, _, e2, _⟩ := q4; rw [e1] at hpl; cases hpl; exact e2
            | dct => obtain ⟨a', ob, ks, vs, e1, _, e2, _⟩ := q4; rw [e1] at hpl; cases hpl; exact e2
          subst hpl
          subst af2
          rw [ef] at nd
          have nd1 := List.nodup_cons.mp nd
          have nd2 := List.nodup_cons.mp nd1.2
          have afl : a ∈ ff.flatten := by rw [List.mem_flatten]; exact ⟨[a], List.mem_of_getElem? q3, by simp⟩
          have ab : b ≠ a := fun z => nd1.1 (by rw [z]; simp [afl])
          have adx : dx ≠ a := fun z => nd2.1 (by rw [z]; exact afl)
          refine ⟨_, g1, ⟨b, dx, us, ds.set j d', ff, rfl, rfl, ef, by rw [upd_ne ab]; exact hb, by rw [upd_ne adx]; exact hd, z, ?_, by rw [ef]; exact nd⟩, g3⟩
          exact r.set e1 q1 q3 nd2.2 (by simp) (RF.rs.mpr new)
        · cases e
      · cases e
    · cases e
end
theorem few_ok {pos : Pos} {env : Env} {x : Expr} (h : NoStar x) : ((backTo pos (starEach [x] env)).all (fun x => !x.1) && (backToKw pos (keywordEach [] env)).all (fun x => x.1.isSome)
      && decide ([x].length + ([] : List Keyword).length + (if ([] : List Keyword).isEmpty then 0 else 1) < 30)) = true := by
  rw [star_cons h]; rfl
section
variable {Φ : Tab} {cl : Nat → Addr × List Str} {N : List Str} {n : Nat} {c : Sx} {X : Cx} {ent : Nat → Option V} {x : Expr}
theorem Rps.erase {M : Mw} {H : Hp} : ∀ {vs : List V} {ds : List D}, Rps M H vs ds → ∀ k : Nat, Rps M H (vs.eraseIdx k) (ds.eraseIdx k)
  | [], [], _, _ => .nil
  | _ :: _, _ :: _, .cons r t, 0 => t
  | _ :: _, _ :: _, .cons r t, k + 1 => .cons r (Rps.erase t k)
theorem pop_fin {σ : L2.St} {v1 : Ev} {Ha Hb : Hp} {Fa : Nat → List Addr} {p : Pl} {xs : List D} {d : D} {k : Nat} (Sa : SV (mw X cl) ent σ v1 Ha Hb Fa) (e : getP v1 p = some (.lst, .lst xs)) (hk : xs[k]? = some d) :
    ∃ a vs u, PlAt cl σ Hb (.ref a) p ∧ Hb a = some (.lst vs) ∧ vs.length = xs.length ∧ vs[k]? = some u ∧ Rp (mw X cl) Ha u d ∧ SV (mw X cl) ent σ (putP v1 (.lst (xs.eraseIdx k)) p) Ha (upd Hb a (.lst (vs.eraseIdx k))) Fa ∧ Tr (OF Fa) Ha Hb Ha (upd Hb a (.lst (vs.eraseIdx k))) (OF Fa) := by
  obtain ⟨a, h1, ⟨a', vs, ds, e1, e2, _, e3, e4, e5⟩, fin⟩ := Sa.mutP e (.inl rfl)
  cases e1
  cases e2
  obtain ⟨u, hu, ru⟩ := e4.get' hk
  obtain ⟨S', t'⟩ := fin (.lst (vs.eraseIdx k)) (.lst (xs.eraseIdx k)) ⟨a, vs.eraseIdx k, xs.eraseIdx k, rfl, rfl, rfl, upd_same, e4.erase k, Nat.le_trans (List.length_eraseIdx_le ..) e5⟩
  exact ⟨a, vs, u, h1, e3, e4.length, hu, ru, S', t'⟩
theorem go_pop (g : GoE Φ cl N n) (gN : GoN Φ cl N n) (C : Cn Φ cl X) (A : At Φ.cl X N c) {p : Pl} {e : E} (h : ckE N (n + 1) c x (.pop p e) = true) : GoEx Φ cl X ent (n + 1) x (.pop p e) := by
  simp only [ckE] at h
  split at h
  · rename_i y m ap z cp
    simp only [Bool.and_eq_true] at h
    obtain ⟨⟨⟨⟨k0, k1⟩, k2⟩, k3⟩, k4⟩ := h
    have em := of_decide_eq_true k0
    subst em
    have ns := ckE_noStar k2
    have pl := go_pl C A k1
    have parts : ∀ {v : Ev} {s : Sh} {d' : D} {v' : Ev}, stepE Φ (lev Φ n).e (.pop p e) v = some (s, d', v') → ∃ d0 j v1 xs k, getP v p = some (.lst, d0) ∧ evv (lev Φ n).e e v = some (.int j, v1) ∧ getP v1 p = some (.lst, .lst xs) ∧ (-(2 ^ 63) ≤ j ∧ j < 2 ^ 63) ∧ seqIndex? j xs.length = some k ∧ xs[k]? = some d' ∧ s = .sh ∧ v' = putP v1 (.lst (xs.eraseIdx k)) p := by
      intro v s d' v' ev
      simp only [stepE] at ev
      split at ev
      · rename_i d0 e0
        split at ev
        · rename_i j v1 ee
          split at ev
          · rename_i xs e1
            split at ev
            · rename_i hb
              split at ev
              · rename_i k hk
                split at ev
                · rename_i d hd
                  cases ev
                  exact ⟨_, _, _, _, _, e0, ee, e1, hb, hk, hd, rfl, rfl⟩
                · cases ev
              · cases ev
            · cases ev
          · cases ev
        · cases ev
      · cases ev
    have pp : PE X (.Call (.Attribute y "pop" ap) [z] [] cp) (tE (mw X cl) ent (lev Φ (n + 1)).e (.pop p e)) := by
      cases hp : p.isF with
      | false =>
        refine PE.mono (pe_bm PySem.F.plainAttrs_list PySem.F.slot_list_pop PySem.F.type_list_pop mt_popAt pl (pa_cons (g.v (ent := ent) k2 C A) pa_nil (star_cons ns)) (ab_nsp (ckPl_nsp k1)) (few_ok ns) k3 (star_cons ns) rfl) fun σ H Q q => ?_
        obtain ⟨v, H1, F, s, d', v', S, ev, q⟩ := q
        obtain ⟨d0, j, v1, xs, k, e0, ee, e1, hb, hk, hd, rfl, rfl⟩ := parts ev
        obtain ⟨a0, h1, ⟨a', vs, ds, ea, e2, _, e3, e4, e5⟩, _⟩ := S.mutP e0 (.inl rfl)
        cases ea
        refine ⟨_, h1, .inl ⟨rfl, _, SqL.of e3⟩, tV_of S ee fun u Ha Hb Fa ta Sa r => ?_⟩
        cases r
        obtain ⟨a, vs', u, g1, g2, g3, g4, g5, S', t'⟩ := pop_fin Sa e1 hd
        have := g1.inj (h1.slot hp)
        cases this
        exact ⟨a0, vs', j, k, u, rfl, rfl, g2, hb.1, hb.2, by rw [g3]; exact hk, g4, q _ _ _ _ _ (thnR (v := v) (ta.trans t') S' g5)⟩
      | true =>
        rw [hp] at k4
        refine PE.mono (pe_bm PySem.F.plainAttrs_list PySem.F.slot_list_pop PySem.F.type_list_pop mt_popAt pl (pa_cons (gN c z e k2 k4 X C A ent) pa_nil (star_cons ns)) (ab_nsp (ckPl_nsp k1)) (few_ok ns) k3 (star_cons ns) rfl) fun σ H Q q => ?_
        obtain ⟨v, H1, F, s, d', v', S, ev, q⟩ := q
        obtain ⟨d0, j, v1, xs, k, e0, ee, e1, hb, hk, hd, rfl, rfl⟩ := parts ev
        obtain ⟨a0, h1, ⟨a', vs, ds, ea, e2, _, e3, e4, e5⟩, _⟩ := S.mutP e0 (.inl rfl)
        cases ea
        refine ⟨_, h1, .inl ⟨rfl, _, SqL.of e3⟩, tN_of S ee fun u Ha Hb sm ta ev' Sa r => ?_⟩
        subst ev'
        cases r
        obtain ⟨a, vs', u, g1, g2, g3, g4, g5, S', t'⟩ := pop_fin Sa e1 hd
        have := g1.inj (h1.keep sm)
        cases this
        exact ⟨a0, vs', j, k, u, rfl, rfl, g2, hb.1, hb.2, by rw [g3]; exact hk, g4, q _ _ _ _ _ (thnR (v := v1) (ta.trans t') S' g5)⟩
    exact ⟨pp, fun _ => pt_b pp (by intro _; rfl)⟩
  · cases h
theorem go_popl (g : GoE Φ cl N n) (C : Cn Φ cl X) (A : At Φ.cl X N c) {p : Pl} (h : ckE N (n + 1) c x (.popl p) = true) : GoEx Φ cl X ent (n + 1) x (.popl p) := by
  simp only [ckE] at h
  split at h
  · rename_i y m ap cp
    simp only [Bool.and_eq_true] at h
    obtain ⟨⟨k0, k1⟩, k3⟩ := h
    have em := of_decide_eq_true k0
    subst em
    have pl := go_pl C A k1
    have pp : PE X (.Call (.Attribute y "pop" ap) [] [] cp) (tE (mw X cl) ent (lev Φ (n + 1)).e (.popl p)) := by
      refine PE.mono (pe_bm0 PySem.F.plainAttrs_list PySem.F.slot_list_pop PySem.F.type_list_pop mt_pop pl (ab_nsp (ckPl_nsp k1)) k3) fun σ H Q q => ?_
      obtain ⟨v, H1, F, s, d', v', S, ev, q⟩ := q
      change stepE Φ (lev Φ n).e (.popl p) v = _ at ev
      simp only [stepE] at ev
      split at ev
      · rename_i xs e1
        split at ev
        · rename_i d hd
          cases ev
          obtain ⟨a, vs', u, g1, g2, g3, g4, g5, S', t'⟩ := pop_fin S e1 hd
          have ed : vs'.eraseIdx (xs.length - 1) = vs'.dropLast := by rw [← g3, List.eraseIdx_length_sub_one]
          have ed2 : xs.eraseIdx (xs.length - 1) = xs.dropLast := by rw [List.eraseIdx_length_sub_one]
          rw [ed, ed2] at S'
          rw [ed] at t'
          refine ⟨_, g1, .inl ⟨rfl, _, SqL.of g2⟩, a, vs', u, rfl, rfl, g2, by rw [g3]; exact g4, q _ _ _ _ _ (thnR (v := v) t' S' g5)⟩
        · cases ev
      · cases ev
    exact ⟨pp, fun _ => pt_b pp (by intro _; rfl)⟩
  · cases h
end
end Q

set_option Elab.async false
set_option linter.all false
set_option maxRecDepth 100000
set_option maxHeartbeats 8000000
/-! Q16s: sorted(set(xs)). -/
namespace Q
open PySem L2
theorem Rps.strsOf {M : Mw} {H : Hp} : ∀ {vs : List V} {ds : List D} {ss : List Str}, Rps M H vs ds → Q.strsOf ds = some ss → vs = ss.map V.str
  | _, _, ss, .nil, e => by cases e; rfl
  | _, _, ss, .cons (d := d) (ds := ds) h t, e => by
    cases h with
    | str x =>
      simp only [Q.strsOf] at e
      cases z : Q.strsOf ds with
      | none => rw [z] at e; cases e
      | some r => rw [z] at e; cases e; rw [Rps.strsOf t z]; rfl
    | _ => cases e
theorem rps_strs {M : Mw} {H : Hp} : ∀ ns : List Str, Rps M H (ns.map V.str) (ns.map D.str)
  | [] => .nil
  | n :: r => .cons (.str n) (rps_strs r)
def tSset (M : Mw) (ta : TE) : TE := fun σ H Q => ta σ H fun x H2 => ∃ l H1 us xs ds, x = .ref l ∧ Same H1 H2 ∧ (SqL M.K H2 l us ∨ SqT M.K H2 l us) ∧ Rps M H1 us xs ∧ ssrt xs = some ds ∧ ∀ p ws, H2 p = none → Rps M H1 ws ds → ds.length ≤ sizeLine → Q (.ref p) (upd H2 p (.lst ws))
section
variable {X : Cx} {cl : Nat → Addr × List Str}
theorem keys_vals {β : Type} (O : SO X.prog X.w β) (hv : ∀ b u, RelV (O.val b) u → keyIs (O.key b) u = true) : ∀ {bs : List β} {its : List Value}, Vals (bs.map O.val) its → ∀ (i : Nat) (u : Value), its[i]? = some u → ∃ k, (bs.map O.key)[i]? = some k ∧ keyIs k u = true
  | [], _, .nil, i, u, h => by simp at h
  | b :: bs, _, .cons r t, 0, u, h => by simp at h; subst h; exact ⟨_, rfl, hv b _ r⟩
  | b :: bs, _, .cons r t, i + 1, u, h => by
    obtain ⟨k, h1, h2⟩ := keys_vals O hv t i u (by simpa using h)
    exact ⟨k, by simpa using h1, h2⟩
theorem sset_run {β : Type} [DecidableEq β] (O : SO X.prog X.w β) (hv : ∀ b u, RelV (O.val b) u → keyIs (O.key b) u = true) (hc : X.calm = true) {k : Nat} (hr : Room k X.A) {H : Hp} {pins : List (Addr × Obj)} {s : Shared} {σ : L2.St} {l : Addr} {bs : List β} {Q : VK} {R : Value → Shared → Prop} (I : Inv X pins σ H s) (hl : SqL X.K H l (bs.map O.val) ∨ SqT X.K H l (bs.map O.val)) (hb : bs.length < 1000)
    (q : ∀ a, H a = none → ((ddup bs).mergeSort O.le).length ≤ sizeLine → Q (.ref a) (upd H a (.lst (((ddup bs).mergeSort O.le).map O.val))))
    (fin : ∀ p s', wpAny (model X.prog X.w) X.A (call (.builtin "sorted") [.ref p]) (EP X pins σ Q) X.xe s' → R (.ref p) s') : wpAny (model X.prog X.w) X.A (call (.type "set") [.ref l]) R X.xe s := by
  have hs : (bs.map O.key).length + 1 < scanBound := by rw [List.length_map]; unfold scanBound; omega
  have mz : bs.length ≤ sizeLine := by rw [sizeLine_eq]; omega
  have go : ∀ (h' : Heap) (tk : Nat), KS X.prog X.w h' s.heap.objs.size (fun k => k ∈ bs.map O.key) (bs.map O.key).length → (∀ b o, s.heap.get? b = some o → h'.get? b = some o) → R (.ref s.heap.objs.size) { s with heap := h', toks := tk } := fun h' tk K3 hk => by
    refine fin _ _ (ks_sorted O hr (I.ok.hd hc) (I.kept hk) K3 (by rw [List.length_map]; exact mz) q)
  rcases hl with hl | hl
  · obtain ⟨its, rv, pl, hz⟩ := I.list hl
    exact ks_call_list (I.ok.hd hc) pl.isList (by rw [List.size_toArray, List.length_map, ← rv.length, List.length_map]) (fun i v e => keys_vals O hv rv i v (by simpa using e)) hs go
  · obtain ⟨its, rv, pl, hz⟩ := I.tuple hl
    exact ks_call_tuple (I.ok.hd hc) pl (by rw [List.size_toArray, List.length_map, ← rv.length, List.length_map]) (fun i v e => keys_vals O hv rv i v (by simpa using e)) hs go
theorem pe_sset {y : Expr} {ta : TE} {p p2 q pos : Pos} (hc : X.calm = true) {k : Nat} (hr : Room k X.A) (hg : Gl X "sorted") (hm : X.mg "sorted" = none) (hg2 : Gl X "set") (hm2 : X.mg "set" = none) (ha : PE X y ta) (na : starEach [y] X.env = (false, eval y X.env) :: starEach [] X.env) :
    PE X (.Call (.Name "sorted" p) [.Call (.Name "set" p2) [y] [] q] [] pos) (tSset (mw X cl) ta) := by
  refine ⟨fun pins s σ H Q I h => ?_⟩
  refine PyProof.Rows.Call_ (ld_blt I hg hm PyProof.Rows.boot_sorted (PyProof.Rows.callWith_builtin1 (PyProof.Rows.args_cons ?_ rfl) rfl rfl))
  refine PyProof.Rows.Call_ (ld_blt I hg2 hm2 PyProof.Rows.boot_set (PyProof.Rows.callWith_type1 (PyProof.Rows.args_cons (thn (ha.run pins s σ H _ I h) fun v s1 ⟨x, H2, I1, r1, q1⟩ => PyProof.Rows.args_nil ?_) na) na rfl))
  obtain ⟨l, H1, us, xs, ds, rfl, sub, hl, rp, e, q1⟩ := q1
  cases r1
  unfold ssrt at e
  split at e
  · rename_i ns en
    split at e
    · rename_i hb
      cases e
      have := rp.intsOf en
      subst this
      refine sset_run (soI X.prog X.w) (fun b u r => ?_) hc hr I1 hl hb (fun a hn hz => q1 a _ hn (rps_ints _) (by rw [List.length_map]; exact hz)) fun p s' hw => PyProof.Rows.args_nil hw
      obtain ⟨t, rfl⟩ := r
      exact keyIs_int b t
    · cases e
  · split at e
    · rename_i ss en
      split at e
      · rename_i hb
        cases e
        have := rp.strsOf en
        subst this
        refine sset_run (soS X.prog X.w) (fun b u r => ?_) hc hr I1 hl hb (fun a hn hz => q1 a _ hn (rps_strs _) (by rw [List.length_map]; exact hz)) fun p s' hw => PyProof.Rows.args_nil hw
        obtain ⟨t, rfl⟩ := r
        exact keyIs_str b t
      · cases e
    · cases e
end
section
variable {Φ : Tab} {cl : Nat → Addr × List Str} {N : List Str} {n : Nat} {c : Sx} {X : Cx} {ent : Nat → Option V} {x : Expr}
theorem go_sset (g : GoE Φ cl N n) (C : Cn Φ cl X) (A : At Φ.cl X N c) {e : E} (h : ckE N (n + 1) c x (.sset e) = true) : GoEx Φ cl X ent (n + 1) x (.sset e) := by
  simp only [ckE] at h
  split at h
  · rename_i f pf g' pg y pi po
    simp only [Bool.and_eq_true] at h
    obtain ⟨⟨⟨⟨k0, k1⟩, k2⟩, k3⟩, k4⟩ := h
    have e1 := of_decide_eq_true k0
    have e2 := of_decide_eq_true k1
    subst e1 e2
    obtain ⟨hg, hd, hn⟩ := gl_of A k2
    obtain ⟨hg2, hd2, hn2⟩ := gl_of A k3
    have pp : PE X (.Call (.Name "sorted" pf) [.Call (.Name "set" pg) [y] [] pi] [] po) (tE (mw X cl) ent (lev Φ (n + 1)).e (.sset e)) := PE.mono (pe_sset (cl := cl) C.calm C.room hg (C.blt _ (by decide)) hg2 (C.blt _ (by decide)) (g.v (ent := ent) k4 C A) (star_cons (ckE_noStar k4))) fun σ H Q q => by
      obtain ⟨v, H1, F, s, d', v', S, ev, q⟩ := q
      change stepE Φ (lev Φ n).e (.sset e) v = _ at ev
      simp only [stepE] at ev
      split at ev
      · rename_i xs v1 ee
        cases z : ssrt xs with
        | none => rw [z] at ev; cases ev
        | some ds =>
          rw [z] at ev
          cases ev
          refine tV_of S ee fun u Ha Hb Fa ta Sa r => ?_
          cases r with
          | lst hl zz r' => exact ⟨_, Ha, _, xs, ds, rfl, Sa.sub, .inl (SqL.of (Sa.sub _ _ hl)), r', z, fun p ws hp rw' zl => q _ _ _ _ _ ((NewR.lst Sa.sub hp rw' zl).post Sa ta)⟩
      · rename_i xs v1 ee
        cases z : ssrt xs with
        | none => rw [z] at ev; cases ev
        | some ds =>
          rw [z] at ev
          cases ev
          refine tV_of S ee fun u Ha Hb Fa ta Sa r => ?_
          cases r with
          | tup hl zz r' => exact ⟨_, Ha, _, xs, ds, rfl, Sa.sub, .inr (same_seqT Sa.sub hl), r', z, fun p ws hp rw' zl => q _ _ _ _ _ ((NewR.lst Sa.sub hp rw' zl).post Sa ta)⟩
      · cases ev
    exact ⟨pp, fun _ => pt_b pp (by intro _; rfl)⟩
  · cases h
end
end Q

set_option Elab.async false
set_option linter.all false
set_option maxRecDepth 100000
set_option maxHeartbeats 8000000
/-! Q17: every expression. -/
namespace Q
open PySem L2
theorem Rps.rev {M : Mw} {H : Hp} : ∀ {ds : List D} {vs : List V}, Rps M H vs ds → Rps M H vs.reverse ds.reverse
  | _, _, .nil => .nil
  | _, _, .cons h t => by
    rw [List.reverse_cons, List.reverse_cons]
    exact (Rps.rev t).append (.cons h .nil)
section
variable {Φ : Tab} {cl : Nat → Addr × List Str} {N : List Str} {n : Nat} {c : Sx} {X : Cx} {ent : Nat → Option V} {x : Expr}
theorem go_recv (g : GoE Φ cl N n) (C : Cn Φ cl X) (A : At Φ.cl X N c) {y : Expr} : ∀ {r : Ar}, ckAr (ckE N n c) N c y r = true → PE X y (tR (mw X cl) ent (lev Φ n).e r)
  | .v e, h => g.v (ent := ent) h C A
  | .io i, h => by
    obtain ⟨z, pos, rfl, k1, k2, k3⟩ := ckA_io h
    have kn := okName_of k3
    exact PE.mono (pe_var (i := i) (by rw [A.n]; exact k1) (vis_of A k2) kn.1 kn.2.1) fun σ H Q q => q
theorem go_meth (g : GoE Φ cl N n) (C : Cn Φ cl X) (A : At Φ.cl X N c) {k : Nat} {m : Str} {r : Ar} {as : List Ar} (h : ckE N (n + 1) c x (.meth k m r as) = true) : GoEx Φ cl X ent (n + 1) x (.meth k m r as) := by
  simp only [ckE] at h
  split at h
  · rename_i y m' ap xs pos
    simp only [Bool.and_eq_true] at h
    obtain ⟨⟨⟨⟨⟨k0, k1⟩, k2⟩, k3⟩, k4⟩, k5⟩ := h
    have em := of_decide_eq_true k0
    subst em
    have ns := all2A_noStar k5
    have hf := of_decide_eq_true k3
    have pp : PE X (.Call (.Attribute y m ap) xs [] pos) (tE (mw X cl) ent (lev Φ (n + 1)).e (.meth k m r as)) := by
      cases zf : Φ.mt k m with
      | none =>
        refine ⟨fun pins s σ H Q I q => ?_⟩
        obtain ⟨v, H1, F, s, d', v', S, ev, q⟩ := q
        change stepE Φ (lev Φ n).e (.meth k m r as) v = _ at ev
        simp only [stepE] at ev
        rw [zf] at ev
        cases ev
      | some Fm =>
        obtain ⟨af, fd, ps, kk, ok, hr, hc, hm, hb, hnm⟩ := C.mt k m Fm zf
        have pr := go_recv (ent := ent) g C A k4
        have pa := go_args (ent := ent) g C A k5
        have ht := meth_eval (m := m) (apos := ap) (pos := pos) (args := xs) (env := X.env) k1 (few_of ns hf) k2
        have pc : PE X (.Call (.Attribute y m ap) xs [] pos) (tMeth (cl k).1 m (spOf (mw X cl) Fm) [] E0 (tR (mw X cl) ent (lev Φ n).e r) (tAr (mw X cl) ent (lev Φ n).e as)) := by
          cases xs with
          | nil =>
            cases as with
            | nil =>
              refine PE.mono (pe_meth0 pr hc hm ok hr hb .nil pass0 ht) fun σ H Q q => ?_
              revert q
              unfold tMeth
              intro q
              cases r with
              | v e =>
                obtain ⟨v, H1, F, d, v', S, ee, q⟩ := q
                refine ⟨v, H1, F, d, v', S, ee, fun u Ha Hb Fa p => ?_⟩
                obtain ⟨a, dx, fs, e1, e2, e3, v2, H2, F2, ds, v3, S2, e4, q⟩ := q u Ha Hb Fa p
                cases e4
                exact ⟨a, dx, fs, e1, e2, e3, q [] H2 Hb F2 (Tr.refl fun _ z => z) S2 .nil⟩
              | io i =>
                obtain ⟨u, hu, q⟩ := q
                obtain ⟨a, dx, fs, e1, e2, e3, v2, H2, F2, ds, v3, S2, e4, q⟩ := q
                cases e4
                exact ⟨u, hu, a, dx, fs, e1, e2, e3, q [] H2 H F2 (Tr.refl fun _ z => z) S2 .nil⟩
            | cons _ _ => cases k5
          | cons x0 r0 => exact pe_meth pr hc hm ok hr hb .nil pass0 pa (star_cons (ns x0 (by simp))) (backTo_plain fun w hw => ns w (by simp [hw])) ht
        refine PE.mono pc fun σ H Q q => ?_
        obtain ⟨v, H1, F, s, d', v', S, ev, q⟩ := q
        change stepE Φ (lev Φ n).e (.meth k m r as) v = _ at ev
        simp only [stepE] at ev
        rw [zf] at ev
        split at ev
        · rename_i F0 ds v1 e0 e1
          cases e0
          split at ev
          · rename_i nd
            split at ev
            · rename_i s0 c' d0 prs e2
              split at ev
              · rename_i hcc
                subst hcc
                split at ev
                · rename_i s2 d2 new e3
                  cases e4 : back v1 (ioOf v1 (r :: as)) new with
                  | none => rw [e4] at ev; cases ev
                  | some v2 =>
                    rw [e4] at ev; cases ev
                    exact tMeth_of (M := mw X cl) (by show m ∉ (cl k).2; rw [C.nm]; exact hnm) S nd.1 e1 nd.2 e2 e3 e4 q
                · cases ev
              · cases ev
            · cases ev
          · cases ev
        · cases ev
    exact ⟨pp, fun _ => pt_b pp (by intro _; rfl)⟩
  · cases h
theorem GoE.kws (g : GoE Φ cl N n) (C : Cn Φ cl X) (A : At Φ.cl X N c) : ∀ {kws : List Keyword} {ks : List Str} {kes : List E}, ckK (ckE N n c) kws ks kes = true → PK X kws (tA (mw X cl) ent (lev Φ n).e kes) ∧ (∀ pos : Pos, (backToKw pos (keywordEach kws X.env)).all (·.1.isSome) = true ∧ (backToKw pos (keywordEach kws X.env)).filterMap (·.1) = ks) ∧ kes.length = ks.length
  | [], [], [], _ => ⟨⟨fun pos pins s σ H Q I q => pk_nil.run pos pins s σ H Q I (tA_nil q)⟩, fun pos => ⟨rfl, rfl⟩, rfl⟩
  | ⟨some y, x, p⟩ :: r, k :: ks, e :: es, h => by
    simp only [ckK, Bool.and_eq_true] at h
    obtain ⟨⟨h1, h2⟩, h3⟩ := h
    have ey := of_decide_eq_true h1
    subst ey
    obtain ⟨p1, p2, p3⟩ := GoE.kws g C A h3
    refine ⟨⟨fun pos pins s σ H Q I q => (pk_cons (g.v (ent := ent) h2 C A) p1).run pos pins s σ H Q I (tA_cons q)⟩, fun pos => ?_, by simp [p3]⟩
    obtain ⟨q1, q2⟩ := p2 pos
    have e : backToKw pos (keywordEach (⟨some y, x, p⟩ :: r) X.env) = (some y, do let v ← eval x X.env; standAt pos; pure v) :: backToKw pos (keywordEach r X.env) := rfl
    rw [e]
    refine ⟨?_, ?_⟩
    · rw [List.all_cons, q1]; rfl
    · rw [List.filterMap_cons, q2]
  | [], [], _ :: _, h => by cases h
  | [], _ :: _, _, h => by cases h
  | ⟨none, _, _⟩ :: _, _, _, h => by simp [ckK] at h
  | ⟨some _, _, _⟩ :: _, [], _, h => by simp [ckK] at h
  | ⟨some _, _, _⟩ :: _, _ :: _, [], h => by simp [ckK] at h
theorem fillV_len {us : List V} {fl : List (Sum Nat D)} : (fillV us fl).length = fl.length := by simp [fillV]
theorem go_new (g : GoE Φ cl N n) (C : Cn Φ cl X) (A : At Φ.cl X N c) {k : Nat} {es kes : List E} {ks : List Str} (h : ckE N (n + 1) c x (.new k es ks kes) = true) : GoEx Φ cl X ent (n + 1) x (.new k es ks kes) := by
  simp only [ckE] at h
  split at h
  · rename_i y py xs kws pos
    simp only [Bool.and_eq_true] at h
    obtain ⟨⟨⟨k0, k1⟩, k2⟩, k3⟩ := h
    have ey := of_decide_eq_true k0
    rw [← A.ct] at ey
    subst ey
    obtain ⟨hg, hd, hn⟩ := gl_of A k1
    have pp : PE X (.Call (.Name (Φ.cl k).nm py) xs kws pos) (tE (mw X cl) ent (lev Φ (n + 1)).e (.new k es ks kes)) := by
      cases zf : Φ.nw k es.length ks with
      | none =>
        refine ⟨fun pins s σ H Q I q => ?_⟩
        obtain ⟨v, H1, F, s, d', v', S, ev, q⟩ := q
        change stepE Φ (lev Φ n).e (.new k es ks kes) v = _ at ev
        simp only [stepE] at ev
        rw [zf] at ev
        cases ev
      | some Ff =>
        obtain ⟨Fm, fl⟩ := Ff
        obtain ⟨okf, af, fd, ps, kk, ok, hr, hmk, hmg, hb⟩ := C.nw k es.length ks Fm fl zf
        have pa := g.all (ent := ent) C A k2
        have ns := all2_noStar k2
        have hl := all2_len k2
        have parts : ∀ {v : Ev} {s : Sh} {d' : D} {v' : Ev}, stepE Φ (lev Φ n).e (.new k es ks kes) v = some (s, d', v') → ∃ d1 va d2 ps, evs (lev Φ n).e es v = some (d1, va) ∧ evs (lev Φ n).e kes va = some (d2, v') ∧ fill (d1 ++ d2) fl = some ps ∧ Fm ((.ins k [], .ins k []) :: ps) = some (.sh, .non, [(s, d')]) := by
          intro v s d' v' ev
          simp only [stepE] at ev
          rw [zf] at ev
          split at ev
          · rename_i F0 fl0 ds v1 e0 e1
            cases e0
            split at ev
            · rename_i prs e2
              split at ev
              · rename_i s2 d2 e3
                cases ev
                obtain ⟨d1, va, d2, g1, g2, rfl⟩ := evs_app e1
                exact ⟨d1, va, d2, prs, g1, g2, e2, e3⟩
              · cases ev
            · cases ev
          · cases ev
        rcases hb with ⟨hks, hb, hfl⟩ | ⟨hks, gg, gV, hb, hgV⟩
        · subst hks
          obtain ⟨pk, pk2, pk3⟩ := GoE.kws (ent := ent) g C A k3
          have ekes : kes = [] := by
            cases kes with
            | nil => rfl
            | cons _ _ => simp at pk3
          subst ekes
          have ekw : kws = [] := by
            cases kws with
            | nil => rfl
            | cons q r =>
              obtain ⟨nm, e, p⟩ := q
              cases nm <;> simp [ckK] at k3
          subst ekw
          have pc : PE X (.Call (.Name (Φ.cl k).nm py) xs [] pos) (tMake (cl k).1 (spOf (mw X cl) Fm) [] E0 (tA (mw X cl) ent (lev Φ n).e es)) := by
            cases xs with
            | nil =>
              cases es with
              | nil =>
                refine PE.mono (pe_make0 hmk ok hr hg hmg hb .nil pass0 hd) fun σ H Q q => ?_
                obtain ⟨v, H1, F, ds, v', S, e, q⟩ := q
                cases e
                exact q [] H1 H F ⟨Tr.refl fun _ z => z, S, .nil⟩
              | cons _ _ => cases k2
            | cons x0 r0 => exact pe_make hmk ok hr hg hmg hb .nil pass0 pa hd (star_cons (ns x0 (by simp))) (backTo_plain fun w hw => ns w (by simp [hw]))
          refine PE.mono pc fun σ H Q q => ?_
          obtain ⟨v, H1, F, s, d', v', S, ev, q⟩ := q
          obtain ⟨d1, va, d2, prs, g1, g2, e2, e3⟩ := parts ev
          cases g2
          refine ⟨v, H1, F, d1, _, S, g1, fun us Ha Hb Fa p x dx hx hdx ne => ?_⟩
          have hul : us.length = es.length := by rw [p.rp.length, evs_len g1]
          rw [List.append_nil] at e2 ⊢
          have := sp_make (Q := Q) p.sv p.rp okf e2 e3 hx hdx ne fun Hc Hd f nr => q _ _ _ _ _ (nr.post p.sv p.tr)
          rw [hfl us hul] at this
          exact this
        · obtain ⟨pk, pk2, pk3⟩ := GoE.kws (ent := ent) g C A k3
          obtain ⟨a1, a2⟩ := pk2 pos
          have hxs : xs ≠ [] ∨ xs = [] := by cases xs <;> simp
          have nokw : ((backTo pos (starEach xs X.env)).any (·.1) || (backToKw pos (keywordEach kws X.env)).any (·.1.isNone)) = false := by
            rw [backTo_plain ns, Bool.false_or]
            rw [List.any_eq_false]
            intro q hq
            have := List.all_eq_true.mp a1 q hq
            cases hh : q.1 with
            | none => rw [hh] at this; cases this
            | some _ => simp
          have pc : PE X (.Call (.Name (Φ.cl k).nm py) xs kws pos) (tMakeK (cl k).1 es.length ks.length (spOf (mw X cl) Fm) gV E0 (tA (mw X cl) ent (lev Φ n).e es) (tA (mw X cl) ent (lev Φ n).e kes)) := by
            cases xs with
            | nil =>
              cases es with
              | nil =>
                refine PE.mono (pe_makeK0 hmk ok hr hg hmg hb pass0 pk a1 a2 hd nokw) fun σ H Q q => ?_
                obtain ⟨v, H1, F, ds, v', S, e, q⟩ := q
                cases e
                exact q [] H1 H F ⟨Tr.refl fun _ z => z, S, .nil⟩
              | cons _ _ => cases k2
            | cons x0 r0 => exact pe_makeK hmk ok hr hg hmg hb pass0 pa pk a1 a2 hd (star_cons (ns x0 (by simp))) nokw
          refine PE.mono pc fun σ H Q q => ?_
          obtain ⟨v, H1, F, s, d', v', S, ev, q⟩ := q
          obtain ⟨d1, va, d2, prs, g1, g2, e2, e3⟩ := parts ev
          refine ⟨v, H1, F, d1, va, S, g1, fun us Ha Hb Fa p => ⟨va, Ha, Fa, d2, v', p.sv, g2, fun zs Hc Hd Fc p2 => ?_⟩⟩
          have hul : us.length = es.length := by rw [p.rp.length, evs_len g1]
          have hzl : zs.length = ks.length := by rw [p2.rp.length, evs_len g2, pk3]
          refine ⟨hul, hzl, fun x dx hx hdx ne => ?_⟩
          rw [hgV _ us zs hul hzl]
          exact sp_make (Q := Q) p2.sv ((p.rp.mono p2.tr.mono).append p2.rp) okf e2 e3 hx hdx ne fun He Hf f nr => q _ _ _ _ _ (nr.post p2.sv (p.tr.trans p2.tr))
    exact ⟨pp, fun _ => pt_b pp (by intro _; rfl)⟩
  · cases h
theorem go_frz (g : GoE Φ cl N n) (C : Cn Φ cl X) (A : At Φ.cl X N c) {e : E} (h : ckE N (n + 1) c x (.frz e) = true) : GoEx Φ cl X ent (n + 1) x (.frz e) := by
  have h' : ckE N n c x e = true := h
  have parts : ∀ {v : Ev} {s : Sh} {d : D} {v' : Ev}, stepE Φ (lev Φ n).e (.frz e) v = some (s, d, v') → s = .sh ∧ evv (lev Φ n).e e v = some (d, v') := by
    intro v s d v' ev
    simp only [stepE] at ev
    split at ev
    · rename_i d v1 e1
      cases ev
      exact ⟨rfl, e1⟩
    · cases ev
  refine ⟨PE.mono (g.v (ent := ent) h' C A) fun σ H Q q => ?_, fun ht => PT.mono ((g c x e h' X C A ent).2 ht) fun σ H Q q => ?_⟩
  · obtain ⟨v, H1, F, s, d, v', S, ev, q⟩ := q
    obtain ⟨rfl, e1⟩ := parts ev
    exact tV_of S e1 fun u Ha Hb Fa t Sa r => q _ _ _ _ _ (thnR (v := v) t Sa r)
  · obtain ⟨v, H1, F, b, v', S, ev, q⟩ := q
    obtain ⟨s, ev2, hs⟩ := evv_some (evt_v ev)
    obtain ⟨rfl, e1⟩ := parts ev2
    exact tB_of S (evt_of e1) q
theorem go_bor (g : GoE Φ cl N n) (C : Cn Φ cl X) (A : At Φ.cl X N c) {e : E} (h : ckE N (n + 1) c x (.bor e) = true) : GoEx Φ cl X ent (n + 1) x (.bor e) := by
  have h' : ckE N n c x e = true := h
  have parts : ∀ {v : Ev} {s : Sh} {d : D} {v' : Ev}, stepE Φ (lev Φ n).e (.bor e) v = some (s, d, v') → v' = v ∧ ∃ v2, (lev Φ n).e e (fzA v) = some (s, d, v2) ∧ ((s = .sh ∧ leaf d = true) ∨ ∃ ds, s = .lst ∧ d = .lst ds ∧ ds.all leaf = true) := by
    intro v s d v' ev
    simp only [stepE] at ev
    split at ev
    · rename_i d2 v2 e2
      split at ev
      · rename_i hl
        cases ev
        exact ⟨rfl, v2, e2, .inl ⟨rfl, hl⟩⟩
      · cases ev
    · rename_i ds v2 e2
      split at ev
      · rename_i hl
        cases ev
        exact ⟨rfl, v2, e2, .inr ⟨ds, rfl, rfl, hl⟩⟩
      · cases ev
    · cases ev
  refine ⟨PE.mono (g c x e h' X C A ent).1 fun σ H Q q => ?_, fun ht => PT.mono ((g c x e h' X C A ent).2 ht) fun σ H Q q => ?_⟩
  · obtain ⟨v, H1, F, s, d, v', S, ev, q⟩ := q
    obtain ⟨rfl, v2, e2, hd⟩ := parts ev
    exact ⟨fzA v', _, _, s, d, v2, S.fzA, e2, fun u H1' H' F' f p => q u H1 H' F f (Post.back S p hd)⟩
  · obtain ⟨v, H1, F, b, v', S, ev, q⟩ := q
    obtain ⟨s, ev2, hs⟩ := evv_some (evt_v ev)
    obtain ⟨rfl, v2, e2, hd⟩ := parts ev2
    refine ⟨fzA v', _, _, b, v2, S.fzA, evt_of (evv_of e2 hs), fun H1' H' F' t S' => ?_⟩
    have sh : s = .sh := by
      rcases hd with ⟨rfl, _⟩ | ⟨ds, rfl, z, _⟩
      · rfl
      · cases z
    subst sh
    have p := Post.back S ((NewR.old S'.sub (.bl b)).post S' t) (.inl ⟨rfl, rfl⟩)
    exact q _ _ _ (p.tr.weak (fun _ z => z) fun b z => .inl (.inl z)) p.sv
end
set_option maxHeartbeats 0 in
theorem goE (Φ : Tab) (cl : Nat → Addr × List Str) (N : List Str) : ∀ n, GoE Φ cl N n
  | 0 => fun c x e h => by cases h
  | n + 1 => fun c x e h X C A ent => by
    have g := goE Φ cl N n
    have gN := goN Φ cl N n
    cases e with
    | c d =>
      simp only [ckE] at h
      split at h
      · rename_i k j pos
        have p : PE X (.Constant k j pos) (tE (mw X cl) ent (lev Φ (n + 1)).e (.c d)) := by
          have fin : ∀ {u : V}, (∀ H, Rp (mw X cl) H u d) → PE X (.Constant k j pos) (tC u) → PE X (.Constant k j pos) (tE (mw X cl) ent (lev Φ (n + 1)).e (.c d)) := fun {u} r p => PE.mono p fun σ H Q q => by
            obtain ⟨v, H1, F, s, d', v', S, ev, q⟩ := q
            change (if leaf d then some (Sh.sh, d, v) else none) = _ at ev
            split at ev
            · cases ev; exact q _ _ _ _ _ (S.post (r _))
            · cases ev
          cases k with
          | none => cases d <;> first | (cases h; done) | exact fin (fun _ => .non) pe_non
          | bool b => cases d <;> first | (cases h; done) | (have e := eq_of_beq h; subst e; exact fin (fun _ => .bl _) pe_bl)
          | int i => cases d <;> first | (cases h; done) | (have e := of_decide_eq_true h; subst e; exact fin (fun _ => .int _) pe_int)
          | str i => cases d <;> first | (cases h; done) | (have e := of_decide_eq_true h; subst e; exact fin (fun _ => .str _) pe_str)
          | _ => cases d <;> cases h
        exact ⟨p, fun _ => pt_b p (by intro _; rfl)⟩
      · cases h
    | pv p =>
      have hp : ckPl N c x p = true := h
      have pp : PE X x (tE (mw X cl) ent (lev Φ (n + 1)).e (.pv p)) := PE.mono (go_pl C A hp) fun σ H Q q => by
        obtain ⟨v, H1, F, s, d', v', S, ev, q⟩ := q
        change stepE Φ (lev Φ n).e (.pv p) v = _ at ev
        simp only [stepE] at ev
        split at ev
        · rename_i d e
          cases ev
          obtain ⟨u, f, h1, ⟨h2, h3⟩, h4⟩ := S.pl e
          exact ⟨u, h1, q _ _ _ _ _ (S.post h2)⟩
        · cases ev
      refine ⟨pp, fun _ => ?_⟩
      cases p with
      | s i =>
        simp only [ckPl] at hp
        split at hp
        · exact pt_b pp (by intro _; rfl)
        · cases hp
      | f i k j =>
        simp only [ckPl] at hp
        split at hp
        · exact pt_b pp (by intro _; rfl)
        · cases hp
    | mv i =>
      simp only [ckE] at h
      split at h
      · rename_i y pos
        simp only [Bool.and_eq_true] at h
        obtain ⟨⟨k1, k2⟩, k3⟩ := h
        have kn := okName_of k3
        have p : PE X (.Name y pos) (tE (mw X cl) ent (lev Φ (n + 1)).e (.mv i)) := PE.mono (pe_var (i := i) (by rw [A.n]; exact of_decide_eq_true k1) (vis_of A k2) kn.1 kn.2.1) fun σ H Q q => by
          obtain ⟨v, H1, F, s, d', v', S, ev, q⟩ := q
          change stepE Φ (lev Φ n).e (.mv i) v = _ at ev
          simp only [stepE] at ev
          split at ev
          · rename_i s d e
            cases ev
            obtain ⟨u, hu, p⟩ := S.take e
            exact ⟨u, hu, q _ _ _ _ _ p⟩
          · cases ev
        exact ⟨p, fun _ => pt_b p (by intro _; rfl)⟩
      · cases h
    | glob z =>
      simp only [ckE] at h
      split at h
      · rename_i y pos
        simp only [Bool.and_eq_true] at h
        obtain ⟨k1, k2⟩ := h
        have e := of_decide_eq_true k1
        subst e
        obtain ⟨hg, hd, hn⟩ := gl_of A k2
        have p : PE X (.Name y pos) (tE (mw X cl) ent (lev Φ (n + 1)).e (.glob y)) := by
          cases zd : Φ.gl y with
          | none =>
            refine ⟨fun pins s σ H Q I q => ?_⟩
            obtain ⟨v, H1, F, s, d', v', S, ev, q⟩ := q
            change stepE Φ (lev Φ n).e (.glob y) v = _ at ev
            simp only [stepE] at ev
            rw [zd] at ev
            cases ev
          | some d =>
            obtain ⟨v0, u0, m0, r0, p0⟩ := C.gl y d zd
            refine PE.mono (pe_glob hg m0 r0 hd) fun σ H Q q => ?_
            obtain ⟨v, H1, F, s, d', v', S, ev, q⟩ := q
            change stepE Φ (lev Φ n).e (.glob y) v = _ at ev
            simp only [stepE] at ev
            rw [zd] at ev
            cases ev
            exact q _ _ _ _ _ (S.post (p0 _))
        exact ⟨p, fun _ => pt_b p (by intro _; rfl)⟩
      · cases h
    | tup es =>
      simp only [ckE] at h
      split at h
      · rename_i xs k pos
        obtain ⟨k1, k2⟩ := Bool.and_eq_true_iff.mp h
        have hl := all2_len k2
        have p : PE X (.Tuple xs k pos) (tE (mw X cl) ent (lev Φ (n + 1)).e (.tup es)) := PE.mono (pe_tup (g.all (ent := ent) C A k2)) fun σ H Q q => by
          obtain ⟨v, H1, F, s, d', v', S, ev, q⟩ := q
          change stepE Φ (lev Φ n).e (.tup es) v = _ at ev
          simp only [stepE] at ev
          split at ev
          · rename_i ds v1 z
            cases ev
            have zl := evs_len z
            have z5 : ds.length ≤ sizeLine := size1000 (by rw [zl, ← hl]; exact of_decide_eq_true k1)
            refine ⟨v, H1, F, ds, _, S, z, fun us Ha Hb Fa p => ⟨by rw [p.rp.length]; exact z5, fun a ha => ?_⟩⟩
            exact q _ _ _ _ _ ((NewR.tup p.sv.sub ha p.rp z5).post p.sv p.tr)
          · cases ev
        exact ⟨p, fun _ => pt_b p (by intro _; rfl)⟩
      · cases h
    | lst es =>
      simp only [ckE] at h
      split at h
      · rename_i xs pos
        obtain ⟨k1, k2⟩ := Bool.and_eq_true_iff.mp h
        have hl := all2_len k2
        have p : PE X (.List xs pos) (tE (mw X cl) ent (lev Φ (n + 1)).e (.lst es)) := PE.mono (pe_lst (g.all (ent := ent) C A k2)) fun σ H Q q => by
          obtain ⟨v, H1, F, s, d', v', S, ev, q⟩ := q
          change stepE Φ (lev Φ n).e (.lst es) v = _ at ev
          simp only [stepE] at ev
          split at ev
          · rename_i ds v1 z
            cases ev
            have zl := evs_len z
            have z5 : ds.length ≤ sizeLine := size1000 (by rw [zl, ← hl]; exact of_decide_eq_true k1)
            refine ⟨v, H1, F, ds, _, S, z, fun us Ha Hb Fa p => ⟨by rw [p.rp.length]; exact z5, fun a ha => ?_⟩⟩
            exact q _ _ _ _ _ ((NewR.lst p.sv.sub ha p.rp z5).post p.sv p.tr)
          · cases ev
        exact ⟨p, fun _ => pt_b p (by intro _; rfl)⟩
      · cases h
    | dct ks es => exact go_dct g C A h
    | bin o a b =>
      simp only [ckE] at h
      split at h
      · rename_i y op z pos
        simp only [Bool.and_eq_true] at h
        obtain ⟨⟨k1, k2⟩, k3⟩ := h
        have e := of_decide_eq_true k1
        subst e
        have p : PE X (.BinOp y (opOf o) z pos) (tE (mw X cl) ent (lev Φ (n + 1)).e (.bin o a b)) := PE.mono (pe_op (op_bin (cl := cl) o) (g.v (ent := ent) k2 C A) (g.v (ent := ent) k3 C A)) fun σ H Q q => by
          obtain ⟨v, H1, F, s, d', v', S, ev, q⟩ := q
          change stepE Φ (lev Φ n).e (.bin o a b) v = _ at ev
          simp only [stepE] at ev
          split at ev
          · rename_i x y v1 ee
            cases zb : bin o x y with
            | none => rw [zb] at ev; cases ev
            | some r =>
              rw [zb] at ev; cases ev
              refine two S ee fun x' y' u w Ha Hb Fa ed t Sa rx ry => ?_
              cases ed
              exact ⟨Ha, _, _, _, _, Sa.sub, rx, ry, zb, fun u Hc Hd f nr => q _ _ _ _ _ (nr.post Sa t)⟩
          · cases ev
        exact ⟨p, fun _ => pt_b p (by intro _; rfl)⟩
      · cases h
    | neg a =>
      simp only [ckE] at h
      split at h
      · rename_i op y pos
        obtain ⟨k1, k2⟩ := Bool.and_eq_true_iff.mp h
        have e := of_decide_eq_true k1
        subst e
        have p : PE X (.UnaryOp .USub y pos) (tE (mw X cl) ent (lev Φ (n + 1)).e (.neg a)) := PE.mono (pe_un un_neg (g.v (ent := ent) k2 C A)) fun σ H Q q => by
          obtain ⟨v, H1, F, s, d', v', S, ev, q⟩ := q
          change stepE Φ (lev Φ n).e (.neg a) v = _ at ev
          simp only [stepE] at ev
          split at ev
          · rename_i i v1 z
            cases ev
            refine tV_of S z fun u Ha Hb Fa t Sa r => ?_
            cases r
            exact ⟨i, rfl, q _ _ _ _ _ (thnR (v := v) t Sa (.int _))⟩
          · cases ev
        exact ⟨p, fun _ => pt_b p (by intro _; rfl)⟩
      · cases h
    | not a =>
      simp only [ckE] at h
      split at h
      · rename_i op y pos
        simp only [Bool.and_eq_true] at h
        obtain ⟨⟨k1, kt⟩, k2⟩ := h
        have e := of_decide_eq_true k1
        subst e
        refine ⟨PE.mono (pe_not (g.v (ent := ent) k2 C A)) fun σ H Q q => ?_, fun _ => PT.mono (pt_not ((g c y a k2 X C A ent).2 kt)) fun σ H Q q => ?_⟩
        · obtain ⟨v, H1, F, s, d', v', S, ev, q⟩ := q
          change stepE Φ (lev Φ n).e (.not a) v = _ at ev
          simp only [stepE] at ev
          split at ev
          · rename_i b v1 z
            cases ev
            refine tV_of S (evt_v z) fun u Ha Hb Fa t Sa r => ?_
            cases r
            exact ⟨b, rfl, q _ _ _ _ _ (thnR (v := v) t Sa (.bl _))⟩
          · cases ev
        · obtain ⟨v, H1, F, b, v', S, ev, q⟩ := q
          have ev' := evt_v ev
          obtain ⟨s, ev2, hs⟩ := evv_some ev'
          change stepE Φ (lev Φ n).e (.not a) v = _ at ev2
          simp only [stepE] at ev2
          split at ev2
          · rename_i b' v1 z
            cases ev2
            exact tB_of S z q
          · cases ev2
      · cases h
    | and a es =>
      simp only [ckE] at h
      split at h
      · rename_i op y ys pos
        simp only [Bool.and_eq_true] at h
        obtain ⟨⟨⟨⟨k1, kt⟩, kts⟩, k2⟩, k3⟩ := h
        have e := of_decide_eq_true k1
        subst e
        refine ⟨PE.mono (go_and (ent := ent) g C A k2 k3) fun σ H Q q => ?_, fun _ => (PW.mono (go_andT (ent := ent) g C A k2 kt k3 kts) fun σ H Q q => ?_).pt⟩
        · obtain ⟨v, H1, F, s, d', v', S, ev, q⟩ := q
          change stepE Φ (lev Φ n).e (.and a es) v = _ at ev
          simp only [stepE] at ev
          split at ev
          · rename_i d v1 z
            cases ev
            exact ⟨v, H1, F, d', v', S, z, fun u H1' H' F' p => q _ _ _ _ _ p.post⟩
          · cases ev
        · obtain ⟨v, H1, F, b, v', S, ev, q⟩ := q
          obtain ⟨s, ev2, hs⟩ := evv_some (evt_v ev)
          change stepE Φ (lev Φ n).e (.and a es) v = _ at ev2
          simp only [stepE] at ev2
          split at ev2
          · rename_i d v1 z
            cases ev2
            exact ⟨v, H1, F, b, v', S, z, q⟩
          · cases ev2
      · cases h
    | or a es =>
      simp only [ckE] at h
      split at h
      · rename_i op y ys pos
        simp only [Bool.and_eq_true] at h
        obtain ⟨⟨⟨⟨k1, kt⟩, kts⟩, k2⟩, k3⟩ := h
        have e := of_decide_eq_true k1
        subst e
        refine ⟨PE.mono (go_or (ent := ent) g C A k2 k3) fun σ H Q q => ?_, fun _ => (PW.mono (go_orT (ent := ent) g C A k2 kt k3 kts) fun σ H Q q => ?_).pt⟩
        · obtain ⟨v, H1, F, s, d', v', S, ev, q⟩ := q
          change stepE Φ (lev Φ n).e (.or a es) v = _ at ev
          simp only [stepE] at ev
          split at ev
          · rename_i d v1 z
            cases ev
            exact ⟨v, H1, F, d', v', S, z, fun u H1' H' F' p => q _ _ _ _ _ p.post⟩
          · cases ev
        · obtain ⟨v, H1, F, b, v', S, ev, q⟩ := q
          obtain ⟨s, ev2, hs⟩ := evv_some (evt_v ev)
          change stepE Φ (lev Φ n).e (.or a es) v = _ at ev2
          simp only [stepE] at ev2
          split at ev2
          · rename_i d v1 z
            cases ev2
            exact ⟨v, H1, F, b, v', S, z, q⟩
          · cases ev2
      · cases h
    | cmp o a b =>
      simp only [ckE] at h
      split at h
      · rename_i y op z pos
        simp only [Bool.and_eq_true] at h
        obtain ⟨⟨k1, k2⟩, k3⟩ := h
        have e := of_decide_eq_true k1
        subst e
        refine ⟨PE.mono (pe_cmpR (op_cmp (cl := cl) C.room o) (g.v (ent := ent) k2 C A) (g.v (ent := ent) k3 C A) (ckE_noSet k3)) fun σ H Q q => ?_, fun _ => PT.mono (pt_cmpR (op_cmp (cl := cl) C.room o) (g.v (ent := ent) k2 C A) (g.v (ent := ent) k3 C A) (ckE_noSet k3)) fun σ H Q q => ?_⟩
        · obtain ⟨v, H1, F, s, d', v', S, ev, q⟩ := q
          change stepE Φ (lev Φ n).e (.cmp o a b) v = _ at ev
          simp only [stepE] at ev
          split at ev
          · rename_i x y v1 ee
            cases zb : cmp o x y with
            | none => rw [zb] at ev; cases ev
            | some r =>
              rw [zb] at ev; cases ev
              refine two S ee fun x' y' u w Ha Hb Fa ed t Sa rx ry => ?_
              cases ed
              exact ⟨Ha, _, _, _, Sa.sub, rx, ry, zb, q _ _ _ _ _ (thnR (v := v) t Sa (.bl _))⟩
          · cases ev
        · obtain ⟨v, H1, F, b', v', S, ev, q⟩ := q
          obtain ⟨s, ev2, hs⟩ := evv_some (evt_v ev)
          change stepE Φ (lev Φ n).e (.cmp o a b) v = _ at ev2
          simp only [stepE] at ev2
          split at ev2
          · rename_i x y v1 ee
            cases zb : cmp o x y with
            | none => rw [zb] at ev2; cases ev2
            | some r =>
              rw [zb] at ev2; cases ev2
              refine two S ee fun x' y' u w Ha Hb Fa ed t Sa rx ry => ?_
              cases ed
              exact ⟨Ha, _, _, _, Sa.sub, rx, ry, zb, _, rfl, q Ha Hb Fa t Sa⟩
          · cases ev2
      · cases h
    | chain o p a b d =>
      simp only [ckE] at h
      split at h
      · rename_i y op op' z w pos
        simp only [Bool.and_eq_true] at h
        obtain ⟨⟨⟨⟨k1, k2⟩, k3⟩, k4⟩, k5⟩ := h
        have e := of_decide_eq_true k1
        subst e
        have e := of_decide_eq_true k2
        subst e
        have hm : lastMarks [cmpOf o, cmpOf p] [z, w] = false := ckE_noSet (op := cmpOf p) k5
        have key : ∀ (σ : L2.St) (H : Hp) (Q : VK) (v : Ev) (H1 : Hp) (F : Nat → List Addr) (r : Bool) (v' : Ev), SV (mw X cl) ent σ v H1 H F → stepE Φ (lev Φ n).e (.chain o p a b d) v = some (.sh, .bl r, v') →
            (∀ H1' H' F', Tr (OF F) H1 H H1' H' (OF F') → SV (mw X cl) ent σ v' H1' H' F' → Q (.bl r) H') → tChain (rCmp (mw X cl) o) (rCmp (mw X cl) p) (tV (mw X cl) ent (lev Φ n).e a) (tV (mw X cl) ent (lev Φ n).e b) (tV (mw X cl) ent (lev Φ n).e d) σ H Q := by
          intro σ H Q v H1 F r v' S ev q
          simp only [stepE] at ev
          split at ev
          · rename_i x y v1 ee
            refine two S ee fun x' y' u w' Ha Hb Fa ed t Sa rx ry => ?_
            cases ed
            cases zb : cmp o x y with
            | none => rw [zb] at ev; cases ev
            | some k =>
              rw [zb] at ev
              refine ⟨Ha, _, _, _, Sa.sub, rx, ry, zb, k, rfl, ?_⟩
              cases k with
              | true =>
                rw [if_pos rfl]
                dsimp only at ev
                split at ev
                · rename_i z2 v2 e2
                  cases zb2 : cmp p y z2 with
                  | none => rw [zb2] at ev; cases ev
                  | some k2 =>
                    rw [zb2] at ev; cases ev
                    refine tV_of Sa e2 fun u2 Hc Hd Fc t2 Sc r2 => ?_
                    exact ⟨Hc, _, _, _, Sc.sub, ry.mono t2.mono, r2, zb2, q Hc Hd Fc (t.trans t2) Sc⟩
                · cases ev
              | false =>
                rw [if_neg Bool.false_ne_true]
                cases ev
                exact q Ha Hb Fa t Sa
          · cases ev
        have isb : ∀ {v v' : Ev} {s : Sh} {d' : D}, stepE Φ (lev Φ n).e (.chain o p a b d) v = some (s, d', v') → ∃ r, s = .sh ∧ d' = .bl r := by
          intro v v' s d' ev
          simp only [stepE] at ev
          split at ev
          · split at ev
            · split at ev
              · rename_i z2 v2 e2
                cases zb2 : cmp p _ z2 with
                | none => rw [zb2] at ev; cases ev
                | some k2 => rw [zb2] at ev; cases ev; exact ⟨_, rfl, rfl⟩
              · cases ev
            · cases ev; exact ⟨_, rfl, rfl⟩
            · cases ev
          · cases ev
        refine ⟨PE.mono (pe_chain (op_cmp (cl := cl) C.room o) (op_cmp (cl := cl) C.room p) (g.v (ent := ent) k3 C A) (g.v (ent := ent) k4 C A) (g.v (ent := ent) k5 C A) hm) fun σ H Q q => ?_,
          fun _ => PT.mono (pt_chain (op_cmp (cl := cl) C.room o) (op_cmp (cl := cl) C.room p) (g.v (ent := ent) k3 C A) (g.v (ent := ent) k4 C A) (g.v (ent := ent) k5 C A) hm) fun σ H Q q => ?_⟩
        · obtain ⟨v, H1, F, s, d', v', S, ev, q⟩ := q
          obtain ⟨r, rfl, rfl⟩ := isb ev
          exact key σ H Q v H1 F r v' S ev fun Ha Hb Fa t Sa => q _ _ _ _ _ (thnR (v := v) t Sa (.bl _))
        · obtain ⟨v, H1, F, b', v', S, ev, q⟩ := q
          obtain ⟨s, ev2, hs⟩ := evv_some (evt_v ev)
          obtain ⟨r, rfl, e2⟩ := isb ev2
          cases e2
          exact key σ H _ v H1 F b' v' S ev2 fun Ha Hb Fa t Sa => ⟨b', rfl, q Ha Hb Fa t Sa⟩
      · cases h
    | ite t a b =>
      simp only [ckE] at h
      split at h
      · rename_i y z w pos
        simp only [Bool.and_eq_true] at h
        obtain ⟨⟨⟨kt, k1⟩, k2⟩, k3⟩ := h
        refine ⟨PE.mono (pe_ifExp ((g c y t k1 X C A ent).2 kt) (g c z a k2 X C A ent).1 (g c w b k3 X C A ent).1) fun σ H Q q => ?_, fun z => by cases z⟩
        obtain ⟨v, H1, F, s, d', v', S, ev, q⟩ := q
        change stepE Φ (lev Φ n).e (.ite t a b) v = _ at ev
        simp only [stepE] at ev
        split at ev
        · rename_i v1 z
          refine tB_of S z fun Ha Hb Fa tr Sa => ?_
          rw [if_pos rfl]
          exact ⟨v1, Ha, Fa, s, d', v', Sa, ev, fun u H1' H' F' f p => q u H1' H' F' f ⟨tr.trans p.tr, p.sv, p.rs, p.ap, p.dj⟩⟩
        · rename_i v1 z
          refine tB_of S z fun Ha Hb Fa tr Sa => ?_
          rw [if_neg Bool.false_ne_true]
          exact ⟨v1, Ha, Fa, s, d', v', Sa, ev, fun u H1' H' F' f p => q u H1' H' F' f ⟨tr.trans p.tr, p.sv, p.rs, p.ap, p.dj⟩⟩
        · cases ev
      · cases h
    | idx a i => exact go_idx g C A h
    | fld a k j => exact go_fld g C A h
    | oidx p e => exact go_oidx g gN C A h
    | olen p => exact go_olen g C A h
    | oin neg e p => exact go_oin g C A h
    | get a k d => exact go_get g C A h
    | gget z k d => exact go_gget g C A h
    | oget p k d => exact go_oget g gN C A h
    | ocpy p => exact go_ocpy g C A h
    | sset e => exact go_sset g C A h
    | olst p => exact go_olst g C A h
    | osrt p => exact go_osrt g C A h
    | pop p e => exact go_pop g gN C A h
    | popl p => exact go_popl g C A h
    | meth k m r as => exact go_meth g C A h
    | new k es ks kes => exact go_new g C A h
    | bor e => exact go_bor g C A h
    | frz e => exact go_frz g C A h
    | slc a lo hi =>
      simp only [ckE] at h
      split at h
      · rename_i y l hx ps pos
        simp only [Bool.and_eq_true] at h
        obtain ⟨⟨k1, k2⟩, k3⟩ := h
        have p : PE X (.Subscript y (.Slice l hx none ps) pos) (tE (mw X cl) ent (lev Φ (n + 1)).e (.slc a lo hi)) := PE.mono (pe_slice sl_cut (g.v (ent := ent) k1 C A) (go_o (ent := ent) g C A k2) (go_o (ent := ent) g C A k3)) fun σ H Q q => by
          obtain ⟨v, H1, F, s, d', v', S, ev, q⟩ := q
          change stepE Φ (lev Φ n).e (.slc a lo hi) v = _ at ev
          simp only [stepE] at ev
          split at ev
          · rename_i x v1 e1
            split at ev
            · rename_i lv v2 e2
              split at ev
              · rename_i hv v3 e3
                cases zb : slc x lv hv with
                | none => rw [zb] at ev; cases ev
                | some r =>
                  rw [zb] at ev; cases ev
                  refine tV_of S e1 fun u Ha Hb Fa t Sa rx => ⟨v1, Ha, Fa, lv, v2, Sa, e2, fun Hc Hd Fc t2 Sc => ⟨v2, Hc, Fc, hv, _, Sc, e3, fun He Hf Fe t3 Se => ?_⟩⟩
                  exact ⟨He, _, _, _, Se.sub, (rx.mono t2.mono).mono t3.mono, zb, fun u Hg Hh f nr => q _ _ _ _ _ (nr.post Se ((t.trans t2).trans t3))⟩
              · cases ev
            · cases ev
          · cases ev
        exact ⟨p, fun _ => pt_b p (by intro _; rfl)⟩
      · cases h
    | st2 a =>
      simp only [ckE] at h
      split at h
      · rename_i y i kk p1 p3 pos
        simp only [Bool.and_eq_true] at h
        obtain ⟨k1, k2⟩ := h
        have e0 := of_decide_eq_true k2
        subst e0
        have p : PE X (.Subscript y (.Slice none none (some (.Constant (.int 2) kk p1)) p3) pos) (tE (mw X cl) ent (lev Φ (n + 1)).e (.st2 a)) := PE.mono (pe_st2 (g.v (ent := ent) k1 C A)) fun σ H Q q => by
          obtain ⟨v, H1, F, s, d', v', S, ev, q⟩ := q
          change stepE Φ (lev Φ n).e (.st2 a) v = _ at ev
          simp only [stepE] at ev
          split at ev
          · rename_i x0 x1 x2 v1 e1
            cases ev
            refine tV_of S e1 fun u Ha Hb Fa t Sa rx => ?_
            cases rx with
            | tup hl z r =>
              cases r with
              | cons r0 r =>
                cases r with
                | cons r1 r =>
                  cases r with
                  | cons r2 r =>
                    cases r
                    exact ⟨_, _, _, _, rfl, same_seqT Sa.sub hl, fun p hp => q _ _ _ _ _ ((NewR.tup Sa.sub hp (.cons r0 (.cons r2 .nil)) (show 2 ≤ sizeLine by decide)).post Sa t)⟩
          · cases ev
        exact ⟨p, fun _ => pt_b p (by intro _; rfl)⟩
      · cases h
    | rev a =>
      simp only [ckE] at h
      split at h
      · rename_i y i kk p1 p2 p3 pos
        simp only [Bool.and_eq_true] at h
        obtain ⟨k1, k2⟩ := h
        have e0 := of_decide_eq_true k2
        subst e0
        have p : PE X (.Subscript y (.Slice none none (some (.UnaryOp .USub (.Constant (.int 1) kk p1) p2)) p3) pos) (tE (mw X cl) ent (lev Φ (n + 1)).e (.rev a)) := PE.mono (pe_revL (g.v (ent := ent) k1 C A)) fun σ H Q q => by
          obtain ⟨v, H1, F, s, d', v', S, ev, q⟩ := q
          change stepE Φ (lev Φ n).e (.rev a) v = _ at ev
          simp only [stepE] at ev
          split at ev
          · rename_i xs v1 e1
            cases ev
            refine tV_of S e1 fun u Ha Hb Fa t Sa rx => ?_
            cases rx with
            | lst hl z r =>
              exact ⟨_, _, rfl, SqL.of (Sa.sub _ _ hl), fun p hp => q _ _ _ _ _ ((NewR.lst Sa.sub hp r.rev (by rw [List.length_reverse]; exact z)).post Sa t)⟩
          · cases ev
        exact ⟨p, fun _ => pt_b p (by intro _; rfl)⟩
      · cases h
    | call f as =>
      simp only [ckE] at h
      split at h
      · rename_i y py xs pos
        simp only [Bool.and_eq_true] at h
        obtain ⟨⟨k0, k1⟩, k2⟩ := h
        have e := of_decide_eq_true k0
        subst e
        obtain ⟨hg, hd, hn⟩ := gl_of A k1
        have p : PE X (.Call (.Name y py) xs [] pos) (tE (mw X cl) ent (lev Φ (n + 1)).e (.call y as)) := by
          cases zf : Φ.fn y with
          | none =>
            refine ⟨fun pins s σ H Q I q => ?_⟩
            obtain ⟨v, H1, F, s, d', v', S, ev, q⟩ := q
            change stepE Φ (lev Φ n).e (.call y as) v = _ at ev
            simp only [stepE] at ev
            rw [zf] at ev
            cases ev
          | some Fm =>
            have CO := C.fn y Fm zf
            have pa := go_args (ent := ent) g C A k2
            have ns := all2A_noStar k2
            have pc : PE X (.Call (.Name y py) xs [] pos) (tCall (spOf (mw X cl) Fm) [] E0 (tAr (mw X cl) ent (lev Φ n).e as)) := by
              cases xs with
              | nil =>
                cases as with
                | nil =>
                  refine PE.mono (CO.c0 X py pos rfl rfl rfl rfl rfl rfl C.calm hg hd hn) fun σ H Q q => ?_
                  obtain ⟨v, H1, F, ds, v', S, e, q⟩ := q
                  cases e
                  exact q [] H1 H F (Tr.refl fun _ h => h) S .nil
                | cons _ _ => cases k2
              | cons x r => exact CO.cs X x r _ py pos rfl rfl rfl rfl rfl rfl C.calm hg hd hn pa (star_cons (ns x (by simp))) (backTo_plain fun w hw => ns w (by simp [hw]))
            refine PE.mono pc fun σ H Q q => ?_
            obtain ⟨v, H1, F, s, d', v', S, ev, q⟩ := q
            change stepE Φ (lev Φ n).e (.call y as) v = _ at ev
            simp only [stepE] at ev
            rw [zf] at ev
            split at ev
            · rename_i F0 ds v1 e0 e1
              cases e0
              split at ev
              · rename_i nd
                split at ev
                · rename_i prs e2
                  split at ev
                  · rename_i s2 d2 new e3
                    cases e4 : back v1 (ioOf v1 as) new with
                    | none => rw [e4] at ev; cases ev
                    | some v2 =>
                      rw [e4] at ev; cases ev
                      exact tCall_of S e1 nd e2 e3 e4 q
                  · cases ev
                · cases ev
              · cases ev
            · cases ev
        exact ⟨p, fun _ => pt_b p (by intro _; rfl)⟩
      · cases h
    | callo f e =>
      simp only [ckE] at h
      split at h
      · rename_i y py z pos
        simp only [Bool.and_eq_true] at h
        obtain ⟨⟨k0, k1⟩, k2⟩ := h
        have e0 := of_decide_eq_true k0
        subst e0
        obtain ⟨hg, hd, hn⟩ := gl_of A k1
        have p : PE X (.Call (.Name y py) [z] [] pos) (tE (mw X cl) ent (lev Φ (n + 1)).e (.callo y e)) := by
          cases zf : Φ.fn y with
          | none =>
            refine ⟨fun pins s σ H Q I q => ?_⟩
            obtain ⟨v, H1, F, s, d', v', S, ev, q⟩ := q
            change stepE Φ (lev Φ n).e (.callo y e) v = _ at ev
            simp only [stepE] at ev
            rw [zf] at ev
            cases ev
          | some Fm =>
            have CO := C.fn y Fm zf
            have ns := ckE_noStar k2
            refine PE.mono (CO.cs X z [] _ py pos rfl rfl rfl rfl rfl rfl C.calm hg hd hn (pa_cons (g c z e k2 X C A ent).1 pa_nil (star_cons ns)) (star_cons ns) (backTo_plain fun w hw => by cases hw)) fun σ H Q q => ?_
            obtain ⟨v, H1, F, s, d', v', S, ev, q⟩ := q
            change stepE Φ (lev Φ n).e (.callo y e) v = _ at ev
            simp only [stepE] at ev
            rw [zf] at ev
            split at ev
            · rename_i F0 d v1 e0 e1
              cases e0
              split at ev
              · rename_i s2 d2 x e3
                cases ev
                exact tCallo_of S e1 e3 q
              · cases ev
            · cases ev
        exact ⟨p, fun _ => pt_b p (by intro _; rfl)⟩
      · cases h
    | blt f es =>
      simp only [ckE] at h
      split at h
      · rename_i y py xs pos
        simp only [Bool.and_eq_true] at h
        obtain ⟨⟨⟨k0, k1⟩, k2⟩, k3⟩ := h
        have e := of_decide_eq_true k0
        subst e
        obtain ⟨hg, hd, hn⟩ := gl_of A k1
        have pa := g.all (ent := ent) C A k3
        have ns := all2_noStar k3
        have p : PE X (.Call (.Name f.nm py) xs [] pos) (tE (mw X cl) ent (lev Φ (n + 1)).e (.blt f es)) := by
          cases xs with
          | nil => exact absurd (of_decide_eq_true k2) (by simp)
          | cons x r =>
            have s1 : starEach (x :: r) X.env = (false, eval x X.env) :: starEach r X.env := star_cons (ns x (by simp))
            have s2 : (backTo pos (starEach r X.env)).any (·.1) = false := backTo_plain fun w hw => ns w (by simp [hw])
            have pc : PE X (.Call (.Name f.nm py) (x :: r) [] pos) (tCB (rBlt (mw X cl) f) (tA (mw X cl) ent (lev Φ n).e es)) := by
              cases f with
              | len => exact pe_callB (call_blt (cl := cl) C.calm C.room .len) hg (C.blt _ (by decide)) (by decide +kernel) pa hn hd s1 s2
              | int => exact pe_callTy (call_blt (cl := cl) C.calm C.room .int) hg (C.blt _ (by decide)) (by decide +kernel) pa hn hd s1 s2
              | min => exact pe_callB (call_blt (cl := cl) C.calm C.room .min) hg (C.blt _ (by decide)) (by decide +kernel) pa hn hd s1 s2
              | max => exact pe_callB (call_blt (cl := cl) C.calm C.room .max) hg (C.blt _ (by decide)) (by decide +kernel) pa hn hd s1 s2
              | abs => exact pe_callB (call_blt (cl := cl) C.calm C.room .abs) hg (C.blt _ (by decide)) (by decide +kernel) pa hn hd s1 s2
              | list => exact pe_callTy (call_blt (cl := cl) C.calm C.room .list) hg (C.blt _ (by decide)) (by decide +kernel) pa hn hd s1 s2
              | tuple => exact pe_callTy (call_blt (cl := cl) C.calm C.room .tuple) hg (C.blt _ (by decide)) (by decide +kernel) pa hn hd s1 s2
              | all => exact pe_callB (call_blt (cl := cl) C.calm C.room .all) hg (C.blt _ (by decide)) (by decide +kernel) pa hn hd s1 s2
              | any => exact pe_callB (call_blt (cl := cl) C.calm C.room .any) hg (C.blt _ (by decide)) (by decide +kernel) pa hn hd s1 s2
              | sum => exact pe_callB (call_blt (cl := cl) C.calm C.room .sum) hg (C.blt _ (by decide)) (by decide +kernel) pa hn hd s1 s2
              | dict => exact pe_callTy (call_blt (cl := cl) C.calm C.room .dict) hg (C.blt _ (by decide)) (by decide +kernel) pa hn hd s1 s2
              | sorted => exact pe_callB (call_blt (cl := cl) C.calm C.room .sorted) hg (C.blt _ (by decide)) (by decide +kernel) pa hn hd s1 s2
            refine PE.mono pc fun σ H Q q => ?_
            obtain ⟨v, H1, F, s, d', v', S, ev, q⟩ := q
            change stepE Φ (lev Φ n).e (.blt f es) v = _ at ev
            simp only [stepE] at ev
            split at ev
            · rename_i ds v1 z
              cases zb : blt f ds with
              | none => rw [zb] at ev; cases ev
              | some r =>
                rw [zb] at ev; cases ev
                exact ⟨v, H1, F, ds, _, S, z, fun us Ha Hb Fa p => ⟨Ha, ds, _, _, p.sv.sub, p.rp, zb, fun u Hc Hd f nr => q _ _ _ _ _ (nr.post p.sv p.tr)⟩⟩
            · cases ev
        exact ⟨p, fun _ => pt_b p (by intro _; rfl)⟩
      · cases h
    | isi a ts =>
      simp only [ckE] at h
      split at h
      · rename_i y py z t pt pos
        simp only [Bool.and_eq_true] at h
        obtain ⟨⟨⟨k0, k1⟩, k2⟩, k3⟩ := h
        have e := of_decide_eq_true k0
        subst e
        obtain ⟨hg, hd, hn⟩ := gl_of A k1
        obtain ⟨pt1, ht, hl, nst⟩ := go_tys C A k3
        have p : PE X (.Call (.Name "isinstance" py) [z, .Name t pt] [] pos) (tE (mw X cl) ent (lev Φ (n + 1)).e (.isi a ts)) := PE.mono (pe_callB call_isiD hg (C.blt _ (by decide)) (by decide +kernel) (pa_cons (g.v (ent := ent) k2 C A) pt1 (star_cons (ckE_noStar k2))) hn hd (star_cons (ckE_noStar k2)) (backTo_plain nst)) fun σ H Q q => by
          obtain ⟨v, H1, F, s, d', v', S, ev, q⟩ := q
          change stepE Φ (lev Φ n).e (.isi a ts) v = _ at ev
          simp only [stepE] at ev
          split at ev
          · rename_i d v1 ee
            refine tV_of S ee fun u Ha Hb Fa t Sa r => ?_
            have ni : isIns d = false := by cases r <;> first | rfl | cases ev
            have ty := (r.mono Sa.sub).ty ni
            match ts, hl with
            | [t1], _ =>
              refine ⟨u, .ty t1, _, _, _, rfl, .ty t1, ty.1, kit_at ty.2 (ht t1 (by simp)), ?_⟩
              have ev2 : some (Sh.sh, D.bl ([t1].any fun t => isiOne (tyOf d) t), v1) = some (s, d', v') := by
                cases r <;> first | exact ev | cases ni
              cases ev2
              have z : ([t1].any fun t => isiOne (tyOf d) t) = isiOne (tyOf d) t1 := by simp
              rw [z] at q
              exact q _ _ _ _ _ (thnR (v := v) t Sa (.bl _))
          · cases ev
        exact ⟨p, fun _ => pt_b p (by intro _; rfl)⟩
      · rename_i y py z xs kx pt pos
        simp only [Bool.and_eq_true] at h
        obtain ⟨⟨⟨⟨k0, k1⟩, k2⟩, k3⟩, k4⟩ := h
        have e := of_decide_eq_true k0
        subst e
        obtain ⟨hg, hd, hn⟩ := gl_of A k1
        obtain ⟨pt1, ht, hl, nst⟩ := go_tys C A k3
        have p : PE X (.Call (.Name "isinstance" py) [z, .Tuple xs kx pt] [] pos) (tE (mw X cl) ent (lev Φ (n + 1)).e (.isi a ts)) := PE.mono (pe_callB call_isiTD hg (C.blt _ (by decide)) (by decide +kernel) (pa_cons (g.v (ent := ent) k2 C A) (pa_cons (pe_tup pt1) pa_nil) (star_cons (ckE_noStar k2))) hn hd (star_cons (ckE_noStar k2)) rfl) fun σ H Q q => by
          obtain ⟨v, H1, F, s, d', v', S, ev, q⟩ := q
          change stepE Φ (lev Φ n).e (.isi a ts) v = _ at ev
          simp only [stepE] at ev
          split at ev
          · rename_i d v1 ee
            refine tV_of S ee fun u Ha Hb Fa t Sa r => ?_
            refine ⟨by rw [List.length_map, ← hl]; exact size1000 (of_decide_eq_true k4), fun tp htp => ?_⟩
            have ni : isIns d = false := by cases r <;> first | rfl | cases ev
            have ty := ((r.mono Sa.sub).mono (same_new (o := .tup (ts.map V.ty)) htp)).ty ni
            refine ⟨u, tp, _, _, _, _, rfl, upd_same, cls_all ts, ty.1, kit_any ty.2 ht, ?_⟩
            have ev2 : some (Sh.sh, D.bl (ts.any fun t => isiOne (tyOf d) t), v1) = some (s, d', v') := by
              cases r <;> first | exact ev | cases ni
            cases ev2
            have Sb := Sa.laidO (o := .tup (ts.map V.ty)) htp
            exact q _ _ _ _ _ (thnR (v := v) (t.trans ((Tr.laidO htp).weak (fun _ h => h) fun b h => .inr h)) Sb (.bl _))
          · cases ev
        exact ⟨p, fun _ => pt_b p (by intro _; rfl)⟩
      · cases h
    | lrng es =>
      simp only [ckE] at h
      split at h
      · rename_i y py z pz xs p2 pos
        simp only [Bool.and_eq_true] at h
        obtain ⟨⟨⟨⟨k0, k1⟩, k2⟩, k3⟩, k4⟩ := h
        have e := of_decide_eq_true k0
        subst e
        have e := of_decide_eq_true k2
        subst e
        obtain ⟨hg, hd, hn⟩ := gl_of A k1
        obtain ⟨hg2, hd2, hn2⟩ := gl_of A k3
        have ns := all2_noStar k4
        have hl := all2_len k4
        have rg : ∀ (lo hi : Int) {M : Mw} {H1 : Hp}, Rps M H1 (rgV lo hi) (rngOf lo hi) := by
          intro lo hi M H1
          unfold rgV rngOf
          generalize (hi - lo).toNat = m
          generalize List.range m = l
          induction l with
          | nil => exact .nil
          | cons k r ih => exact .cons (.int _) ih
        have p : PE X (.Call (.Name "list" py) [.Call (.Name "range" pz) xs [] p2] [] pos) (tE (mw X cl) ent (lev Φ (n + 1)).e (.lrng es)) := by
          match xs, es, hl, k4, ns with
          | [x1], [e1], _, k4, ns =>
            have k5 := (Bool.and_eq_true_iff.mp k4).1
            refine PE.mono (pe_listRg C.calm hg (C.blt _ (by decide)) (prg_1 hg2 (C.blt _ (by decide)) (g.v (ent := ent) k5 C A) (star_cons (ns x1 (by simp))))) fun σ H Q q => ?_
            obtain ⟨v, H1, F, s, d', v', S, ev, q⟩ := q
            change stepE Φ (lev Φ n).e (.lrng [e1]) v = _ at ev
            simp only [stepE] at ev
            split at ev
            · rename_i b v1 zz
              obtain ⟨d, dr, v2, ee1, ee2, ed⟩ := evs_cons zz
              cases ee2
              cases ed
              split at ev
              · rename_i hb
                cases ev
                refine tV_of S ee1 fun u Ha Hb Fa t Sa r => ?_
                cases r
                refine ⟨b, rfl, ⟨by omega, by omega, hb.1, by omega, by omega⟩, fun a ha => q _ _ _ _ _ ((NewR.lst Sa.sub ha (rg 0 b) (by rw [rngOf_len, sizeLine_eq]; omega)).post Sa t)⟩
              · cases ev
            · rename_i zz
              obtain ⟨d, dr, v2, ee1, ee2, ed⟩ := evs_cons zz
              cases ee2
              cases ed
            · cases ev
          | [x1, x2], [e1, e2], _, k4, ns =>
            have k5 := (Bool.and_eq_true_iff.mp k4).1
            have k6 := (Bool.and_eq_true_iff.mp (Bool.and_eq_true_iff.mp k4).2).1
            refine PE.mono (pe_listRg C.calm hg (C.blt _ (by decide)) (prg_2 hg2 (C.blt _ (by decide)) (g.v (ent := ent) k5 C A) (g.v (ent := ent) k6 C A) (star_cons (ns x1 (by simp))) (star_cons (ns x2 (by simp))) (backTo_plain fun w hw => ns w (by simp at hw; simp [hw])))) fun σ H Q q => ?_
            obtain ⟨v, H1, F, s, d', v', S, ev, q⟩ := q
            change stepE Φ (lev Φ n).e (.lrng [e1, e2]) v = _ at ev
            simp only [stepE] at ev
            split at ev
            · rename_i zz
              obtain ⟨d, dr, v1, ee1, ee2, ed⟩ := evs_cons zz
              obtain ⟨d', dr', v2, ee3, ee4, ed'⟩ := evs_cons ee2
              subst ed'
              cases ed
            · rename_i a b v1 zz
              split at ev
              · rename_i hb
                cases ev
                refine two S zz fun x' y' u w Ha Hb Fa ed t Sa rx ry => ?_
                cases ed
                cases rx
                cases ry
                refine ⟨a, b, rfl, rfl, ⟨hb.1, hb.2.1, hb.2.2.1, hb.2.2.2.1, by omega⟩, fun p hp => q _ _ _ _ _ ((NewR.lst Sa.sub hp (rg a b) (by rw [rngOf_len, sizeLine_eq]; omega)).post Sa t)⟩
              · cases ev
            · cases ev
          | [], [], _, _, _ =>
            refine ⟨fun pins s σ H Q I q => ?_⟩
            obtain ⟨v, H1, F, s, d', v', S, ev, q⟩ := q
            change stepE Φ (lev Φ n).e (.lrng []) v = _ at ev
            simp only [stepE, evs] at ev
            cases ev
          | _ :: _ :: _ :: _, f1 :: f2 :: f3 :: fr, _, _, _ =>
            refine ⟨fun pins s σ H Q I q => ?_⟩
            obtain ⟨v, H1, F, s, d', v', S, ev, q⟩ := q
            change stepE Φ (lev Φ n).e (.lrng (f1 :: f2 :: f3 :: fr)) v = _ at ev
            simp only [stepE] at ev
            split at ev
            · rename_i zz
              obtain ⟨d, dr, v1, ee1, ee2, ed⟩ := evs_cons zz
              obtain ⟨d', dr', v2, ee3, ee4, ed'⟩ := evs_cons ee2
              subst ed'
              cases ed
            · rename_i zz
              obtain ⟨d, dr, v1, ee1, ee2, ed⟩ := evs_cons zz
              obtain ⟨d', dr', v2, ee3, ee4, ed'⟩ := evs_cons ee2
              obtain ⟨d'', dr'', v3, ee5, ee6, ed''⟩ := evs_cons ee4
              subst ed'' ed'
              cases ed
            · cases ev
        exact ⟨p, fun _ => pt_b p (by intro _; rfl)⟩
      · cases h
    | lc vs t it cond e =>
      simp only [ckE] at h
      split at h
      · rename_i elt tg iter ifs scope pos
        split at h
        · rename_i own eo
          simp only [Bool.and_eq_true] at h
          obtain ⟨⟨⟨⟨⟨k1, k2⟩, k3⟩, k4⟩, k5⟩, k6⟩ := h
          have hown := own_of eo
          have hs : ∀ i ∈ t.slots, i ∈ vs := fun i hi => by
            have := List.all_eq_true.mp k3 i hi
            simpa using this
          have ok : BlkOk X.N X.env.scope scope own := by rw [A.n, A.sc]; exact blkOk_by k1
          have ht : ∀ (s : Shared) (H : Hp) (Ca : Addr) (cs : List (Str × Addr)) (fp : List Addr), PTs (X.blk s H scope (compEnvC scope cs Ca X.env) fp) ifs (tCond (mw X cl) ent (lev Φ n).e cond) := by
            intro s H Ca cs fp
            cases cond with
            | none =>
              cases ifs with
              | nil => exact pts_nil
              | cons _ _ => cases k5
            | some ce =>
              cases ifs with
              | nil => cases k5
              | cons cx r =>
                cases r with
                | cons _ _ => cases k5
                | nil =>
                  have k9 := Bool.and_eq_true_iff.mp k5
                  exact pts_one ((g (c.blk scope) cx ce k9.2 (X.blk s H scope (compEnvC scope cs Ca X.env) fp) (C.blk ..) (A.blk ..) ent).2 k9.1)
          have p0 := pe_lc (X := X) (elt := elt) (tg := tg) (iter := iter) (ifs := ifs) (scope := scope) (pos := pos) (g := tG (mw X cl) ent t) (te := tV (mw X cl) ent (lev Φ n).e e) C.calm C.nd (go_it (ent := ent) g C A k4) ok
            (fun s H Ca cs fp => go_tg (Φ := Φ) (ent := ent) n tg t k2 (X.blk s H scope (compEnvC scope cs Ca X.env) fp) (C.blk ..) (A.blk ..)) ht
            (fun s H Ca cs fp => g.v (ent := ent) (X := X.blk s H scope (compEnvC scope cs Ca X.env) fp) k6 (C.blk ..) (A.blk ..))
            (fun x => ckI_noSet k4 _ x)
          have p : PE X (.ListComp elt [⟨tg, iter, ifs, 0⟩] scope pos) (tE (mw X cl) ent (lev Φ (n + 1)).e (.lc vs t it cond e)) := PE.mono p0 fun σ H Q qq => by
            obtain ⟨v, H1, F, s, d', v', S, ev, q⟩ := qq
            change stepE Φ (lev Φ n).e (.lc vs t it cond e) v = _ at ev
            simp only [stepE] at ev
            split at ev
            · rename_i xs v1 e1
              split at ev
              · rename_i ds v2 e2
                cases ev
                rw [hown]
                exact tLc_of hs S e1 e2 q
              · cases ev
            · cases ev
          exact ⟨p, fun _ => pt_b p (by intro _; rfl)⟩
        · cases h
      · cases h
    | lc2 vs t it cond vs1 t1 it1 cond1 e =>
      change ckLc2 N (ckE N n) n c x vs t it cond vs1 t1 it1 cond1 e = true at h
      unfold ckLc2 at h
      split at h
      · rename_i elt tg iter ifs tg1 iter1 ifs1 scope pos
        split at h
        · rename_i own eo
          simp only [Bool.and_eq_true] at h
          obtain ⟨⟨⟨⟨⟨⟨⟨⟨⟨⟨k1, k2⟩, k3⟩, k4⟩, k5⟩, k6⟩, k7⟩, k8⟩, k9⟩, k10⟩, k11⟩ := h
          have hown := own_of eo
          have hs : ∀ i ∈ t.slots, i ∈ vs := fun i hi => by
            have := List.all_eq_true.mp k3 i hi
            simpa using this
          have hs1 : ∀ i ∈ t1.slots, i ∈ vs1 := fun i hi => by
            have := List.all_eq_true.mp k9 i hi
            simpa using this
          have hv : ∀ i ∈ vs1, i ∈ vs := fun i hi => by
            have := List.all_eq_true.mp k7 i hi
            simpa using this
          have ok : BlkOk X.N X.env.scope scope own := by rw [A.n, A.sc]; exact blkOk_by k1
          have ht : ∀ (s : Shared) (H : Hp) (Ca : Addr) (cs : List (Str × Addr)) (fp : List Addr), PTs (X.blk s H scope (compEnvC scope cs Ca X.env) fp) ifs (tCond (mw X cl) ent (lev Φ n).e cond) := by
            intro s H Ca cs fp
            cases cond with
            | none =>
              cases ifs with
              | nil => exact pts_nil
              | cons _ _ => cases k5
            | some ce =>
              cases ifs with
              | nil => cases k5
              | cons cx r =>
                cases r with
                | cons _ _ => cases k5
                | nil =>
                  have k9 := Bool.and_eq_true_iff.mp k5
                  exact pts_one ((g (c.blk scope) cx ce k9.2 (X.blk s H scope (compEnvC scope cs Ca X.env) fp) (C.blk ..) (A.blk ..) ent).2 k9.1)
          have ht1 : ∀ (s : Shared) (H : Hp) (Ca : Addr) (cs : List (Str × Addr)) (fp : List Addr), PTs (X.blk s H scope (compEnvC scope cs Ca X.env) fp) ifs1 (tCond (mw X cl) ent (lev Φ n).e cond1) := by
            intro s H Ca cs fp
            cases cond1 with
            | none =>
              cases ifs1 with
              | nil => exact pts_nil
              | cons _ _ => cases k11
            | some ce =>
              cases ifs1 with
              | nil => cases k11
              | cons cx r =>
                cases r with
                | cons _ _ => cases k11
                | nil =>
                  have k9 := Bool.and_eq_true_iff.mp k11
                  exact pts_one ((g (c.blk scope) cx ce k9.2 (X.blk s H scope (compEnvC scope cs Ca X.env) fp) (C.blk ..) (A.blk ..) ent).2 k9.1)
          have p0 := pe_lc2 (X := X) (elt := elt) (tg := tg) (iter := iter) (ifs := ifs) (tg1 := tg1) (iter1 := iter1) (ifs1 := ifs1) (scope := scope) (pos := pos) (vs1 := vs1) (wi1 := tI (mw X cl) ent (lev Φ n).e it1) (g := tG (mw X cl) ent t) (g1 := tG (mw X cl) ent t1) (te := tV (mw X cl) ent (lev Φ n).e e) C.calm C.nd (go_it (ent := ent) g C A k4) ok (by rw [hown]; exact hv)
            (fun s H Ca cs fp => go_tg (Φ := Φ) (ent := ent) n tg t k2 (X.blk s H scope (compEnvC scope cs Ca X.env) fp) (C.blk ..) (A.blk ..)) ht
            (fun s H Ca cs fp => go_it (ent := ent) (X := X.blk s H scope (compEnvC scope cs Ca X.env) fp) g (C.blk ..) (A.blk ..) k10)
            (fun s H Ca cs fp => go_tg (Φ := Φ) (ent := ent) n tg1 t1 k8 (X.blk s H scope (compEnvC scope cs Ca X.env) fp) (C.blk ..) (A.blk ..)) ht1
            (fun s H Ca cs fp => g.v (ent := ent) (X := X.blk s H scope (compEnvC scope cs Ca X.env) fp) k6 (C.blk ..) (A.blk ..))
            (fun x => ckI_noSet k4 _ x) (fun env x => ckI_noSet k10 env x)
          have p : PE X (.ListComp elt [⟨tg, iter, ifs, 0⟩, ⟨tg1, iter1, ifs1, 0⟩] scope pos) (tE (mw X cl) ent (lev Φ (n + 1)).e (.lc2 vs t it cond vs1 t1 it1 cond1 e)) := PE.mono p0 fun σ H Q qq => by
            obtain ⟨v, H1, F, s, d', v', S, ev, q⟩ := qq
            change stepE Φ (lev Φ n).e (.lc2 vs t it cond vs1 t1 it1 cond1 e) v = _ at ev
            simp only [stepE] at ev
            split at ev
            · rename_i xs v1 e1
              split at ev
              · rename_i ds v2 e2
                cases ev
                rw [hown]
                exact tLc2_of hs hs1 hv S e1 e2 q
              · cases ev
            · cases ev
          exact ⟨p, fun _ => pt_b p (by intro _; rfl)⟩
        · cases h
      · cases h
end Q

set_option Elab.async false
set_option linter.all false
set_option maxRecDepth 100000
set_option maxHeartbeats 8000000
/-! R11: the check of statements; assignments. -/
namespace Q
open PySem L2
/-! ### the check -/
/-- the model's exchange of stores: none: unsupported -/
def swD (c : Sx) (ts vs : List Expr) : Option Bool :=
  let nm := ts.filterMap fun
    | .Name id pos => if c.sc.names.lookup id == some .local && pos.line == (ts.head?.map (·.pos.line)).getD 0 then some id else none
    | _ => none
  if (!(ts.length == 2 || ts.length == 3) || vs.length != ts.length) = true then some false
  else if (vs.any fun | .Starred .. => true | _ => false) = true then some false
  else if (nm.length != ts.length || nm.eraseDups.length != nm.length) = true then some false
  else if vs.all (foldedForSure 8) = true then some false
  else if vs.all (constantsAlone 8) = true then none
  else some true
def swB (c : Sx) (y : Str) (py : Pos) : Expr → Bool
  | .ListComp _ _ scope p => decide (c.sc.names.lookup y = some .local) && py.line == p.line && !(scope.names.any fun (n, k) => n == y && (k == .local || k == .cell))
  | _ => false
def ckN (N : List Str) (c : Sx) : Expr → Nat → Bool
  | .Name y _, i => decide (N[i]? = some y) && locN c y
  | _, _ => false
def allLocal (c : Sx) (ts : List Expr) : Bool := ts.all fun
  | .Name y _ => decide (c.sc.names.lookup y = some .local)
  | _ => false
def noComp : Expr → Bool
  | .ListComp _ _ _ _ => false
  | _ => true
def noTup : Expr → Bool
  | .Tuple _ _ _ => false
  | _ => true
def ckL (p : Stmt → S → Bool) : List Stmt → List S → Bool
  | [], [] => true
  | xs, .fz _ :: ss => ckL p xs ss
  | xs, .wipe _ :: ss => ckL p xs ss
  | x :: xs, s :: ss => p x s && ckL p xs ss
  | _, _ => false
def ckS (N : List Str) : Nat → Sx → Stmt → S → Bool
  | 0, _, _, _ => false
  | n + 1, c, x, .asg t e => (match x with
    | .Assign [tg] val _ => ckT N c n tg t && ckE N n c val e && isTup tg && noTup val
    | _ => false)
  | n + 1, c, x, .set i e => (match x with
    | .Assign [.Name y py] val _ => decide (N[i]? = some y) && locN c y && ckE N n c val e && (!swB c y py val || (match e with
      | .lc _ _ _ _ _ => true
      | _ => false))
    | _ => false)
  | n + 1, c, x, .par ts es => (match x with
    | .Assign [.Tuple tgs _ _] (.Tuple vals _ _) _ => all2 (ckN N c) tgs ts && all2 (ckE N n c) vals es && decide (vals.length < 1000) && decide (ts.Nodup) && decide (tgs.length = vals.length) && (match swD c tgs vals with
      | some true => allLocal c tgs && (tgs.length == 2 || tgs.length == 3)
      | some false => true
      | none => false)
    | _ => false)
  | n + 1, c, x, .expr e => (match x with
    | .Expr val _ => noComp val && ckE N n c val e
    | _ => false)
  | n + 1, c, x, .ret e => (match x with
    | .Return (some val) _ => ckE N n c val e
    | _ => false)
  | _ + 1, _, x, .retN => (match x with
    | .Return none _ => true
    | _ => false)
  | n + 1, c, x, .ite t a b => (match x with
    | .If y z w _ => tst t && ckE N n c y t && ckL (ckS N n c) z a && ckL (ckS N n c) w b
    | _ => false)
  | n + 1, c, x, .for_ t it b => (match x with
    | .For tg iter body [] _ => ckT N c n tg t && ckI (ckE N n c) c tg iter it && ckL (ckS N n c) body b
    | _ => false)
  | n + 1, c, x, .while_ _ t b => (match x with
    | .While y body [] _ => tst t && ckE N n c y t && ckL (ckS N n c) body b
    | _ => false)
  | _ + 1, _, x, .pass => (match x with
    | .Pass _ => true
    | _ => false)
  | _ + 1, _, x, .brk => (match x with
    | .Break _ => true
    | _ => false)
  | _ + 1, _, x, .cont => (match x with
    | .Continue _ => true
    | _ => false)
  | n + 1, c, x, .app p e => (match x with
    | .Expr (.Call (.Attribute px m ap) [val] [] cp) _ => decide (m = "append") && ckPl N c px p && ckE N n c val e && (ap.endLine == cp.line) && (!p.isF || smp e)
    | _ => false)
  | n + 1, c, x, .ext p e => (match x with
    | .Expr (.Call (.Attribute px m ap) [val] [] cp) _ => decide (m = "extend") && ckPl N c px p && ckE N n c val e && (ap.endLine == cp.line) && !p.isF
    | _ => false)
  | n + 1, c, x, .put p k e => (match x with
    | .Assign [.Subscript px ix _] val _ => ckPl N c px p && notSlice ix && ckE N n c ix k && ckE N n c val e && (!p.isF || smp k)
    | _ => false)
  | n + 1, c, x, .fset i k j e => (match x with
    | .Assign [.Attribute (.Name y _) f _] val _ => decide (N[i]? = some y) && visN c y && okName y && decide ((c.ct k).fs[j]? = some f) && ckE N n c val e
    | _ => false)
  | n + 1, c, x, .aug i o e => (match x with
    | .AugAssign (.Name y _) op val _ => decide (N[i]? = some y) && locN c y && decide (op = opOf o) && decide (o = .add ∨ o = .sub) && ckE N n c val e
    | _ => false)
  | _ + 1, _, _, .fz _ => false
  | _ + 1, _, _, .wipe _ => false
  | _ + 1, _, x, .raise_ => (match x with
    | .Raise _ _ _ => true
    | _ => false)

/-! ### facts of assignments -/
section
variable {Φ : Tab} {N : List Str} {n : Nat} {c : Sx} {X : Cx} {cl : Nat → Addr × List Str} {ent : Nat → Option V}
theorem blockKind_of {env : Env} (h : env.scope.kind = .function) : env.blockKind = .function := by unfold Env.blockKind; rw [h]; rfl
theorem ckE_noSC {val : Expr} {e : E} (h : ckE N n c val e = true) : (∀ a b d f, val ≠ .SetComp a b d f) ∧ (∀ a b d f g, val ≠ .DictComp a b d f g) := by
  refine ⟨fun a b d f z => ?_, fun a b d f g z => ?_⟩ <;>
    (subst z
     induction n generalizing e with
     | zero => cases h
     | succ n ih =>
       cases e with
       | pv p => cases p <;> cases h
       | dct ks es => simp only [ckE] at h; split at h <;> cases h
       | bor e => exact ih h
       | frz e => exact ih h
       | _ => cases h)
theorem sw_false {env : Env} {y : Str} {py : Pos} {val : Expr} {l : Nat} {e : E} (hsc : env.scope = c.sc) (hk : env.scope.kind = .function) (h : ckE N n c val e = true) (hb : swB c y py val = false) : swapsWith val (some (.Name y py)) l env = pure false := by
  cases val with
  | ListComp elt gs scope p =>
    have hk' := blockKind_of hk
    unfold swB at hb
    unfold swapsWith
    show (pure (env.blockKind == .function && env.kindOf y == some .local && py.line == p.line && !(scope.names.any fun (n, k) => n == y && (k == .local || k == .cell))) : Sem Bool) = pure false
    rw [hk']
    have e1 : (env.kindOf y == some NameKind.local) = decide (c.sc.names.lookup y = some .local) := by
      unfold Env.kindOf; rw [hsc]
      exact Bool.beq_eq_decide_eq _ _
    rw [e1]
    have e2 : (ScopeKind.function == ScopeKind.function) = true := rfl
    rw [e2, Bool.true_and]
    exact congrArg (pure : Bool → Sem Bool) hb
  | SetComp a b d f => exact absurd rfl ((ckE_noSC h).1 a b d f)
  | DictComp a b d f g => exact absurd rfl ((ckE_noSC h).2 a b d f g)
  | _ => rfl
theorem sw_other {env : Env} {val t : Expr} {l : Nat} (h : noComp val = true) (h2 : ∀ a b d f, val ≠ .SetComp a b d f) (h3 : ∀ a b d f g, val ≠ .DictComp a b d f g) (o : Option Expr) : swapsWith val o l env = pure false := by
  cases val with
  | ListComp _ _ _ _ => cases h
  | SetComp a b d f => exact absurd rfl (h2 a b d f)
  | DictComp a b d f g => exact absurd rfl (h3 a b d f g)
  | _ => rfl
theorem sw_tupT {env : Env} {val : Expr} {xs : List Expr} {k : Nat} {p : Pos} {l : Nat} {e : E} (h : ckE N n c val e = true) : swapsWithSole [.Tuple xs k p] val l env = pure false := by
  show swapsWith val (some (.Tuple xs k p)) l env = pure false
  cases val <;> rfl
theorem sw_subT {env : Env} {val o i : Expr} {p : Pos} {l : Nat} : swapsWithSole [.Subscript o i p] val l env = pure false := by
  show swapsWith val (some (.Subscript o i p)) l env = pure false
  cases val <;> rfl
theorem sw_attT {env : Env} {val o : Expr} {f : Str} {p : Pos} {l : Nat} : swapsWith val (some (.Attribute o f p)) l env = pure false := by
  cases val <;> rfl
theorem sws_none {env : Env} {val : Expr} {xs : List Expr} {k : Nat} {p : Pos} (h : noTup val = true) : swappedStores [.Tuple xs k p] val env = pure none := by
  cases val with
  | Tuple _ _ _ => cases h
  | _ => rfl
theorem sws_of {env : Env} {ts vs : List Expr} {k k2 : Nat} {p p2 : Pos} (hsc : env.scope = c.sc) (hk : env.scope.kind = .function) {b : Bool} (h : swD c ts vs = some b) :
    swappedStores [.Tuple ts k p] (.Tuple vs k2 p2) env = pure (if b = true then some (ts.filterMap fun
    | .Name id pos => if c.sc.names.lookup id == some .local && pos.line == (ts.head?.map (·.pos.line)).getD 0 then some id else none
    | _ => none) else none) := by
  have hk' := blockKind_of hk
  have hkk : ∀ id, env.kindOf id = c.sc.names.lookup id := fun id => by unfold Env.kindOf; rw [hsc]
  have hne : (ScopeKind.function != ScopeKind.function) = false := rfl
  unfold swappedStores
  simp only [hk', hkk, hne, Bool.or_false]
  unfold swD at h
  simp only at h
  split at h
  · rename_i h1
    cases h
    refine (if_pos ?_).trans ?_
    · exact h1
    rfl
  · rename_i h1
    refine (if_neg ?_).trans ?_
    · exact h1
    split at h
    · rename_i h2
      cases h
      refine (if_pos ?_).trans ?_
      · exact h2
      rfl
    · rename_i h2
      refine (if_neg ?_).trans ?_
      · exact h2
      split at h
      · rename_i h3
        cases h
        refine (if_pos ?_).trans ?_
        · exact h3
        rfl
      · rename_i h3
        refine (if_neg ?_).trans ?_
        · exact h3
        split at h
        · rename_i h4
          cases h
          refine (if_pos ?_).trans ?_
          · exact h4
          rfl
        · rename_i h4
          refine (if_neg ?_).trans ?_
          · exact h4
          split at h
          · cases h
          · rename_i h5
            cases h
            refine (if_neg ?_).trans ?_
            · exact h5
            rfl
end
end Q

set_option Elab.async false
set_option linter.all false
set_option maxRecDepth 100000
set_option maxHeartbeats 8000000
/-! R12: shaped values in a row; several names at once. -/
namespace Q
open PySem L2
inductive RSl (M : Mw) (H1 H : Hp) : List (Sh × D) → List V → List (List Addr) → Prop
  | nil : RSl M H1 H [] [] []
  | cons {s : Sh} {d : D} {u : V} {f : List Addr} {sds : List (Sh × D)} {us : List V} {fs : List (List Addr)} : RS M H1 H s u d f → RSl M H1 H sds us fs → RSl M H1 H ((s, d) :: sds) (u :: us) (f :: fs)
def tAs (M : Mw) (ent : Nat → Option V) (L : LE) (es : List E) : TA := fun σ H Q => ∃ v H1 F sds v', SV M ent σ v H1 H F ∧ evss L es v = some (sds, v') ∧
  ∀ us H1' H' F' fs, Tr (OF F) H1 H H1' H' (fun b => OF F' b ∨ MF fs b) → SV M ent σ v' H1' H' F' → RSl M H1' H' sds us fs → Sep fs → (∀ b, MF fs b → ¬ OF F' b) → (∀ b, MF fs b → H1' b = none) → Q us H'
section
variable {M : Mw} {ent : Nat → Option V} {σ : L2.St} {v v' : Ev} {H1 H H1' H' : Hp} {F F' : Nat → List Addr} {L : LE} {sds : List (Sh × D)} {us : List V} {fs : List (List Addr)}
theorem mf_cons {f : List Addr} {fs : List (List Addr)} {b : Addr} : MF (f :: fs) b ↔ b ∈ f ∨ MF fs b := by
  constructor
  · rintro ⟨g, hg, hb⟩
    rcases List.mem_cons.mp hg with rfl | hg
    · exact .inl hb
    · exact .inr ⟨g, hg, hb⟩
  · rintro (h | ⟨g, hg, hb⟩)
    · exact ⟨f, by simp, h⟩
    · exact ⟨g, by simp [hg], hb⟩
theorem sep_cons {f : List Addr} {fs : List (List Addr)} (h : Sep fs) (d : ∀ b ∈ f, ¬ MF fs b) : Sep (f :: fs) := by
  intro i j a b x hi hj ha hb
  match i, j with
  | 0, 0 => rfl
  | 0, j + 1 =>
    exfalso
    cases hi
    exact d x ha ⟨b, List.mem_of_getElem? (by simpa using hj), hb⟩
  | i + 1, 0 =>
    exfalso
    cases hj
    exact d x hb ⟨a, List.mem_of_getElem? (by simpa using hi), ha⟩
  | i + 1, j + 1 =>
    have := h i j a b x (by simpa using hi) (by simpa using hj) ha hb
    omega
theorem sep_tail {f : List Addr} {fs : List (List Addr)} (h : Sep (f :: fs)) : Sep fs ∧ ∀ b ∈ f, ¬ MF fs b := by
  refine ⟨fun i j a b x hi hj ha hb => ?_, fun b hb ⟨g, hg, hbg⟩ => ?_⟩
  · have := h (i + 1) (j + 1) a b x (by simpa using hi) (by simpa using hj) ha hb
    omega
  · obtain ⟨k, hk⟩ := List.getElem?_of_mem hg
    have := h 0 (k + 1) f g b rfl (by simpa using hk) hb hbg
    omega
theorem evss_cons {e : E} {r : List E} (h : evss L (e :: r) v = some (sds, v')) : ∃ s d sr v1, L e v = some (s, d, v1) ∧ evss L r v1 = some (sr, v') ∧ sds = (s, d) :: sr := by
  simp only [evss] at h
  cases z : L e v with
  | none => rw [z] at h; cases h
  | some p =>
    obtain ⟨s, d, v1⟩ := p
    rw [z] at h
    dsimp only at h
    cases y : evss L r v1 with
    | none => rw [y] at h; cases h
    | some q =>
      rw [y] at h
      cases h
      exact ⟨s, d, _, v1, rfl, y, rfl⟩
theorem evss_len : ∀ {es : List E} {v v' : Ev} {sds : List (Sh × D)}, evss L es v = some (sds, v') → sds.length = es.length
  | [], _, _, _, h => by cases h; rfl
  | e :: r, v, v', ds, h => by
    obtain ⟨s, d, sr, v1, _, h2, rfl⟩ := evss_cons h
    rw [List.length_cons, List.length_cons, evss_len h2]
theorem RSl.len (h : RSl M H1 H sds us fs) : us.length = sds.length := by
  induction h with
  | nil => rfl
  | cons _ _ ih => simp [ih]
theorem tAs_cons {e : E} {r : List E} {Q : List V → Hp → Prop} (h : tAs M ent L (e :: r) σ H Q) : tCons (tE M ent L e) (tAs M ent L r) σ H Q := by
  obtain ⟨v, H1, F, sds, v', S, ev, q⟩ := h
  obtain ⟨s, d, sr, v1, e1, e2, rfl⟩ := evss_cons ev
  refine ⟨v, H1, F, s, d, v1, S, e1, fun u Ha Hb Fa f p => ⟨v1, Ha, Fa, sr, v', p.sv, e2, fun us Hc Hd Fc fs t Sc rl sp ap dj => ?_⟩⟩
  have there : ∀ b ∈ f, Hb b ≠ none := fun b hb hn => by
    exact p.rs.there b hb hn
  have apf : ∀ b ∈ f, ¬ (OF Fc b ∨ MF fs b) := fun b hb z => by
    rcases t.own b z with z | z
    · exact there b hb z
    · exact p.ap b hb z
  have djf : ∀ b ∈ f, Hc b = none := fun b hb => by
    cases zz : Hc b with
    | none => rfl
    | some o =>
      rcases t.new b (by rw [zz]; simp) with z | z | z
      · exact absurd (p.dj b hb) z
      · exact absurd z (there b hb)
      · exact absurd z (p.ap b hb)
  refine q (u :: us) Hc Hd Fc (f :: fs) (p.tr.trans (t.weak (fun b z => .inl z) fun b z => ?_)) Sc (.cons (p.rs.step t.mono fun b o hb e => t.frame b o e (p.ap b hb)) rl) (sep_cons sp fun b hb z => apf b hb (.inr z)) (fun b z => ?_) fun b z => ?_
  · rcases z with z | z
    · exact .inl (.inl z)
    · rcases mf_cons.mp z with z | z
      · exact .inr (.inr z)
      · exact .inl (.inr z)
  · rcases mf_cons.mp z with z | z
    · exact fun w => apf b z (.inl w)
    · exact ap b z
  · rcases mf_cons.mp z with z | z
    · exact djf b z
    · exact dj b z
/-- several names take values -/
theorem SV.setNs : ∀ {ts : List Nat} {sds : List (Sh × D)} {us : List V} {fs : List (List Addr)} {σ : L2.St} {v v' : Ev} {F : Nat → List Addr}, SV M ent σ v H1 H F → RSl M H1 H sds us fs → Sep fs → (∀ b, MF fs b → ¬ OF F b) → (∀ b, MF fs b → H1 b = none) → _root_.Q.setNs ts sds v = some v' →
    ∃ F', SV M ent ((ts.zip us).foldl (fun σ p => σ.set p.1 (some p.2)) σ) v' H1 H F' ∧ ∀ b, OF F' b → OF F b ∨ MF fs b
  | [], _, _, _, σ, v, v', F, S, .nil, _, _, _, h => by cases h; exact ⟨F, S, fun b z => .inl z⟩
  | i :: is, _, _, _, σ, v, v', F, S, @RSl.cons _ _ _ s d u f sds us fs r rl, sp, ap, dj, h => by
    simp only [_root_.Q.setNs] at h
    split at h
    · rename_i v1 z
      obtain ⟨sp1, sp2⟩ := sep_tail sp
      obtain ⟨S1, _⟩ := S.setN r (fun b hb => ap b (mf_cons.mpr (.inl hb))) (fun b hb => dj b (mf_cons.mpr (.inl hb))) z
      obtain ⟨F', S', hF⟩ := SV.setNs S1 rl sp1 (fun b hb ⟨j, hj⟩ => by
        try dsimp only at hj
        split at hj
        · exact sp2 b hj hb
        · exact ap b (mf_cons.mpr (.inr hb)) ⟨j, hj⟩) (fun b hb => dj b (mf_cons.mpr (.inr hb))) h
      refine ⟨F', S', fun b hb => ?_⟩
      rcases hF b hb with ⟨j, hj⟩ | hj
      · try dsimp only at hj
        split at hj
        · exact .inr (mf_cons.mpr (.inl hj))
        · exact .inl ⟨j, hj⟩
      · exact .inr (mf_cons.mpr (.inr hj))
    · cases h
  | [], _, _, _, _, _, _, _, _, .cons _ _, _, _, _, h => by cases h
  | _ :: _, _, _, _, _, _, _, _, _, .nil, _, _, _, h => by cases h
end
def tGn (M : Mw) (ent : Nat → Option V) (ts : List Nat) : TGs := fun us σ H Q => ∃ v H1 F sds fs v', SV M ent σ v H1 H F ∧ RSl M H1 H sds us fs ∧ Sep fs ∧ (∀ b, MF fs b → ¬ OF F b) ∧ (∀ b, MF fs b → H1 b = none) ∧ _root_.Q.setNs ts sds v = some v' ∧
  ∀ σ' F', (∀ b, OF F' b → OF F b ∨ MF fs b) → SV M ent σ' v' H1 H F' → Q σ' H
section
variable {Φ : Tab} {N : List Str} {n : Nat} {c : Sx} {X : Cx} {cl : Nat → Addr × List Str} {ent : Nat → Option V}
theorem ckN_of {x : Expr} {i : Nat} (h : ckN N c x i = true) : ∃ y p, x = .Name y p ∧ N[i]? = some y ∧ locN c y = true := by
  cases x with
  | Name y p =>
    have h' := Bool.and_eq_true_iff.mp h
    exact ⟨y, p, rfl, of_decide_eq_true h'.1, h'.2⟩
  | _ => cases h
theorem go_gn (C : Cn Φ cl X) (A : At Φ.cl X N c) : ∀ {xs : List Expr} {ts : List Nat}, all2 (ckN N c) xs ts = true → PGs X xs (tGn (mw X cl) ent ts)
  | [], [], _ => PGs.mono pgs_nil fun us σ H Q q => by
    obtain ⟨v, H1, F, sds, fs, v', S, r, sp, ap, dj, e, q⟩ := q
    cases r with
    | nil => cases e; exact ⟨rfl, q σ F (fun b z => .inl z) S⟩
    | cons _ _ => cases e
  | x :: r, t :: ts, h => by
    have h' := Bool.and_eq_true_iff.mp h
    obtain ⟨y, p, rfl, k1, k2⟩ := ckN_of h'.1
    obtain ⟨l1, l2⟩ := loc_of A k2
    refine PGs.mono (pgs_cons (pg_name (i := t) C.nd (by rw [A.n]; exact k1) l1 l2) (go_gn C A h'.2) rfl) fun us σ H Q q => ?_
    obtain ⟨v, H1, F, sds, fs, v', S, rl, sp, ap, dj, e, q⟩ := q
    cases rl with
    | nil => cases e
    | @cons s d u f sds us fs r rl =>
      simp only [_root_.Q.setNs] at e
      split at e
      · rename_i v1 z
        obtain ⟨sp1, sp2⟩ := sep_tail sp
        obtain ⟨S1, _⟩ := S.setN r (fun b hb => ap b (mf_cons.mpr (.inl hb))) (fun b hb => dj b (mf_cons.mpr (.inl hb))) z
        refine ⟨u, us, rfl, v1, H1, _, sds, fs, v', S1, rl, sp1, (fun b hb ⟨j, hj⟩ => ?_), (fun b hb => dj b (mf_cons.mpr (.inr hb))), e, fun σ' F' hF S' => q σ' F' (fun b hb => ?_) S'⟩
        · try dsimp only at hj
          split at hj
          · exact sp2 b hj hb
          · exact ap b (mf_cons.mpr (.inr hb)) ⟨j, hj⟩
        · rcases hF b hb with ⟨j, hj⟩ | hj
          · try dsimp only at hj
            split at hj
            · exact .inr (mf_cons.mpr (.inl hj))
            · exact .inl ⟨j, hj⟩
          · exact .inr (mf_cons.mpr (.inr hj))
      · cases e
  | [], _ :: _, h => by cases h
  | _ :: _, [], h => by cases h
theorem GoE.alls (g : GoE Φ cl N n) (C : Cn Φ cl X) (A : At Φ.cl X N c) : ∀ {xs : List Expr} {es : List E}, all2 (ckE N n c) xs es = true → PA X xs (tAs (mw X cl) ent (lev Φ n).e es)
  | [], [], _ => PA.mono pa_nil fun σ H Q q => by
    obtain ⟨v, H1, F, sds, v', S, e, q⟩ := q
    cases e
    exact q [] H1 H F [] (Tr.refl fun b z => by
      rcases z with z | ⟨f, hf, _⟩
      · exact z
      · simp at hf) S .nil (fun i j f g b hi => by simp at hi) (fun b ⟨f, hf, _⟩ => by simp at hf) (fun b ⟨f, hf, _⟩ => by simp at hf)
  | x :: r, e :: es, h => by
    have h' := Bool.and_eq_true_iff.mp h
    exact PA.mono (pa_cons (g c x e h'.1 X C A ent).1 (GoE.alls g C A h'.2) (star_cons (ckE_noStar h'.1))) fun _ _ _ q => tAs_cons q
  | [], _ :: _, h => by cases h
  | _ :: _, [], h => by cases h
/-- the parts of a comprehension -/
theorem lc_parts (g : GoE Φ cl N n) (C : Cn Φ cl X) (A : At Φ.cl X N c) {elt : Expr} {gs : List Comprehension} {scope : Scope} {pos : Pos} {vs : List Nat} {t : Tg} {it : It} {cond : Option E} {e : E} (h : ckE N (n + 1) c (.ListComp elt gs scope pos) (.lc vs t it cond e) = true) :
    ∃ tg iter ifs own, gs = [⟨tg, iter, ifs, 0⟩] ∧ own.map (·.2) = vs ∧ (∀ i ∈ t.slots, i ∈ vs) ∧ BlkOk X.N X.env.scope scope own ∧ PI X tg iter (tI (mw X cl) ent (lev Φ n).e it) ∧
      (∀ (s : Shared) (H : Hp) (Ca : Addr) (cs : List (Str × Addr)) (fp : List Addr), PG (X.blk s H scope (compEnvC scope cs Ca X.env) fp) tg (tG (mw X cl) ent t)) ∧
      (∀ (s : Shared) (H : Hp) (Ca : Addr) (cs : List (Str × Addr)) (fp : List Addr), PTs (X.blk s H scope (compEnvC scope cs Ca X.env) fp) ifs (tCond (mw X cl) ent (lev Φ n).e cond)) ∧
      (∀ (s : Shared) (H : Hp) (Ca : Addr) (cs : List (Str × Addr)) (fp : List Addr), PE (X.blk s H scope (compEnvC scope cs Ca X.env) fp) elt (tV (mw X cl) ent (lev Φ n).e e)) ∧ ∀ x, foldedSetIterable iter X.env x = pure x := by
  simp only [ckE] at h
  split at h
  · rename_i elt' tg iter ifs scope' pos' ex
    cases ex
    split at h
    · rename_i own eo
      simp only [Bool.and_eq_true] at h
      obtain ⟨⟨⟨⟨⟨k1, k2⟩, k3⟩, k4⟩, k5⟩, k6⟩ := h
      refine ⟨tg, iter, ifs, own, rfl, own_of eo, fun i hi => by simpa using List.all_eq_true.mp k3 i hi, by rw [A.n, A.sc]; exact blkOk_by k1, go_it (ent := ent) g C A k4,
        fun s H Ca cs fp => go_tg (Φ := Φ) (ent := ent) n tg t k2 (X.blk s H scope (compEnvC scope cs Ca X.env) fp) (C.blk ..) (A.blk ..), fun s H Ca cs fp => ?_,
        fun s H Ca cs fp => g.v (ent := ent) (X := X.blk s H scope (compEnvC scope cs Ca X.env) fp) k6 (C.blk ..) (A.blk ..), fun x => ckI_noSet k4 _ x⟩
      cases cond with
      | none =>
        cases ifs with
        | nil => exact pts_nil
        | cons _ _ => cases k5
      | some ce =>
        cases ifs with
        | nil => cases k5
        | cons cx r =>
          cases r with
          | cons _ _ => cases k5
          | nil =>
            have k9 := Bool.and_eq_true_iff.mp k5
            exact pts_one ((g (c.blk scope) cx ce k9.2 (X.blk s H scope (compEnvC scope cs Ca X.env) fp) (C.blk ..) (A.blk ..) ent).2 k9.1)
    · cases h
  · cases h
end
end Q

set_option Elab.async false
set_option linter.all false
set_option maxRecDepth 100000
set_option maxHeartbeats 8000000
/-! R13: statements are sound. -/
namespace Q
open PySem L2
def EndS (M : Mw) (ent : Nat → Option V) (F : Nat → List Addr) (H1 H : Hp) (Dn : Ends) : Out → Prop
  | .nx v' => ∀ σ' H1' H' F', Tr (OF F) H1 H H1' H' (OF F') → SV M ent σ' v' H1' H' F' → Dn.nx σ' H'
  | .bk v' => ∀ σ' H1' H' F', Tr (OF F) H1 H H1' H' (OF F') → SV M ent σ' v' H1' H' F' → Dn.bk σ' H'
  | .ct v' => ∀ σ' H1' H' F', Tr (OF F) H1 H H1' H' (OF F') → SV M ent σ' v' H1' H' F' → Dn.ct σ' H'
  | .rt s d v' => ∀ σ' u H1' H' F' f, Post M ent σ' F H1 H s d v' u H1' H' F' f → Dn.rt u H'
def tS (M : Mw) (ent : Nat → Option V) (LSt : LS) (s : S) : TS := fun Dn σ H => ∃ v H1 F o, SV M ent σ v H1 H F ∧ LSt s v = some o ∧ EndS M ent F H1 H Dn o
def tSs (M : Mw) (ent : Nat → Option V) (LSt : LS) (ss : List S) : TS := fun Dn σ H => ∃ v H1 F o, SV M ent σ v H1 H F ∧ ebs LSt ss v = some o ∧ EndS M ent F H1 H Dn o
section
variable {M : Mw} {ent : Nat → Option V} {σ : L2.St} {v v' : Ev} {H1 H H1' H' : Hp} {F F' : Nat → List Addr}
theorem EndS.step {Dn : Ends} {o : Out} (e : EndS M ent F H1 H Dn o) (t : Tr (OF F) H1 H H1' H' (OF F')) : EndS M ent F' H1' H' Dn o := by
  cases o with
  | nx v' => exact fun σ' a b c t' S' => e σ' a b c (t.trans t') S'
  | bk v' => exact fun σ' a b c t' S' => e σ' a b c (t.trans t') S'
  | ct v' => exact fun σ' a b c t' S' => e σ' a b c (t.trans t') S'
  | rt s d v' => exact fun σ' u a b c f p => e σ' u a b c f ⟨t.trans p.tr, p.sv, p.rs, p.ap, p.dj⟩
/-- an owned list is shared from now on -/
theorem SV.fz (S : SV M ent σ v H1 H F) {i : Nat} {s : Sh} {d : D} (e : v[i]? = some (.at false s d)) (hs : s ≠ .fro) :
    SV M ent σ (v.set i (.at false .sh d)) (join H1 H (F i)) H (fun j => if j = i then [] else F j) ∧ Tr (OF F) H1 H (join H1 H (F i)) H (OF fun j => if j = i then [] else F j) := by
  obtain ⟨u, h1, h2, _⟩ := S.slot i _ e
  have hi : i < v.length := (List.getElem?_eq_some_iff.mp e).1
  have dj : ∀ b ∈ F i, H1 b = none := fun b hb => S.dis i b hb
  have sub' : ∀ b, (OF fun j => if j = i then [] else F j) b → OF F b := fun b ⟨j, hj⟩ => by
    try dsimp only at hj
    split at hj
    · simp at hj
    · exact ⟨j, hj⟩
  refine ⟨⟨join_sub S.sub, by simpa using S.len, fun j sl ej => ?_, fun j hj => ?_, fun j k b hj hk => ?_, fun j b hj => ?_⟩, ⟨join_up dj, fun _ _ h _ => h, fun b h => ?_, fun b h => .inr (sub' b h)⟩⟩
  · by_cases hj : j = i
    · subst hj
      rw [List.getElem?_set_self hi] at ej
      cases ej
      exact ⟨u, h1, by rw [if_pos rfl]; exact ⟨h2.froze dj hs, rfl⟩, fun z => by cases z⟩
    · rw [List.getElem?_set_ne (Ne.symm hj)] at ej
      rw [if_neg hj]
      have q := S.slot j sl ej
      cases sl with
      | no => exact q
      | «at» io sh d' =>
        obtain ⟨w, a1, a2, a3⟩ := q
        exact ⟨w, a1, a2.step (join_up dj) fun b o _ h => h, a3⟩
  · have hj' : v.length ≤ j := by simpa using hj
    rw [if_neg (by omega)]
    exact S.out j hj'
  · try dsimp only at hj hk
    split at hj
    · simp at hj
    · split at hk
      · simp at hk
      · exact S.nd j k b hj hk
  · try dsimp only at hj
    split at hj
    · simp at hj
    · rename_i hne
      unfold join
      rw [if_neg (fun z => hne (S.nd j i b hj z))]
      exact S.dis j b hj
  · unfold join at h
    split at h
    · rename_i z
      exact .inr (.inr ⟨i, z⟩)
    · exact .inl h
end
abbrev GoS (Φ : Tab) (cl : Nat → Addr × List Str) (N : List Str) (n : Nat) : Prop := ∀ (c : Sx) (x : Stmt) (s : S), c.sc.kind = .function → ckS N n c x s = true → ∀ X, Cn Φ cl X → At Φ.cl X N c → ∀ ent, PS X x (tS (mw X cl) ent (lev Φ n).s s)
section
variable {Φ : Tab} {N : List Str} {n : Nat} {c : Sx} {X : Cx} {cl : Nat → Addr × List Str} {ent : Nat → Option V}
theorem GoS.block (g : GoS Φ cl N n) (hk : c.sc.kind = .function) (C : Cn Φ cl X) (A : At Φ.cl X N c) : ∀ {ss : List S} {xs : List Stmt}, ckL (ckS N n c) xs ss = true → PSs X xs (tSs (mw X cl) ent (lev Φ n).s ss)
  | [], xs, h => by
    cases xs with
    | nil =>
      refine PSs.mono pss_nil fun Dn σ H q => ?_
      obtain ⟨v, H1, F, o, S, e, q⟩ := q
      cases e
      exact q σ H1 H F (Tr.refl fun _ z => z) S
    | cons _ _ => cases h
  | s :: ss, xs, h => by
    by_cases hw : ∃ is, s = .wipe is
    · obtain ⟨is, rfl⟩ := hw
      have h' : ckL (ckS N n c) xs ss = true := by cases xs <;> exact h
      refine PSs.mono (GoS.block g hk C A h') fun Dn σ H q => ?_
      obtain ⟨v, H1, F, o, S, e, q⟩ := q
      simp only [ebs] at e
      cases z : (lev Φ n).s (.wipe is) v with
      | none => rw [z] at e; cases e
      | some r =>
        rw [z] at e
        cases n with
        | zero => cases z
        | succ m =>
          change stepS (lev Φ m).e (lev Φ m).s (.wipe is) v = some r at z
          simp only [stepS] at z
          cases z
          obtain ⟨F', hF, S'⟩ := S.wipe is
          exact ⟨_, _, _, o, S'.unwipe, e, q.step (Tr.refl hF)⟩
    by_cases hs : ∃ i, s = .fz i
    · obtain ⟨i, rfl⟩ := hs
      have h' : ckL (ckS N n c) xs ss = true := by cases xs <;> exact h
      refine PSs.mono (GoS.block g hk C A h') fun Dn σ H q => ?_
      obtain ⟨v, H1, F, o, S, e, q⟩ := q
      simp only [ebs] at e
      cases z : (lev Φ n).s (.fz i) v with
      | none => rw [z] at e; cases e
      | some r =>
        rw [z] at e
        cases n with
        | zero => cases z
        | succ m =>
          change stepS (lev Φ m).e (lev Φ m).s (.fz i) v = some r at z
          simp only [stepS] at z
          split at z
          · cases z
          · rename_i s d hs ed
            cases z
            obtain ⟨S', t⟩ := S.fz ed (fun z => hs z)
            exact ⟨_, _, _, o, S', e, q.step t⟩
          · cases z
    · cases xs with
      | nil => cases s <;> first | (cases h; done) | exact absurd ⟨_, rfl⟩ hs | exact absurd ⟨_, rfl⟩ hw
      | cons x xs =>
        have h' : (ckS N n c x s && ckL (ckS N n c) xs ss) = true := by
          cases s <;> first | exact h | exact absurd ⟨_, rfl⟩ hs | exact absurd ⟨_, rfl⟩ hw
        obtain ⟨h1, h2⟩ := Bool.and_eq_true_iff.mp h'
        refine PSs.mono (pss_cons (g c x s hk h1 X C A ent) (GoS.block g hk C A h2)) fun Dn σ H q => ?_
        obtain ⟨v, H1, F, o, S, e, q⟩ := q
        simp only [ebs] at e
        cases z : (lev Φ n).s s v with
        | none => rw [z] at e; cases e
        | some r =>
          rw [z] at e
          refine ⟨v, H1, F, r, S, z, ?_⟩
          cases r with
          | nx v1 => exact fun σ' a b c' t S' => ⟨v1, a, c', o, S', e, q.step t⟩
          | bk v1 => cases e; exact q
          | ct v1 => cases e; exact q
          | rt s d v1 => cases e; exact q
theorem ite_some {c : Prop} [Decidable c] {x b : Str} (h : (if c then some x else none) = some b) : b = x := by
  split at h
  · cases h; rfl
  · cases h
theorem nm2 {sc : Scope} {x y : Str} {px py : Pos} {l : Nat} (h : ([Expr.Name x px, Expr.Name y py].filterMap fun | .Name id pos => if (sc.names.lookup id == some .local && pos.line == l) = true then some id else none | _ => none).length = 2) :
    ([Expr.Name x px, Expr.Name y py].filterMap fun | .Name id pos => if (sc.names.lookup id == some .local && pos.line == l) = true then some id else none | _ => none) = [x, y] := by
  simp only [List.filterMap_cons, List.filterMap_nil] at h ⊢
  split at h
  · split at h <;> simp at h
  · split at h
    · simp at h
    · rename_i _ b1 e1 _ b2 e2
      rw [ite_some e1, ite_some e2]
theorem nm3 {sc : Scope} {x y z : Str} {px py pz : Pos} {l : Nat} (h : ([Expr.Name x px, Expr.Name y py, Expr.Name z pz].filterMap fun | .Name id pos => if (sc.names.lookup id == some .local && pos.line == l) = true then some id else none | _ => none).length = 3) :
    ([Expr.Name x px, Expr.Name y py, Expr.Name z pz].filterMap fun | .Name id pos => if (sc.names.lookup id == some .local && pos.line == l) = true then some id else none | _ => none) = [x, y, z] := by
  simp only [List.filterMap_cons, List.filterMap_nil] at h ⊢
  split at h
  · split at h
    · split at h <;> simp at h
    · split at h <;> simp at h
  · split at h
    · split at h <;> simp at h
    · split at h
      · simp at h
      · rename_i _ b1 e1 _ b2 e2 _ b3 e3
        rw [ite_some e1, ite_some e2, ite_some e3]
theorem swD_len {ts vs : List Expr} (h : swD c ts vs = some true) : (ts.filterMap fun | .Name id pos => if (c.sc.names.lookup id == some .local && pos.line == (ts.head?.map (·.pos.line)).getD 0) = true then some id else none | _ => none).length = ts.length := by
  unfold swD at h
  simp only at h
  split at h
  · cases h
  · split at h
    · cases h
    · split at h
      · cases h
      · rename_i h3
        simp only [Bool.or_eq_true, not_or, bne_iff_ne, ne_eq, Decidable.not_not] at h3
        exact h3.1
end
end Q

set_option Elab.async false
set_option linter.all false
set_option maxRecDepth 100000
set_option maxHeartbeats 8000000
/-! R14: every statement. -/
namespace Q
open PySem L2
theorem RSl.stepH {M : Mw} {H1 H H' : Hp} (k : ∀ b o, H b = some o → H' b = some o) : ∀ {sds : List (Sh × D)} {us : List V} {fs : List (List Addr)}, RSl M H1 H sds us fs → RSl M H1 H' sds us fs
  | _, _, _, .nil => .nil
  | _, _, _, .cons r t => .cons (r.step (fun _ _ h => h) fun b o _ h => k b o h) (RSl.stepH k t)
theorem forGo_cons {LSt : LS} {t : Tg} {b : List S} {x : D} {r : List D} {v : Ev} {o : Out} (h : forGo LSt t b (x :: r) v = some o) :
    ∃ v1 o1, asgT t x v = some v1 ∧ ebs LSt b v1 = some o1 ∧ (match o1 with
      | .nx v2 => forGo LSt t b r v2 = some o
      | .ct v2 => forGo LSt t b r v2 = some o
      | .bk v2 => o = .nx v2
      | .rt s d v2 => o = .rt s d v2) := by
  simp only [forGo] at h
  cases z : asgT t x v with
  | none => rw [z] at h; cases h
  | some v1 =>
    rw [z] at h
    dsimp only at h
    cases y : ebs LSt b v1 with
    | none => rw [y] at h; cases h
    | some o1 =>
      rw [y] at h
      refine ⟨v1, o1, rfl, y, ?_⟩
      cases o1 with
      | nx v2 => exact h
      | ct v2 => exact h
      | bk v2 => cases h; rfl
      | rt s d v2 => cases h; rfl
theorem whGo_succ {L : LE} {LSt : LS} {t : E} {b : List S} {m : Nat} {v : Ev} {o : Out} (h : whGo L LSt t b m v = some o) :
    ∃ m' k v1, m = m' + 1 ∧ evt L t v = some (k, v1) ∧ (if k = true then ∃ o1, ebs LSt b v1 = some o1 ∧ (match o1 with
      | .nx v2 => whGo L LSt t b m' v2 = some o
      | .ct v2 => whGo L LSt t b m' v2 = some o
      | .bk v2 => o = .nx v2
      | .rt s d v2 => o = .rt s d v2) else o = .nx v1) := by
  cases m with
  | zero => cases h
  | succ m =>
    simp only [whGo] at h
    cases z : evt L t v with
    | none => rw [z] at h; cases h
    | some p =>
      obtain ⟨k, v1⟩ := p
      rw [z] at h
      refine ⟨m, k, v1, rfl, rfl, ?_⟩
      cases k with
      | false =>
        rw [if_neg Bool.false_ne_true]
        cases h; rfl
      | true =>
        rw [if_pos rfl]
        dsimp only at h
        cases y : ebs LSt b v1 with
        | none => rw [y] at h; cases h
        | some o1 =>
          rw [y] at h
          refine ⟨o1, rfl, ?_⟩
          cases o1 with
          | nx v2 => exact h
          | ct v2 => exact h
          | bk v2 => cases h; rfl
          | rt s d v2 => cases h; rfl
section
variable {Φ : Tab} {N : List Str} {n : Nat} {c : Sx} {X : Cx} {cl : Nat → Addr × List Str} {ent : Nat → Option V}
theorem go_for (gE : GoE Φ cl N n) (gS : GoS Φ cl N n) (hk : c.sc.kind = .function) (C : Cn Φ cl X) (A : At Φ.cl X N c) {tg iter : Expr} {body : List Stmt} {pos : Pos} {t : Tg} {it : It} {b : List S} (k1 : ckT N c n tg t = true) (k2 : ckI (ckE N n c) c tg iter it = true) (k3 : ckL (ckS N n c) body b = true) :
    PS X (.For tg iter body [] pos) (tS (mw X cl) ent (lev Φ (n + 1)).s (.for_ t it b)) := by
  have hp : PassesOwn (model X.prog X.w) X.A X.env X.xe := by rw [C.xe]; exact PassesOwn.never
  refine PS.mono (ps_for hp C.calm (go_it (ent := ent) gE C A k2) (go_tg (Φ := Φ) (ent := ent) n tg t k1 X C A) (gS.block (ent := ent) hk C A k3) (fun x => ckI_noSet k2 _ x)) fun Dn σ H q => ?_
  obtain ⟨v, H1, F, o, S, ev, q⟩ := q
  change stepS (lev Φ n).e (lev Φ n).s (.for_ t it b) v = _ at ev
  simp only [stepS] at ev
  split at ev
  · rename_i xs v1 e1
    refine ⟨v, H1, F, xs, v1, S, e1, fun J Ha Hb Fa ta Sa wk hz => ?_⟩
    have q' := q.step ta
    refine ⟨fun i m σc Hc => ∃ vc H1c Fc, i ≤ xs.length ∧ m = xs.length - i ∧ Same Ha H1c ∧ SV (mw X cl) ent σc vc H1c Hc Fc ∧ Tr (OF Fa) Ha Hb H1c Hc (OF Fc) ∧ forGo (lev Φ n).s t b (xs.drop i) vc = some o,
      ⟨xs.length, v1, Ha, Fa, Nat.zero_le _, by simp, fun _ _ h => h, Sa, Tr.refl fun _ h => h, by simpa using ev⟩, ?_⟩
    rintro i m σc Hc ⟨vc, H1c, Fc, hi, rfl, sm, Sc, tc, go⟩
    have sc : Same Ha Hc := fun b o h => Sc.sub b o (sm b o h)
    by_cases hlt : i < xs.length
    · refine .inr ⟨wk.go i Hc sc hlt, fun σn Hn => ∃ vc H1c Fc, Same Ha H1c ∧ SV (mw X cl) ent σn vc H1c Hn Fc ∧ Tr (OF Fa) Ha Hb H1c Hn (OF Fc) ∧ forGo (lev Φ n).s t b (xs.drop (i + 1)) vc = some o,
        fun σn Hn ⟨a1, a2, a3, a4, a5, a6, a7⟩ => ⟨xs.length - (i + 1), by omega, a1, a2, a3, hlt, rfl, a4, a5, a6, a7⟩, fun x Hx y => ?_⟩
      have ex : xs[i]? = some xs[i] := by simp [hlt]
      rw [List.drop_eq_getElem_cons hlt] at go
      obtain ⟨v1', o1, g1, g2, g3⟩ := forGo_cons go
      have key : ∃ H1x, Same H1c H1x ∧ SV (mw X cl) ent σc vc H1x Hx Fc ∧ Rp (mw X cl) H1x x xs[i] ∧ Tr (OF Fa) Ha Hb H1x Hx (OF Fc) := by
        rcases wk.yld i Hc x Hx _ sc ex y with ⟨rfl, r⟩ | ⟨T, ws, ds', rfl, hT, rfl, ed, r, z⟩
        · exact ⟨H1c, fun _ _ h => h, Sc, r.mono sm, tc⟩
        · have hT1 : H1c T = none := Sc.sub.free hT
          refine ⟨upd H1c T (.tup ws), same_new hT1, Sc.laidS hT trivial, ?_, tc.trans (Tr.laidS hT Sc.sub)⟩
          rw [ed]
          exact .tup (SqT.of upd_same) z (r.mono fun b o h => by
            rw [upd_ne (ne_of_none (sm b o h) hT1)]; exact sm b o h)
      obtain ⟨H1x, smx, Sx, rx, tx⟩ := key
      refine ⟨vc, H1x, Fc, xs[i], v1', Sx, rx, g1, fun σ2 F2 h2 S2 w2 => ⟨v1', H1x, F2, o1, S2, g2, ?_⟩⟩
      have t2 : Tr (OF Fa) Ha Hb H1x Hx (OF F2) := tx.trans (Tr.refl h2)
      have sx : Same Ha H1x := fun b o h => smx b o (sm b o h)
      cases o1 with
      | nx v2 => exact fun σ' a b' c' t' S' => ⟨v2, a, c', fun b o h => t'.mono b o (sx b o h), S', t2.trans t', g3⟩
      | ct v2 => exact fun σ' a b' c' t' S' => ⟨v2, a, c', fun b o h => t'.mono b o (sx b o h), S', t2.trans t', g3⟩
      | bk v2 => cases g3; exact fun σ' a b' c' t' S' => q' σ' a b' c' (t2.trans t') S'
      | rt s d v2 => cases g3; exact fun σ' u a b' c' f p => q' σ' u a b' c' f ⟨t2.trans p.tr, p.sv, p.rs, p.ap, p.dj⟩
    · have ei : i = xs.length := by omega
      subst ei
      rw [List.drop_length] at go
      cases go
      exact .inl ⟨wk.stop Hc sc, q' σc H1c Hc Fc tc Sc⟩
  · cases ev
theorem go_while (gE : GoE Φ cl N n) (gS : GoS Φ cl N n) (hk : c.sc.kind = .function) (C : Cn Φ cl X) (A : At Φ.cl X N c) {y : Expr} {body : List Stmt} {pos : Pos} {m0 : Nat} {t : E} {b : List S} (kt : tst t = true) (k1 : ckE N n c y t = true) (k3 : ckL (ckS N n c) body b = true) :
    PS X (.While y body [] pos) (tS (mw X cl) ent (lev Φ (n + 1)).s (.while_ m0 t b)) := by
  have hp : PassesOwn (model X.prog X.w) X.A X.env X.xe := by rw [C.xe]; exact PassesOwn.never
  refine PS.mono (ps_while hp ((gE c y t k1 X C A ent).2 kt) (gS.block (ent := ent) hk C A k3)) fun Dn σ H q => ?_
  obtain ⟨v, H1, F, o, S, ev, q⟩ := q
  change stepS (lev Φ n).e (lev Φ n).s (.while_ m0 t b) v = _ at ev
  simp only [stepS] at ev
  refine ⟨fun m σc Hc => ∃ vc H1c Fc, SV (mw X cl) ent σc vc H1c Hc Fc ∧ Tr (OF F) H1 H H1c Hc (OF Fc) ∧ whGo (lev Φ n).e (lev Φ n).s t b m vc = some o, ⟨m0, v, H1, F, S, Tr.refl fun _ h => h, ev⟩, ?_⟩
  rintro m σc Hc ⟨vc, H1c, Fc, Sc, tc, go⟩
  obtain ⟨m', k, v1, rfl, e1, g⟩ := whGo_succ go
  refine tB_of Sc e1 fun Ha Hb Fa ta Sa => ?_
  have t1 := tc.trans ta
  cases k with
  | true =>
    rw [if_pos rfl] at g ⊢
    obtain ⟨o1, g1, g2⟩ := g
    refine ⟨fun σn Hn => ∃ vc H1c Fc, SV (mw X cl) ent σn vc H1c Hn Fc ∧ Tr (OF F) H1 H H1c Hn (OF Fc) ∧ whGo (lev Φ n).e (lev Φ n).s t b m' vc = some o, fun σn Hn z => ⟨m', Nat.lt_succ_self _, z⟩, v1, Ha, Fa, o1, Sa, g1, ?_⟩
    cases o1 with
    | nx v2 => exact fun σ' a b' c' t' S' => ⟨v2, a, c', S', t1.trans t', g2⟩
    | ct v2 => exact fun σ' a b' c' t' S' => ⟨v2, a, c', S', t1.trans t', g2⟩
    | bk v2 => cases g2; exact fun σ' a b' c' t' S' => q σ' a b' c' (t1.trans t') S'
    | rt s d v2 => cases g2; exact fun σ' u a b' c' f p => q σ' u a b' c' f ⟨t1.trans p.tr, p.sv, p.rs, p.ap, p.dj⟩
  | false =>
    rw [if_neg Bool.false_ne_true] at g ⊢
    subst g
    exact q σc Ha Hb Fa t1 Sa
theorem go_par (gE : GoE Φ cl N n) (hk : c.sc.kind = .function) (C : Cn Φ cl X) (A : At Φ.cl X N c) {tgs vals : List Expr} {k k2 : Nat} {p p2 pos : Pos} {ts : List Nat} {es : List E} (h1 : all2 (ckN N c) tgs ts = true) (h2 : all2 (ckE N n c) vals es = true) (h3 : vals.length < 1000) (h4 : ts.Nodup) (h5 : tgs.length = vals.length)
    (h6 : (match swD c tgs vals with | some true => allLocal c tgs && (tgs.length == 2 || tgs.length == 3) | some false => true | none => false) = true) :
    PS X (.Assign [.Tuple tgs k p] (.Tuple vals k2 p2) pos) (tS (mw X cl) ent (lev Φ (n + 1)).s (.par ts es)) := by
  have hkX : X.env.scope.kind = .function := by rw [A.sc]; exact hk
  have pa := gE.alls (ent := ent) C A h2
  have l1 := all2_len h1
  have l2 := all2_len h2
  cases hb : swD c tgs vals with
  | none => rw [hb] at h6; cases h6
  | some b =>
    have hw := sws_of (k := k) (k2 := k2) (p := p) (p2 := p2) A.sc hkX hb
    cases b with
    | false =>
      have ns : ∀ x ∈ tgs, NoStar x := by
        intro x hx
        obtain ⟨i, hi⟩ := List.getElem?_of_mem hx
        clear hw hb h6 pa h2 l2 h5 h3 h4
        induction tgs generalizing ts i with
        | nil => simp at hx
        | cons z r ih =>
          cases ts with
          | nil => cases h1
          | cons t ts =>
            have h' := Bool.and_eq_true_iff.mp h1
            rcases List.mem_cons.mp hx with rfl | hx'
            · obtain ⟨y, q, rfl, _⟩ := ckN_of h'.1
              trivial
            · obtain ⟨j, hj⟩ := List.getElem?_of_mem hx'
              exact ih h'.2 (by simpa using l1) hx' j hj
      refine PS.mono (ps_asg (pe_tup pa) (pg_tup C.calm (go_gn (ent := ent) C A h1) (asgEach_len tgs) (asg_find ns)) rfl hw rfl) fun Dn σ H q => ?_
      obtain ⟨v, H1, F, o, S, ev, q⟩ := q
      change stepS (lev Φ n).e (lev Φ n).s (.par ts es) v = _ at ev
      simp only [stepS] at ev
      split at ev
      · rename_i sds v1 e1
        split at ev
        · rename_i v2 e2
          cases ev
          refine ⟨v, H1, F, sds, v1, S, e1, fun us Ha Hb Fa fs t Sa rl sp ap dj => ⟨?_, fun a ha => ?_⟩⟩
          · rw [rl.len, evss_len e1, ← l2]
            exact size1000 h3
          · have Sb := Sa.laidO (o := .tup us) ha
            have rl' : RSl (mw X cl) Ha (upd Hb a (.tup us)) sds us fs := RSl.stepH (fun b o h => by rw [upd_ne (ne_of_none h ha)]; exact h) rl
            refine ⟨a, us, rfl, SqT.of upd_same, by rw [rl.len, evss_len e1, ← l2, h5], v1, Ha, Fa, sds, fs, v2, Sb, rl', sp, ap, dj, e2, fun σ' F' hF S' => ?_⟩
            refine q σ' Ha _ F' (t.trans ((Tr.laidO (O := fun b => OF Fa b ∨ MF fs b) ha).weak (fun _ h => h) fun b h => .inr (hF b h))) S'
        · cases ev
      · cases ev
    | true =>
      rw [hb] at h6
      obtain ⟨h7, h8⟩ := Bool.and_eq_true_iff.mp h6
      have hlen := swD_len hb
      have fin : ∀ (Dn : Ends) (σ : L2.St) (H : Hp), tS (mw X cl) ent (lev Φ (n + 1)).s (.par ts es) Dn σ H → tAs (mw X cl) ent (lev Φ n).e es σ H fun us H' => us.length = ts.length ∧ Dn.nx ((ts.zip us).foldl (fun σ p => σ.set p.1 (some p.2)) σ) H' := by
        intro Dn σ H q
        obtain ⟨v, H1, F, o, S, ev, q⟩ := q
        change stepS (lev Φ n).e (lev Φ n).s (.par ts es) v = _ at ev
        simp only [stepS] at ev
        split at ev
        · rename_i sds v1 e1
          split at ev
          · rename_i v2 e2
            cases ev
            refine ⟨v, H1, F, sds, v1, S, e1, fun us Ha Hb Fa fs t Sa rl sp ap dj => ⟨by rw [rl.len, evss_len e1, ← l2, ← h5, l1], ?_⟩⟩
            obtain ⟨F', S', hF⟩ := Sa.setNs rl sp ap dj e2
            exact q _ Ha Hb F' (t.trans (Tr.refl hF)) S'
          · cases ev
        · cases ev
      match tgs, ts, vals, h1, h4, h5, h7, h8, hw, hlen, pa, fin with
      | [x1, x2], [i1, i2], [a1, a2], h1, h4, _, h7, _, hw, hlen, pa, fin =>
        have g1 := Bool.and_eq_true_iff.mp h1
        obtain ⟨y1, q1, rfl, n1, _⟩ := ckN_of g1.1
        obtain ⟨y2, q2, rfl, n2, _⟩ := ckN_of (Bool.and_eq_true_iff.mp g1.2).1
        have lo := List.all_eq_true.mp h7
        have lo1 : c.sc.names.lookup y1 = some .local := of_decide_eq_true (lo (.Name y1 q1) (by simp))
        have lo2 : c.sc.names.lookup y2 = some .local := of_decide_eq_true (lo (.Name y2 q2) (by simp))
        refine PS.mono (ps_par (i := i1) (j := i2) C.calm C.nd (by rw [A.n]; exact n1) (by rw [A.n]; exact n2) (fun z => by simp [z] at h4) (by rw [A.sc]; exact lo1) (by rw [A.sc]; exact lo2) pa (hw.trans (congrArg (fun z => (pure (some z) : Sem (Option (List Str)))) (nm2 hlen))) rfl) fun Dn σ H q => ?_
        obtain ⟨v, H1, F, sds, v', S, e, qq⟩ := fin Dn σ H q
        refine ⟨v, H1, F, sds, v', S, e, fun us Ha Hb Fa fs t Sa rl sp ap dj => ?_⟩
        obtain ⟨ul, nx⟩ := qq us Ha Hb Fa fs t Sa rl sp ap dj
        match us, ul, nx with
        | [u, w], _, nx => exact ⟨u, w, rfl, nx⟩
      | [x1, x2, x3], [i1, i2, i3], [a1, a2, a3], h1, h4, _, h7, _, hw, hlen, pa, fin =>
        have g1 := Bool.and_eq_true_iff.mp h1
        have g2 := Bool.and_eq_true_iff.mp g1.2
        obtain ⟨y1, q1, rfl, n1, _⟩ := ckN_of g1.1
        obtain ⟨y2, q2, rfl, n2, _⟩ := ckN_of g2.1
        obtain ⟨y3, q3, rfl, n3, _⟩ := ckN_of (Bool.and_eq_true_iff.mp g2.2).1
        have lo := List.all_eq_true.mp h7
        have lo1 : c.sc.names.lookup y1 = some .local := of_decide_eq_true (lo (.Name y1 q1) (by simp))
        have lo2 : c.sc.names.lookup y2 = some .local := of_decide_eq_true (lo (.Name y2 q2) (by simp))
        have lo3 : c.sc.names.lookup y3 = some .local := of_decide_eq_true (lo (.Name y3 q3) (by simp))
        have nd : i1 ≠ i2 ∧ i1 ≠ i3 ∧ i2 ≠ i3 := by
          simp only [List.nodup_cons, List.mem_cons, List.not_mem_nil, or_false, not_or] at h4
          exact ⟨h4.1.1, h4.1.2, h4.2.1⟩
        refine PS.mono (ps_par3 (i := i1) (j := i2) (l := i3) C.calm C.nd (by rw [A.n]; exact n1) (by rw [A.n]; exact n2) (by rw [A.n]; exact n3) nd.1 nd.2.1 nd.2.2 (by rw [A.sc]; exact lo1) (by rw [A.sc]; exact lo2) (by rw [A.sc]; exact lo3) pa (hw.trans (congrArg (fun z => (pure (some z) : Sem (Option (List Str)))) (nm3 hlen))) rfl) fun Dn σ H q => ?_
        obtain ⟨v, H1, F, sds, v', S, e, qq⟩ := fin Dn σ H q
        refine ⟨v, H1, F, sds, v', S, e, fun us Ha Hb Fa fs t Sa rl sp ap dj => ?_⟩
        obtain ⟨ul, nx⟩ := qq us Ha Hb Fa fs t Sa rl sp ap dj
        match us, ul, nx with
        | [u, w, z], _, nx => exact ⟨u, w, z, rfl, nx⟩
end
end Q

set_option Elab.async false
set_option linter.all false
set_option maxRecDepth 100000
set_option maxHeartbeats 8000000
/-! R15: every statement; defs keep the promise of their run. -/
namespace Q
open PySem L2
section
variable {Φ : Tab} {cl : Nat → Addr × List Str} {N : List Str} {n : Nat} {c : Sx} {X : Cx} {ent : Nat → Option V} {x : Stmt}
theorem app_fin {σ : L2.St} {v1 : Ev} {Ha Hb : Hp} {Fa : Nat → List Addr} {p : Pl} {xs : List D} {d : D} {u : V} (Sa : SV (mw X cl) ent σ v1 Ha Hb Fa) (e : getP v1 p = some (.lst, .lst xs)) (hz : xs.length < sizeLine) (r : Rp (mw X cl) Ha u d) :
    ∃ a vs, PlAt cl σ Hb (.ref a) p ∧ Hb a = some (.lst vs) ∧ vs.length < sizeLine ∧ SV (mw X cl) ent σ (putP v1 (.lst (xs ++ [d])) p) Ha (upd Hb a (.lst (vs ++ [u]))) Fa ∧ Tr (OF Fa) Ha Hb Ha (upd Hb a (.lst (vs ++ [u]))) (OF Fa) := by
  obtain ⟨a, h1, ⟨a', vs, ds, e1, e2, _, e3, e4, e5⟩, fin⟩ := Sa.mutP e (.inl rfl)
  cases e1
  cases e2
  obtain ⟨S', t'⟩ := fin (.lst (vs ++ [u])) (.lst (xs ++ [d])) ⟨a, vs ++ [u], xs ++ [d], rfl, rfl, rfl, upd_same, e4.append (.cons r .nil), by rw [List.length_append, List.length_singleton]; omega⟩
  exact ⟨a, vs, h1, e3, by rw [e4.length]; exact hz, S', t'⟩
theorem go_app (gE : GoE Φ cl N n) (gN : GoN Φ cl N n) (C : Cn Φ cl X) (A : At Φ.cl X N c) {p : Pl} {e : E} (h : ckS N (n + 1) c x (.app p e) = true) : PS X x (tS (mw X cl) ent (lev Φ (n + 1)).s (.app p e)) := by
  simp only [ckS] at h
  split at h
  · rename_i px m ap val cp pos
    simp only [Bool.and_eq_true] at h
    obtain ⟨⟨⟨⟨k0, k1⟩, k2⟩, k3⟩, k4⟩ := h
    have e0 := of_decide_eq_true k0
    subst e0
    have ns := ckE_noStar k2
    have pl := go_pl C A k1
    have mz : mostLen = sizeLine := by rw [sizeLine_eq]; rfl
    have parts : ∀ {v : Ev} {o : Out}, stepS (lev Φ n).e (lev Φ n).s (.app p e) v = some o → ∃ d0 d v1 xs, getP v p = some (.lst, d0) ∧ evv (lev Φ n).e e v = some (d, v1) ∧ getP v1 p = some (.lst, .lst xs) ∧ xs.length < sizeLine ∧ o = .nx (putP v1 (.lst (xs ++ [d])) p) := by
      intro v o ev
      simp only [stepS] at ev
      split at ev
      · rename_i d0 ei0
        split at ev
        · rename_i d v1 e1
          split at ev
          · rename_i xs ei
            split at ev
            · rename_i hz
              cases ev
              rw [mz] at hz
              exact ⟨d0, d, v1, xs, ei0, e1, ei, hz, rfl⟩
            · cases ev
          · cases ev
        · cases ev
      · cases ev
    cases hp : p.isF with
    | false =>
      refine PS.mono (ps_expr (pe_bm PySem.F.plainAttrs_list PySem.F.slot_list_append PySem.F.type_list_append mt_append pl (pa_cons (gE.v (ent := ent) k2 C A) pa_nil (star_cons ns)) (ab_nsp (ckPl_nsp k1)) (few_ok ns) k3 (star_cons ns) rfl) rfl) fun Dn σ H q => ?_
      obtain ⟨v, H1, F, o, S, ev, q⟩ := q
      obtain ⟨d0, d, v1, xs, ei0, e1, ei, hz, rfl⟩ := parts ev
      obtain ⟨a0, h1, ⟨a', vs, ds, ea, e2, _, e3, e4, e5⟩, _⟩ := S.mutP ei0 (.inl rfl)
      cases ea
      refine ⟨_, h1, .inl ⟨rfl, _, SqL.of e3⟩, tV_of S e1 fun u Ha Hb Fa ta Sa r => ?_⟩
      obtain ⟨a, vs', g1, g2, g3, S', t'⟩ := app_fin Sa ei hz r
      have := g1.inj (h1.slot hp)
      cases this
      exact ⟨a0, vs', u, rfl, rfl, g2, g3, q σ Ha _ Fa (ta.trans t') S'⟩
    | true =>
      rw [hp] at k4
      refine PS.mono (ps_expr (pe_bm PySem.F.plainAttrs_list PySem.F.slot_list_append PySem.F.type_list_append mt_append pl (pa_cons (gN c val e k2 k4 X C A ent) pa_nil (star_cons ns)) (ab_nsp (ckPl_nsp k1)) (few_ok ns) k3 (star_cons ns) rfl) rfl) fun Dn σ H q => ?_
      obtain ⟨v, H1, F, o, S, ev, q⟩ := q
      obtain ⟨d0, d, v1, xs, ei0, e1, ei, hz, rfl⟩ := parts ev
      obtain ⟨a0, h1, ⟨a', vs, ds, ea, e2, _, e3, e4, e5⟩, _⟩ := S.mutP ei0 (.inl rfl)
      cases ea
      refine ⟨_, h1, .inl ⟨rfl, _, SqL.of e3⟩, tN_of S e1 fun u Ha Hb sm ta ev' Sa r => ?_⟩
      subst ev'
      obtain ⟨a, vs', g1, g2, g3, S', t'⟩ := app_fin Sa ei hz r
      have := g1.inj (h1.keep sm)
      cases this
      exact ⟨a0, vs', u, rfl, rfl, g2, g3, q σ Ha _ F (ta.trans t') S'⟩
  · cases h
theorem go_ext (gE : GoE Φ cl N n) (gN : GoN Φ cl N n) (C : Cn Φ cl X) (A : At Φ.cl X N c) {p : Pl} {e : E} (h : ckS N (n + 1) c x (.ext p e) = true) : PS X x (tS (mw X cl) ent (lev Φ (n + 1)).s (.ext p e)) := by
  simp only [ckS] at h
  split at h
  · rename_i px m ap val cp pos
    simp only [Bool.and_eq_true] at h
    obtain ⟨⟨⟨⟨k0, k1⟩, k2⟩, k3⟩, k4⟩ := h
    have e0 := of_decide_eq_true k0
    subst e0
    have ns := ckE_noStar k2
    have pl := go_pl C A k1
    have mz : mostLen = sizeLine := by rw [sizeLine_eq]; rfl
    have parts : ∀ {v : Ev} {o : Out}, stepS (lev Φ n).e (lev Φ n).s (.ext p e) v = some o → ∃ d0 ys v1 xs, getP v p = some (.lst, d0) ∧ evv (lev Φ n).e e v = some (.lst ys, v1) ∧ getP v1 p = some (.lst, .lst xs) ∧ xs.length + ys.length ≤ sizeLine ∧ o = .nx (putP v1 (.lst (xs ++ ys)) p) := by
      intro v o ev
      simp only [stepS] at ev
      split at ev
      · rename_i d0 ei0
        split at ev
        · rename_i d v1 e1
          split at ev
          · rename_i xs ei
            split at ev
            · rename_i hz
              cases ev
              rw [mz] at hz
              exact ⟨d0, d, v1, xs, ei0, e1, ei, hz, rfl⟩
            · cases ev
          · cases ev
        · cases ev
      · cases ev
    have hp : p.isF = false := by simpa using k4
    refine PS.mono (ps_expr (pe_bm PySem.F.plainAttrs_list PySem.F.slot_list_extend PySem.F.type_list_extend mt_extend pl (pa_cons (gE.v (ent := ent) k2 C A) pa_nil (star_cons ns)) (ab_nsp (ckPl_nsp k1)) (few_ok ns) k3 (star_cons ns) rfl) rfl) fun Dn σ H q => ?_
    obtain ⟨v, H1, F, o, S, ev, q⟩ := q
    obtain ⟨d0, ys, v1, xs, ei0, e1, ei, hz, rfl⟩ := parts ev
    obtain ⟨a0, h1, ⟨a', vs, ds, ea, e2, _, e3, e4, e5⟩, _⟩ := S.mutP ei0 (.inl rfl)
    cases ea
    refine ⟨_, h1, .inl ⟨rfl, _, SqL.of e3⟩, tV_of S e1 fun u Ha Hb Fa ta Sa r => ?_⟩
    cases r with
    | lst hl z r =>
      obtain ⟨a, g1, ⟨a', vs', ds', ea, e2', _, e3', e4', e5'⟩, fin⟩ := Sa.mutP ei (.inl rfl)
      cases ea
      cases e2'
      have := g1.inj (h1.slot hp)
      cases this
      obtain ⟨S', t'⟩ := fin (.lst (vs' ++ _)) (.lst (xs ++ ys)) ⟨_, vs' ++ _, xs ++ ys, rfl, rfl, rfl, upd_same, e4'.append r, by rw [List.length_append]; exact hz⟩
      exact ⟨_, _, vs', _, rfl, rfl, e3', Sa.sub _ _ hl, by rw [e4'.length, r.length]; exact hz, q σ Ha _ Fa (ta.trans t') S'⟩
  · cases h
def tPut (M : Mw) : TSet := fun x y z H Q => rSetL x y z H Q ∨ ∃ a o H1 ks vs k d, x = .ref a ∧ H a = some (DX a o) ∧ Same H1 H ∧ DOb M H1 a o ks vs ∧ Rp M H1 y k ∧ Rp M H1 z d ∧ kOk ks k = true ∧ ks.length < sizeLine ∧ ∀ o', DOb M H1 a o' (dPut ks vs k d).1 (dPut ks vs k d).2 → Q (upd H a (DX a o'))
theorem set_put {k : Nat} (hr : Room k X.A) : PSet X (tPut (mw X cl)) := fun pins s σ H o i v ov iv u Q I ro ri rv h => by
  rcases h with h | h
  · exact set_list pins s σ H o i v ov iv u Q I ro ri rv h
  · exact set_dx (cl := cl) hr pins s σ H o i v ov iv u Q I ro ri rv h
theorem put_fin {σ : L2.St} {v2 : Ev} {Hc Hd : Hp} {Fc : Nat → List Addr} {p : Pl} {v3 : Ev} {d kd : D} {u w : V} {P : Hp → Prop} (Sc : SV (mw X cl) ent σ v2 Hc Hd Fc) (ru : Rp (mw X cl) Hc u d) (rw' : Rp (mw X cl) Hc w kd)
    (h : (∃ xs j n, kd = .int j ∧ getP v2 p = some (.lst, .lst xs) ∧ ixN xs.length j = some n ∧ v3 = putP v2 (.lst (xs.set n d)) p) ∨ ∃ ks vs, getP v2 p = some (.dct, .dct ks vs) ∧ kOk ks kd = true ∧ ks.length < sizeLine ∧ v3 = putP v2 (.dct (dPut ks vs kd d).1 (dPut ks vs kd d).2) p)
    (q : ∀ H', Tr (OF Fc) Hc Hd Hc H' (OF Fc) → SV (mw X cl) ent σ v3 Hc H' Fc → P H') : ∃ a, PlAt cl σ Hd (.ref a) p ∧ tPut (mw X cl) (.ref a) w u Hd P := by
  rcases h with ⟨xs, j, n, rfl, e, en, rfl⟩ | ⟨ks, vs, e, ok, hz, rfl⟩
  · obtain ⟨a, h1, ⟨a', vs, ds, e1, e2, _, e3, e4, e5⟩, fin⟩ := Sc.mutP e (.inl rfl)
    cases e1
    cases e2
    cases rw'
    obtain ⟨S', t'⟩ := fin (.lst (vs.set n u)) (.lst (xs.set n d)) ⟨a, vs.set n u, xs.set n d, rfl, rfl, rfl, upd_same, e4.set ru n, by rw [List.length_set]; exact e5⟩
    exact ⟨a, h1, .inl ⟨a, vs, j, n, rfl, rfl, e3, by rw [e4.length]; exact en, q _ t' S'⟩⟩
  · obtain ⟨a, h1, ⟨a', o, ks', vs', e1, e2, _, e3, e4⟩, fin⟩ := Sc.mutP e (.inr rfl)
    cases e1
    cases e2
    refine ⟨a, h1, .inr ⟨a, o, Hc, ks, vs, kd, d, rfl, e3, Sc.sub, e4, rw', ru, ok, hz, fun o' dob => ?_⟩⟩
    obtain ⟨S', t'⟩ := fin (DX a o') (.dct (dPut ks vs kd d).1 (dPut ks vs kd d).2) ⟨a, o', _, _, rfl, rfl, rfl, upd_same, dob⟩
    exact q _ t' S'
theorem go_put (gE : GoE Φ cl N n) (gN : GoN Φ cl N n) (C : Cn Φ cl X) (A : At Φ.cl X N c) {p : Pl} {k e : E} (h : ckS N (n + 1) c x (.put p k e) = true) : PS X x (tS (mw X cl) ent (lev Φ (n + 1)).s (.put p k e)) := by
  simp only [ckS] at h
  split at h
  · rename_i px ix psub val pos
    simp only [Bool.and_eq_true] at h
    obtain ⟨⟨⟨⟨k1, kns⟩, k4⟩, k5⟩, k6⟩ := h
    have hsub : ∀ v, assign (.Subscript px ix psub) X.env v = (do
        let ov ← holding [v] (eval px X.env)
        let iv ← holding [v, ov] (eval ix X.env)
        standAt psub
        holding [v, ov, iv] (setItem ov iv v)
        release [v, ov, iv] []) := by
      intro v
      cases ix <;> first | rfl | cases kns
    have pl := go_pl C A k1
    have mz : mostLen = sizeLine := by rw [sizeLine_eq]; rfl
    have parts : ∀ {v : Ev} {o : Out}, stepS (lev Φ n).e (lev Φ n).s (.put p k e) v = some o → ∃ d v1 s0 d0 kd v2 v3, evv (lev Φ n).e e v = some (d, v1) ∧ getP v1 p = some (s0, d0) ∧ evv (lev Φ n).e k v1 = some (kd, v2) ∧ o = .nx v3 ∧
        ((∃ xs j n, kd = .int j ∧ getP v2 p = some (.lst, .lst xs) ∧ ixN xs.length j = some n ∧ v3 = putP v2 (.lst (xs.set n d)) p) ∨ ∃ ks vs, getP v2 p = some (.dct, .dct ks vs) ∧ kOk ks kd = true ∧ ks.length < sizeLine ∧ v3 = putP v2 (.dct (dPut ks vs kd d).1 (dPut ks vs kd d).2) p) := by
      intro v o ev
      simp only [stepS] at ev
      split at ev
      · rename_i d v1 e1
        split at ev
        · rename_i d0 ei0
          split at ev
          · rename_i j v2 e2
            split at ev
            · rename_i xs ei
              split at ev
              · rename_i nn en
                cases ev
                exact ⟨d, v1, _, d0, _, v2, _, e1, ei0, e2, rfl, .inl ⟨xs, j, nn, rfl, ei, en, rfl⟩⟩
              · cases ev
            · cases ev
          · cases ev
        · rename_i d0 ei0
          split at ev
          · rename_i kk v2 e2
            split at ev
            · rename_i ks vs ei
              split at ev
              · rename_i hz
                cases ev
                rw [mz] at hz
                exact ⟨d, v1, _, d0, kk, v2, _, e1, ei0, e2, rfl, .inr ⟨ks, vs, ei, hz.1, hz.2, rfl⟩⟩
              · cases ev
            · cases ev
          · cases ev
        · cases ev
      · cases ev
    cases hp : p.isF with
    | false =>
      refine PS.mono (ps_asg (gE.v (ent := ent) k5 C A) (pg_sub pl (gE.v (ent := ent) k4 C A) (set_put (cl := cl) C.room) hsub) sw_subT rfl rfl) fun Dn σ H q => ?_
      obtain ⟨v, H1, F, o, S, ev, q⟩ := q
      obtain ⟨d, v1, s0, d0, kd, v2, v3, e1, e0, e2, rfl, hx⟩ := parts ev
      refine tV_of S e1 fun u Ha Hb Fa ta Sa r => ?_
      obtain ⟨u0, f0, p0, _, _⟩ := Sa.pl e0
      refine ⟨u0, p0, tV_of Sa e2 fun w Hc Hd Fc tc Sc rw' => ?_⟩
      obtain ⟨a, g1, g2⟩ := put_fin (P := fun H' => Dn.nx σ H') Sc (r.mono tc.mono) rw' hx fun H' t' S' => q σ Hc H' Fc ((ta.trans tc).trans t') S'
      have := g1.inj (p0.slot hp)
      rw [this] at g2
      exact g2
    | true =>
      rw [hp] at k6
      refine PS.mono (ps_asg (gE.v (ent := ent) k5 C A) (pg_sub pl (gN c ix k k4 k6 X C A ent) (set_put (cl := cl) C.room) hsub) sw_subT rfl rfl) fun Dn σ H q => ?_
      obtain ⟨v, H1, F, o, S, ev, q⟩ := q
      obtain ⟨d, v1, s0, d0, kd, v2, v3, e1, e0, e2, rfl, hx⟩ := parts ev
      refine tV_of S e1 fun u Ha Hb Fa ta Sa r => ?_
      obtain ⟨u0, f0, p0, _, _⟩ := Sa.pl e0
      refine ⟨u0, p0, tN_of Sa e2 fun w Hc Hd sm tc ev' Sc rw' => ?_⟩
      subst ev'
      obtain ⟨a, g1, g2⟩ := put_fin (P := fun H' => Dn.nx σ H') Sc (r.mono tc.mono) rw' hx fun H' t' S' => q σ Hc H' Fa ((ta.trans tc).trans t') S'
      have := g1.inj (p0.keep sm)
      rw [this] at g2
      exact g2
  · cases h
end
/-! ### fields -/
theorem putF_set : ∀ {ns : List Str} {us : List V} {j : Nat} {f : Str} {u : V}, ns.Nodup → ns[j]? = some f → j < us.length → putF f u (ns.zip us) = ns.zip (us.set j u)
  | [], _, _, _, _, _, h, _ => by simp at h
  | _ :: _, [], _, _, _, _, _, h => by simp at h
  | n :: ns, w :: us, 0, f, u, nd, h, _ => by
    simp at h
    subst h
    rw [List.nodup_cons] at nd
    simp [putF]
  | n :: ns, w :: us, j + 1, f, u, nd, h, hl => by
    rw [List.nodup_cons] at nd
    have hm : f ∈ ns := List.mem_of_getElem? (by simpa using h)
    have hne : n ≠ f := fun z => nd.1 (by rw [z]; exact hm)
    have ih := putF_set (u := u) nd.2 (by simpa using h) (show j < us.length by simpa using hl)
    simp only [List.zip_cons_cons, List.set_cons_succ]
    rw [← ih]
    simp [putF, hne]
theorem putF_app : ∀ {ns : List Str} {us : List V} {f : Str} {u : V}, ns.Nodup → ns[us.length]? = some f → putF f u (ns.zip us) = ns.zip (us ++ [u])
  | [], _, _, _, _, h => by simp at h
  | n :: ns, [], f, u, _, h => by
    simp at h
    subst h
    simp [putF]
  | n :: ns, w :: us, f, u, nd, h => by
    rw [List.nodup_cons] at nd
    have hm : f ∈ ns := List.mem_of_getElem? (by simpa using h)
    have hne : n ≠ f := fun z => nd.1 (by rw [z]; exact hm)
    have ih := putF_app (u := u) nd.2 (show ns[us.length]? = some f by simpa using h)
    simp only [List.zip_cons_cons, List.cons_append]
    rw [← ih]
    simp [putF, hne]
theorem nodup_set : ∀ {ff : List (List Addr)} {j : Nat} {f : List Addr}, ff.flatten.Nodup → f.Nodup → (∀ b ∈ f, b ∉ ff.flatten) → (ff.set j f).flatten.Nodup ∧ ∀ b ∈ (ff.set j f).flatten, b ∈ ff.flatten ∨ b ∈ f
  | [], _, f, _, _, _ => ⟨by simp, fun b hb => by simp at hb⟩
  | g :: ff, 0, f, nd, nf, dj => by
    rw [List.flatten_cons, List.nodup_append] at nd
    simp only [List.set_cons_zero, List.flatten_cons]
    refine ⟨List.nodup_append.mpr ⟨nf, nd.2.1, fun x hx y hy z => dj x hx (by rw [List.flatten_cons, List.mem_append, z]; exact .inr hy)⟩, fun b hb => ?_⟩
    rcases List.mem_append.mp hb with hb | hb
    · exact .inr hb
    · exact .inl (List.mem_append.mpr (.inr hb))
  | g :: ff, j + 1, f, nd, nf, dj => by
    rw [List.flatten_cons, List.nodup_append] at nd
    obtain ⟨h1, h2⟩ := nodup_set (j := j) nd.2.1 nf fun b hb z => dj b hb (by rw [List.flatten_cons, List.mem_append]; exact .inr z)
    simp only [List.set_cons_succ, List.flatten_cons]
    refine ⟨List.nodup_append.mpr ⟨nd.1, h1, fun x hx y hy z => ?_⟩, fun b hb => ?_⟩
    · rcases h2 y hy with q | q
      · exact nd.2.2 x hx y q z
      · exact dj y q (by rw [List.flatten_cons, List.mem_append, ← z]; exact .inl hx)
    · rcases List.mem_append.mp hb with hb | hb
      · exact .inl (List.mem_append.mpr (.inl hb))
      · rcases h2 b hb with q | q
        · exact .inl (List.mem_append.mpr (.inr q))
        · exact .inr q
section
variable {M : Mw} {ent : Nat → Option V} {σ : L2.St} {v : Ev} {H1 H : Hp} {F : Nat → List Addr}
theorem RF.nd {s : Fs} {u : V} {d : D} {f : List Addr} (h : RF M H1 H s u d f) : f.Nodup := by
  cases s with
  | sh => rw [h.2]; simp
  | lst => obtain ⟨a, vs, ds, _, _, rfl, _⟩ := h; simp
  | dct => obtain ⟨a, o, ks, vs, _, _, rfl, _⟩ := h; simp
theorem RFs.put {ss : List Fs} {us : List V} {ds : List D} {fs : List (List Addr)} {j : Nat} {s : Fs} {u : V} {d : D} {f : List Addr} (h : RFs M H1 H ss us ds fs) (new : RF M H1 H s u d f) : RFs M H1 H (ss.set j s) (us.set j u) (ds.set j d) (fs.set j f) := by
  induction h generalizing j with
  | nil => exact .nil
  | cons r t ih =>
    cases j with
    | zero => exact .cons new t
    | succ j => exact .cons r ih
theorem RFs.app {ss : List Fs} {us : List V} {ds : List D} {fs : List (List Addr)} {s : Fs} {u : V} {d : D} {f : List Addr} (h : RFs M H1 H ss us ds fs) (new : RF M H1 H s u d f) : RFs M H1 H (ss ++ [s]) (us ++ [u]) (ds ++ [d]) (fs ++ [f]) := by
  induction h with
  | nil => exact .cons new .nil
  | cons r t ih => exact .cons r ih
/-- a field of an owned instance is stored -/
theorem SV.fset (S : SV M ent σ v H1 H F) {i c : Nat} {io : Bool} {ss ss' : List Fs} {ds ds' : List D} {f : List Addr} {us' : V → List V → List V} (e : v[i]? = some (.at io (.ins c ss) (.ins c ds))) (ap : ∀ b ∈ f, ¬ OF F b) (dj : ∀ b ∈ f, H1 b = none) {u : V} {fd : Fs} {d : D} (r : RF M H1 H fd u d f)
    (hj : (∃ j, j < ss.length ∧ ss' = ss.set j fd ∧ ds' = ds.set j d ∧ us' = fun u us => us.set j u) ∨ (ss' = ss ++ [fd] ∧ ds' = ds ++ [d] ∧ ss.length < (M.cl c).2.length ∧ us' = fun u us => us ++ [u])) :
    ∃ a dx us, σ[i]? = some (some (.ref a)) ∧ H a = some (.ins (M.cl c).1 dx ((M.cl c).2.zip us)) ∧ us.length = ss.length ∧ us.length ≤ (M.cl c).2.length ∧
      ∃ F', SV M ent σ (v.set i (.at io (.ins c ss') (.ins c ds'))) H1 (upd H a (.ins (M.cl c).1 dx ((M.cl c).2.zip (us' u us)))) F' ∧ Tr (fun b => OF F b ∨ b ∈ f) H1 H H1 (upd H a (.ins (M.cl c).1 dx ((M.cl c).2.zip (us' u us)))) (OF F') := by
  obtain ⟨w, g1, ⟨a, dx, us, ds0, ff, rfl, ed, ef, ha, hd, z, rf, nd⟩, g3⟩ := S.slot i _ e
  cases ed
  have hi : i < v.length := (List.getElem?_eq_some_iff.mp e).1
  have ulen := rf.len.1
  refine ⟨a, dx, us, g1, ha, ulen, z, ?_⟩
  have aF : a ∈ F i := by rw [ef]; simp
  have dF : dx ∈ F i := by rw [ef]; simp
  rw [ef] at nd
  have nd1 := List.nodup_cons.mp nd
  have nd2 := List.nodup_cons.mp nd1.2
  have inF : ∀ b, b ∈ ff.flatten → b ∈ F i := fun b hb => by rw [ef]; simp only [List.mem_cons]; exact .inr (.inr hb)
  have fa : ∀ b ∈ f, b ≠ a ∧ b ≠ dx ∧ b ∉ ff.flatten := fun b hb => ⟨fun q => ap b hb ⟨i, by rw [q]; exact aF⟩, fun q => ap b hb ⟨i, by rw [q]; exact dF⟩, fun q => ap b hb ⟨i, inF b q⟩⟩
  have adx : dx ≠ a := fun q => nd1.1 (by rw [← q]; simp)
  have aff : a ∉ ff.flatten := fun q => nd1.1 (by simp only [List.mem_cons]; exact .inr q)
  have dff : dx ∉ ff.flatten := nd2.1
  have h1a : H1 a = none := S.dis i a aF
  let o : HO := .ins (M.cl c).1 dx ((M.cl c).2.zip (us' u us))
  have rstep : RF M H1 (upd H a o) fd u d f := r.step (fun _ _ q => q) fun b ob hb q => by rw [upd_ne (fa b hb).1]; exact q
  have fstep : RFs M H1 (upd H a o) ss us ds ff := rf.step (fun _ _ q => q) fun b ob hb q => by rw [upd_ne (fun q => aff (by rw [← q]; exact hb))]; exact q
  have key : ∃ ff', RFs M H1 (upd H a o) ss' (us' u us) ds' ff' ∧ (us' u us).length ≤ (M.cl c).2.length ∧ ff'.flatten.Nodup ∧ ∀ b ∈ ff'.flatten, b ∈ ff.flatten ∨ b ∈ f := by
    rcases hj with ⟨j, hjl, rfl, rfl, rfl⟩ | ⟨rfl, rfl, hl, rfl⟩
    · obtain ⟨n1, n2⟩ := nodup_set (j := j) nd2.2 r.nd fun b hb => (fa b hb).2.2
      exact ⟨ff.set j f, fstep.put rstep, by rw [List.length_set]; exact z, n1, n2⟩
    · refine ⟨ff ++ [f], fstep.app rstep, by rw [List.length_append, List.length_singleton, ulen]; omega, ?_, fun b hb => ?_⟩
      · rw [List.flatten_append, List.flatten_cons, List.flatten_nil, List.append_nil]
        exact List.nodup_append.mpr ⟨nd2.2, r.nd, fun x hx y hy q => (fa y hy).2.2 (by rw [← q]; exact hx)⟩
      · rw [List.flatten_append, List.flatten_cons, List.flatten_nil, List.append_nil, List.mem_append] at hb
        exact hb
  obtain ⟨ff', k1, k2, k3, k4⟩ := key
  have mem' : ∀ b ∈ a :: dx :: ff'.flatten, b ∈ F i ∨ b ∈ f := fun b hb => by
    simp only [List.mem_cons] at hb
    rcases hb with rfl | rfl | hb
    · exact .inl aF
    · exact .inl dF
    · rcases k4 b hb with q | q
      · exact .inl (inF b q)
      · exact .inr q
  refine ⟨fun j => if j = i then a :: dx :: ff'.flatten else F j, ⟨fun b ob hb => ?_, by simpa using S.len, fun j sl ej => ?_, fun j hj => ?_, fun j k b hj hk => ?_, fun j b hj => ?_⟩, ?_⟩
  · rw [upd_ne (ne_of_none hb h1a)]; exact S.sub b ob hb
  · by_cases hji : j = i
    · subst hji
      rw [List.getElem?_set_self hi] at ej
      cases ej
      rw [if_pos rfl]
      refine ⟨_, g1, ⟨a, dx, us' u us, ds', ff', rfl, rfl, rfl, upd_same, by rw [upd_ne adx]; exact hd, k2, k1, ?_⟩, g3⟩
      refine List.nodup_cons.mpr ⟨fun q => ?_, List.nodup_cons.mpr ⟨fun q => ?_, k3⟩⟩
      · simp only [List.mem_cons] at q
        rcases q with q | q
        · exact adx q.symm
        · rcases k4 a q with q | q
          · exact aff q
          · exact (fa a q).1 rfl
      · rcases k4 dx q with q | q
        · exact dff q
        · exact (fa dx q).2.1 rfl
    · rw [List.getElem?_set_ne (Ne.symm hji)] at ej
      rw [if_neg hji]
      have q := S.slot j sl ej
      cases sl with
      | no => exact q
      | «at» io' sh d' =>
        obtain ⟨w, a1, a2, a3⟩ := q
        refine ⟨w, a1, a2.step (fun _ _ h => h) fun b ob hb h => ?_, a3⟩
        have ne : b ≠ a := fun q => hji (S.nd j i b hb (by rw [q]; exact aF))
        rw [upd_ne ne]; exact h
  · have hj' : v.length ≤ j := by simpa using hj
    rw [if_neg (by omega)]
    exact S.out j hj'
  · try dsimp only at hj hk
    split at hj
    · rename_i e1
      split at hk
      · rename_i e2; rw [e1, e2]
      · rcases mem' b hj with q | q
        · rw [e1]; exact S.nd i k b q hk
        · exact absurd ⟨k, hk⟩ (ap b q)
    · split at hk
      · rename_i e2
        rcases mem' b hk with q | q
        · rw [e2]; exact S.nd j i b hj q
        · exact absurd ⟨j, hj⟩ (ap b q)
      · exact S.nd j k b hj hk
  · try dsimp only at hj
    split at hj
    · rcases mem' b hj with q | q
      · exact S.dis i b q
      · exact dj b q
    · exact S.dis j b hj
  · refine (Tr.write (O := fun b => OF F b ∨ b ∈ f) (.inl ⟨i, aF⟩)).weak (fun _ q => q) fun b hb => .inr ?_
    obtain ⟨j, hj⟩ := hb
    try dsimp only at hj
    split at hj
    · rcases mem' b hj with q | q
      · exact .inl ⟨i, q⟩
      · exact .inr q
    · exact .inl ⟨j, hj⟩
end
section
variable {Φ : Tab} {cl : Nat → Addr × List Str} {N : List Str} {n : Nat} {c : Sx} {X : Cx} {ent : Nat → Option V} {x : Stmt}
theorem fs?_rf {M : Mw} {H1 H : Hp} {s : Sh} {fd : Fs} {u : V} {d : D} {f : List Addr} (h : s.fs? = some fd) (r : RS M H1 H s u d f) : RF M H1 H fd u d f := by
  cases s <;> cases h <;> exact r
theorem go_fset (gE : GoE Φ cl N n) (C : Cn Φ cl X) (A : At Φ.cl X N c) {i k j : Nat} {e : E} (h : ckS N (n + 1) c x (.fset i k j e) = true) : PS X x (tS (mw X cl) ent (lev Φ (n + 1)).s (.fset i k j e)) := by
  simp only [ckS] at h
  split at h
  · rename_i y py f pf val pos
    simp only [Bool.and_eq_true] at h
    obtain ⟨⟨⟨⟨k1, k2⟩, k3⟩, k4⟩, k5⟩ := h
    have kn := okName_of k3
    have k6 := of_decide_eq_true k4
    rw [← A.ct] at k6
    obtain ⟨f1, f2⟩ := C.fld k j f k6
    obtain ⟨cn1, cn2⟩ := C.cnd k
    have nm := C.nm k
    refine PS.mono (ps_fld (pe_var (i := i) (by rw [A.n]; exact of_decide_eq_true k1) (vis_of A k2) kn.1 kn.2.1) (gE c val e k5 X C A ent).1 sw_attT) fun Dn σ H q => ?_
    obtain ⟨v, H1, F, o, S, ev, q⟩ := q
    change stepS (lev Φ n).e (lev Φ n).s (.fset i k j e) v = _ at ev
    simp only [stepS] at ev
    split at ev
    · rename_i s d v1 e1
      split at ev
      · rename_i fd io c' ss c'' ds es ei
        split at ev
        · rename_i hc
          obtain ⟨rfl, rfl⟩ := hc
          have jl : j < (Φ.cl k).fs.length := (List.getElem?_eq_some_iff.mp k6).1
          refine ⟨v, H1, F, s, d, v1, S, e1, fun u Ha Hb Fa fp p => ?_⟩
          have rf := fs?_rf es p.rs
          split at ev
          · rename_i hj
            cases ev
            obtain ⟨a, dx, us, g1, g2, g3, g4, F', S', t'⟩ := p.sv.fset (us' := fun u us => us.set j u) ei p.ap p.dj rf (.inl ⟨j, hj, rfl, rfl, rfl⟩)
            refine ⟨_, g1, a, _, dx, _, rfl, g2, f1, f2, ?_, ?_⟩
            · rw [List.length_zip]
              show min (cl k).2.length us.length < 1000
              rw [nm]; omega
            · have pe : putF f u (((mw X cl).cl k).2.zip us) = ((mw X cl).cl k).2.zip (us.set j u) := by
                show putF f u ((cl k).2.zip us) = (cl k).2.zip (us.set j u)
                rw [nm]
                exact putF_set cn1 k6 (by omega)
              rw [pe]
              exact q σ Ha _ F' (p.tr.trans t') S'
          · split at ev
            · rename_i hj1 hj
              cases ev
              obtain ⟨a, dx, us, g1, g2, g3, g4, F', S', t'⟩ := p.sv.fset (us' := fun u us => us ++ [u]) ei p.ap p.dj rf (.inr ⟨rfl, rfl, by show ss.length < (cl k).2.length; rw [nm]; omega, rfl⟩)
              refine ⟨_, g1, a, _, dx, _, rfl, g2, f1, f2, ?_, ?_⟩
              · rw [List.length_zip]
                show min (cl k).2.length us.length < 1000
                rw [nm]; omega
              · have pe : putF f u (((mw X cl).cl k).2.zip us) = ((mw X cl).cl k).2.zip (us ++ [u]) := by
                  show putF f u ((cl k).2.zip us) = (cl k).2.zip (us ++ [u])
                  rw [nm]
                  exact putF_app cn1 (by rw [g3, ← hj]; exact k6)
                rw [pe]
                exact q σ Ha _ F' (p.tr.trans t') S'
            · cases ev
        · cases ev
      · cases ev
    · cases ev
  · cases h
theorem go_aug (gE : GoE Φ cl N n) (C : Cn Φ cl X) (A : At Φ.cl X N c) {i : Nat} {o : Bop} {e : E} (h : ckS N (n + 1) c x (.aug i o e) = true) : PS X x (tS (mw X cl) ent (lev Φ (n + 1)).s (.aug i o e)) := by
  simp only [ckS] at h
  split at h
  · rename_i y py op val pos
    simp only [Bool.and_eq_true] at h
    obtain ⟨⟨⟨⟨k1, k2⟩, k3⟩, k4⟩, k5⟩ := h
    obtain ⟨l1, l2⟩ := loc_of A k2
    have eo := of_decide_eq_true k3
    subst eo
    have hN : X.N[i]? = some y := by rw [A.n]; exact of_decide_eq_true k1
    have parts : ∀ {v : Ev} {r : Out}, stepS (lev Φ n).e (lev Φ n).s (.aug i o e) v = some r → ∃ a b v1 d v2, v[i]? = some (.at false .sh (.int a)) ∧ evv (lev Φ n).e e v = some (.int b, v1) ∧ bin o (.int a) (.int b) = some (.sh, d) ∧ setN v1 i .sh d = some v2 ∧ r = .nx v2 := by
      intro v r ev
      simp only [stepS] at ev
      split at ev
      · rename_i x0 e0
        split at ev
        · rename_i y0 v1 e1
          split at ev
          · rename_i a b
            split at ev
            · rename_i d eb
              split at ev
              · rename_i v2 es
                cases ev
                exact ⟨a, b, v1, d, v2, e0, e1, eb, es, rfl⟩
              · cases ev
            · cases ev
          · cases ev
        · cases ev
      · cases ev
    have fin : ∀ (Dn : Ends) (σ : L2.St) (H : Hp) (fi : Int → Int → Int), (∀ a b, bin o (.int a) (.int b) = some (.sh, .int (fi a b))) → tS (mw X cl) ent (lev Φ (n + 1)).s (.aug i o e) Dn σ H → tAug i (tV (mw X cl) ent (lev Φ n).e e) (ipI fi) Dn σ H := by
      intro Dn σ H fi hb q
      obtain ⟨v, H1, F, r, S, ev, q⟩ := q
      obtain ⟨a, b, v1, d, v2, e0, e1, eb, es, rfl⟩ := parts ev
      obtain ⟨u, h1, ⟨h2, _⟩, _⟩ := S.slot i _ e0
      cases h2
      rw [hb] at eb
      cases eb
      refine ⟨_, h1, tV_of S e1 fun w Ha Hb Fa ta Sa rw' => ?_⟩
      cases rw'
      refine ⟨a, b, rfl, rfl, ?_⟩
      obtain ⟨S', _⟩ := Sa.setN (f := []) (u := .int (fi a b)) (s := .sh) ⟨.int _, rfl⟩ (fun b hb => by simp at hb) (fun b hb => by simp at hb) es
      refine q _ Ha Hb _ (ta.trans (Tr.refl fun b hb => ?_)) S'
      obtain ⟨j, hj⟩ := hb
      try dsimp only at hj
      split at hj
      · simp at hj
      · exact ⟨j, hj⟩
    rcases of_decide_eq_true k4 with rfl | rfl
    · exact PS.mono (ps_aug (i := i) C.nd hN l1 (gE.v (ent := ent) k5 C A) ip_add l2) fun Dn σ H q => fin Dn σ H _ (fun a b => rfl) q
    · exact PS.mono (ps_aug (i := i) C.nd hN l1 (gE.v (ent := ent) k5 C A) ip_sub l2) fun Dn σ H q => fin Dn σ H _ (fun a b => rfl) q
  · cases h
end
theorem goS (Φ : Tab) (cl : Nat → Addr × List Str) (N : List Str) : ∀ n, GoS Φ cl N n
  | 0 => fun c x s _ h => by cases h
  | n + 1 => fun c x s hk h X C A ent => by
    have gE := goE Φ cl N n
    have gS := goS Φ cl N n
    have hkX : X.env.scope.kind = .function := by rw [A.sc]; exact hk
    cases s with
    | asg t e =>
      simp only [ckS] at h
      split at h
      · rename_i tg val pos
        simp only [Bool.and_eq_true] at h
        obtain ⟨⟨⟨k1, k2⟩, k3⟩, k4⟩ := h
        cases tg with
        | Tuple xs kx px =>
          refine PS.mono (ps_asg (gE.v (ent := ent) k2 C A) (go_tg (Φ := Φ) (ent := ent) n _ t k1 X C A) (sw_tupT k2) (sws_none k4) rfl) fun Dn σ H q => ?_
          obtain ⟨v, H1, F, o, S, ev, q⟩ := q
          change stepS (lev Φ n).e (lev Φ n).s (.asg t e) v = _ at ev
          simp only [stepS] at ev
          split at ev
          · rename_i d v1 e1
            split at ev
            · rename_i v2 e2
              cases ev
              refine tV_of S e1 fun u Ha Hb Fa ta Sa r => ⟨v1, Ha, Fa, d, v2, Sa, r, e2, fun σ' F' hF S' _ => ?_⟩
              exact q σ' Ha Hb F' (ta.trans (Tr.refl hF)) S'
            · cases ev
          · cases ev
        | _ => cases k3
      · cases h
    | set i e =>
      simp only [ckS] at h
      split at h
      · rename_i y py val pos
        simp only [Bool.and_eq_true] at h
        obtain ⟨⟨⟨k1, k2⟩, k3⟩, k4⟩ := h
        obtain ⟨l1, l2⟩ := loc_of A k2
        have hN : X.N[i]? = some y := by rw [A.n]; exact of_decide_eq_true k1
        have fin : ∀ (Dn : Ends) (σ : L2.St) (H : Hp), tS (mw X cl) ent (lev Φ (n + 1)).s (.set i e) Dn σ H → tE (mw X cl) ent (lev Φ n).e e σ H fun u H' => Dn.nx (σ.set i (some u)) H' := by
          intro Dn σ H q
          obtain ⟨v, H1, F, o, S, ev, q⟩ := q
          change stepS (lev Φ n).e (lev Φ n).s (.set i e) v = _ at ev
          simp only [stepS] at ev
          split at ev
          · rename_i s d v1 e1
            split at ev
            · rename_i v2 e2
              cases ev
              refine ⟨v, H1, F, s, d, v1, S, e1, fun u Ha Hb Fa f p => ?_⟩
              obtain ⟨S', _⟩ := p.sv.setN p.rs p.ap p.dj e2
              refine q _ Ha Hb _ (p.tr.trans (Tr.refl fun b hb => ?_)) S'
              obtain ⟨j, hj⟩ := hb
              try dsimp only at hj
              split at hj
              · exact .inr hj
              · exact .inl ⟨j, hj⟩
            · cases ev
          · cases ev
        cases hb : swB c y py val with
        | false =>
          exact PS.mono (ps_set (i := i) C.nd hN l1 (gE c val e k3 X C A ent).1 (sw_false A.sc hkX k3 hb) l2) fun Dn σ H q => fin Dn σ H q
        | true =>
          rw [hb] at k4
          cases val with
          | ListComp elt gs scope p =>
            cases e with
            | lc vs t it cond e =>
              cases n with
              | zero => cases k3
              | succ m =>
                obtain ⟨tg, iter, ifs, own, rfl, hown, hs, ok, pi, pg, pts, pe, hf⟩ := lc_parts (ent := ent) (goE Φ cl N m) C A k3
                simp only [swB, Bool.and_eq_true, Bool.not_eq_true'] at hb
                obtain ⟨⟨b1, b2⟩, b3⟩ := hb
                have hyl : X.env.scope.names.lookup y = some .local := by rw [A.sc]; exact of_decide_eq_true b1
                refine PS.mono (ps_setLc (i := i) (own := own) C.calm C.nd hN hyl (sw_true hkX hyl b2 b3) pi ok pg pts pe hf) fun Dn σ H q => ?_
                obtain ⟨v, H1, F, s, d, v', S, ev, q⟩ := fin Dn σ H q
                change stepE Φ (lev Φ m).e (.lc vs t it cond e) v = _ at ev
                simp only [stepE] at ev
                split at ev
                · rename_i xs v1 e1
                  split at ev
                  · rename_i ds v2 e2
                    cases ev
                    show tLc _ _ _ _ (own.map (·.2)) σ H _
                    rw [hown]
                    exact tLc_of hs S e1 e2 q
                  · cases ev
                · cases ev
            | _ => cases k4
          | _ => cases hb
      · cases h
    | par ts es =>
      simp only [ckS] at h
      split at h
      · rename_i tgs kt pt vals kv pv pos
        simp only [Bool.and_eq_true] at h
        obtain ⟨⟨⟨⟨⟨k1, k2⟩, k3⟩, k4⟩, k5⟩, k6⟩ := h
        exact go_par gE hk C A k1 k2 (of_decide_eq_true k3) (of_decide_eq_true k4) (of_decide_eq_true k5) (by
          cases z : swD c tgs vals with
          | none => rw [z] at k6; cases k6
          | some b =>
            cases b with
            | false => rfl
            | true => rw [z] at k6; exact k6)
      · cases h
    | expr e =>
      simp only [ckS] at h
      split at h
      · rename_i val pos
        obtain ⟨k1, k2⟩ := Bool.and_eq_true_iff.mp h
        refine PS.mono (ps_expr (gE.v (ent := ent) k2 C A) (sw_other (t := val) k1 (ckE_noSC k2).1 (ckE_noSC k2).2 none)) fun Dn σ H q => ?_
        obtain ⟨v, H1, F, o, S, ev, q⟩ := q
        change stepS (lev Φ n).e (lev Φ n).s (.expr e) v = _ at ev
        simp only [stepS] at ev
        split at ev
        · rename_i d v1 e1
          cases ev
          exact tV_of S e1 fun u Ha Hb Fa ta Sa r => q σ Ha Hb Fa ta Sa
        · cases ev
      · cases h
    | ret e =>
      simp only [ckS] at h
      split at h
      · rename_i val pos
        refine PS.mono (ps_ret (gE c val e h X C A ent).1) fun Dn σ H q => ?_
        obtain ⟨v, H1, F, o, S, ev, q⟩ := q
        change stepS (lev Φ n).e (lev Φ n).s (.ret e) v = _ at ev
        simp only [stepS] at ev
        split at ev
        · rename_i s d v1 e1
          cases ev
          exact ⟨v, H1, F, s, d, v1, S, e1, fun u Ha Hb Fa f p => q σ u Ha Hb Fa f p⟩
        · cases ev
      · cases h
    | retN =>
      simp only [ckS] at h
      split at h
      · refine PS.mono ps_retN fun Dn σ H q => ?_
        obtain ⟨v, H1, F, o, S, ev, q⟩ := q
        change stepS (lev Φ n).e (lev Φ n).s .retN v = _ at ev
        simp only [stepS] at ev
        cases ev
        exact q σ _ H1 H F [] (S.post .non)
      · cases h
    | ite t a b =>
      simp only [ckS] at h
      split at h
      · rename_i y z w pos
        simp only [Bool.and_eq_true] at h
        obtain ⟨⟨⟨kt, k1⟩, k2⟩, k3⟩ := h
        refine PS.mono (ps_if ((gE c y t k1 X C A ent).2 kt) (gS.block (ent := ent) hk C A k2) (gS.block (ent := ent) hk C A k3)) fun Dn σ H q => ?_
        obtain ⟨v, H1, F, o, S, ev, q⟩ := q
        change stepS (lev Φ n).e (lev Φ n).s (.ite t a b) v = _ at ev
        simp only [stepS] at ev
        split at ev
        · rename_i v1 e1
          refine tB_of S e1 fun Ha Hb Fa ta Sa => ?_
          rw [if_pos rfl]
          exact ⟨v1, Ha, Fa, o, Sa, ev, q.step ta⟩
        · rename_i v1 e1
          refine tB_of S e1 fun Ha Hb Fa ta Sa => ?_
          rw [if_neg Bool.false_ne_true]
          exact ⟨v1, Ha, Fa, o, Sa, ev, q.step ta⟩
        · cases ev
      · cases h
    | for_ t it b =>
      simp only [ckS] at h
      split at h
      · rename_i tg iter body pos
        simp only [Bool.and_eq_true] at h
        exact go_for gE gS hk C A h.1.1 h.1.2 h.2
      · cases h
    | while_ m t b =>
      simp only [ckS] at h
      split at h
      · rename_i y body pos
        simp only [Bool.and_eq_true] at h
        exact go_while gE gS hk C A h.1.1 h.1.2 h.2
      · cases h
    | pass =>
      simp only [ckS] at h
      split at h
      · refine PS.mono ps_pass fun Dn σ H q => ?_
        obtain ⟨v, H1, F, o, S, ev, q⟩ := q
        change stepS (lev Φ n).e (lev Φ n).s .pass v = _ at ev
        simp only [stepS] at ev
        cases ev
        exact q σ H1 H F (Tr.refl fun _ h => h) S
      · cases h
    | brk =>
      simp only [ckS] at h
      split at h
      · refine PS.mono ps_break fun Dn σ H q => ?_
        obtain ⟨v, H1, F, o, S, ev, q⟩ := q
        change stepS (lev Φ n).e (lev Φ n).s .brk v = _ at ev
        simp only [stepS] at ev
        cases ev
        exact q σ H1 H F (Tr.refl fun _ h => h) S
      · cases h
    | cont =>
      simp only [ckS] at h
      split at h
      · refine PS.mono ps_continue fun Dn σ H q => ?_
        obtain ⟨v, H1, F, o, S, ev, q⟩ := q
        change stepS (lev Φ n).e (lev Φ n).s .cont v = _ at ev
        simp only [stepS] at ev
        cases ev
        exact q σ H1 H F (Tr.refl fun _ h => h) S
      · cases h
    | app p e => exact go_app gE (goN Φ cl N n) C A h
    | ext p e => exact go_ext gE (goN Φ cl N n) C A h
    | put p k e => exact go_put gE (goN Φ cl N n) C A h
    | fset i k j e => exact go_fset gE C A h
    | aug i o e => exact go_aug gE C A h
    | fz i => cases h
    | wipe i => cases h
    | raise_ =>
      refine PS.mono ps_never fun Dn σ H q => ?_
      obtain ⟨v, H1, F, o, S, ev, q⟩ := q
      cases ev
end Q

set_option Elab.async false
set_option linter.all false
set_option maxRecDepth 100000
set_option maxHeartbeats 8000000
/-! R16: a def keeps the promise of its run; tables of defs. -/
namespace Q
open PySem L2 PySem.Spec PyProof.Rows
def ioF : List (Sh × D) → List (List Addr) → Nat → List Addr
  | [], _, _ => []
  | p :: _, fs, 0 => if p.1 = .sh then [] else fs.headD []
  | p :: ps, fs, i + 1 => ioF ps (if p.1 = .sh then fs else fs.tail) i
def ioL : List (Sh × D) → (Nat → List Addr) → Nat → List (List Addr)
  | [], _, _ => []
  | p :: ps, F, k => if p.1 = .sh then ioL ps F (k + 1) else F k :: ioL ps F (k + 1)
theorem ioF_sh0 {d : D} {ps : List (Sh × D)} {fs : List (List Addr)} : ioF ((.sh, d) :: ps) fs 0 = [] := by simp [ioF]
theorem ioF_shS {d : D} {ps : List (Sh × D)} {fs : List (List Addr)} {i : Nat} : ioF ((.sh, d) :: ps) fs (i + 1) = ioF ps fs i := by simp [ioF]
theorem ioF_io0 {s : Sh} {d : D} {ps : List (Sh × D)} {f : List Addr} {fs : List (List Addr)} (h : s ≠ .sh) : ioF ((s, d) :: ps) (f :: fs) 0 = f := by simp [ioF, h]
theorem ioF_ioS {s : Sh} {d : D} {ps : List (Sh × D)} {f : List Addr} {fs : List (List Addr)} {i : Nat} (h : s ≠ .sh) : ioF ((s, d) :: ps) (f :: fs) (i + 1) = ioF ps fs i := by simp [ioF, h]
theorem ioL_sh {d : D} {ps : List (Sh × D)} {F : Nat → List Addr} {k : Nat} : ioL ((.sh, d) :: ps) F k = ioL ps F (k + 1) := by simp [ioL]
theorem ioL_io {s : Sh} {d : D} {ps : List (Sh × D)} {F : Nat → List Addr} {k : Nat} (h : s ≠ .sh) : ioL ((s, d) :: ps) F k = F k :: ioL ps F (k + 1) := by simp [ioL, h]
def slotOf (p : Sh × D) : Slot := match p.1 with | .sh => Slot.at false .sh p.2 | s => Slot.at true s p.2
section
variable {M : Mw} {H1 H H1' H' : Hp} {ps : List (Sh × D)} {vs : List V} {fs : List (List Addr)}
theorem ioF_mem (h : Io M H1 H ps vs fs) : ∀ i b, b ∈ ioF ps fs i → MF fs b := by
  induction h with
  | nil => intro i b hb; simp [ioF] at hb
  | sh r _ ih =>
    intro i b hb
    cases i with
    | zero => rw [ioF_sh0] at hb; cases hb
    | succ i => rw [ioF_shS] at hb; exact ih i b hb
  | io hs r _ ih =>
    intro i b hb
    cases i with
    | zero => rw [ioF_io0 hs] at hb; exact mf_cons.mpr (.inl hb)
    | succ i => rw [ioF_ioS hs] at hb; exact mf_cons.mpr (.inr (ih i b hb))
theorem ioF_nd (h : Io M H1 H ps vs fs) : Sep fs → ∀ i j b, b ∈ ioF ps fs i → b ∈ ioF ps fs j → i = j := by
  induction h with
  | nil => intro _ i j b hb; simp [ioF] at hb
  | sh r _ ih =>
    intro sp i j b hi hj
    cases i with
    | zero => rw [ioF_sh0] at hi; cases hi
    | succ i =>
      cases j with
      | zero => rw [ioF_sh0] at hj; cases hj
      | succ j => rw [ioF_shS] at hi hj; rw [ih sp i j b hi hj]
  | io hs r io ih =>
    intro sp i j b hi hj
    obtain ⟨sp1, sp2⟩ := sep_tail sp
    cases i with
    | zero =>
      rw [ioF_io0 hs] at hi
      cases j with
      | zero => rfl
      | succ j => rw [ioF_ioS hs] at hj; exact absurd (ioF_mem io j b hj) (sp2 b hi)
    | succ i =>
      rw [ioF_ioS hs] at hi
      cases j with
      | zero => rw [ioF_io0 hs] at hj; exact absurd (ioF_mem io i b hi) (sp2 b hj)
      | succ j => rw [ioF_ioS hs] at hj; rw [ih sp1 i j b hi hj]
theorem Io.len (h : Io M H1 H ps vs fs) : vs.length = ps.length := by
  induction h with
  | nil => rfl
  | sh _ _ ih => simp [ih]
  | io _ _ _ ih => simp [ih]
theorem ioF_slot (h : Io M H1 H ps vs fs) : ∀ (i : Nat) (p : Sh × D), ps[i]? = some p → ∃ u, vs[i]? = some u ∧ RS M H1 H p.1 u p.2 (ioF ps fs i) := by
  induction h with
  | nil => intro i p e; simp at e
  | @sh v d ps vs fs r _ ih =>
    intro i p e
    cases i with
    | zero => cases e; rw [ioF_sh0]; exact ⟨v, rfl, r, rfl⟩
    | succ i => obtain ⟨u, h1, h2⟩ := ih i p (by simpa using e); rw [ioF_shS]; exact ⟨u, by simpa using h1, h2⟩
  | @io s v d f ps vs fs hs r _ ih =>
    intro i p e
    cases i with
    | zero => cases e; rw [ioF_io0 hs]; exact ⟨v, rfl, r⟩
    | succ i => obtain ⟨u, h1, h2⟩ := ih i p (by simpa using e); rw [ioF_ioS hs]; exact ⟨u, by simpa using h1, h2⟩
theorem ioF_out : ∀ {ps : List (Sh × D)} {fs : List (List Addr)} {i : Nat}, ps.length ≤ i → ioF ps fs i = []
  | [], _, _, _ => rfl
  | (s, d) :: ps, fs, 0, h => by simp at h
  | (s, d) :: ps, fs, i + 1, h => by
    have h' : ps.length ≤ i := by simpa using h
    show ioF ps (if s = .sh then fs else fs.tail) i = []
    exact ioF_out h'
/-- the entry -/
theorem SV.entry {n : Nat} {N : List Str} (h : Io M H1 H ps vs fs) (hl : ps.length ≤ N.length) (sub : Same H1 H) (sp : Sep fs) (dj : ∀ b, MF fs b → H1 b = none) :
    SV M (fun i => vs[i]?) (L2.start N vs) (Q.start N.length ps) H1 H (ioF ps fs) := by
  have vl := h.len
  refine ⟨sub, ?_, fun i sl e => ?_, fun i hi => ?_, fun i j b hi hj => ioF_nd h sp i j b hi hj, fun i b hi => dj b (ioF_mem h i b hi)⟩
  · unfold Q.start L2.start
    simp only [List.length_append, List.length_map, List.length_replicate]
    omega
  · unfold Q.start at e
    by_cases hi : i < ps.length
    · rw [List.getElem?_append_left (by simpa using hi), List.getElem?_map] at e
      have ep : ps[i]? = some ps[i] := by simp [hi]
      rw [ep] at e
      obtain ⟨u, h1, h2⟩ := ioF_slot h i _ ep
      have hσ : (L2.start N vs)[i]? = some (some u) := by
        unfold L2.start
        rw [List.getElem?_append_left (by simpa [vl] using hi), List.getElem?_map, h1]
        rfl
      generalize ps[i] = p at *
      obtain ⟨s, d⟩ := p
      cases s with
      | sh => cases e; exact ⟨u, hσ, h2, fun z => by cases z⟩
      | _ => cases e; exact ⟨u, hσ, h2, fun _ => h1⟩
    · rw [List.getElem?_append_right (by simpa using Nat.le_of_not_lt hi)] at e
      have : sl = .no := by
        have := List.mem_of_getElem? e
        exact (List.mem_replicate.mp this).2
      subst this
      exact ioF_out (Nat.le_of_not_lt hi)
  · unfold Q.start at hi
    simp only [List.length_append, List.length_map, List.length_replicate] at hi
    exact ioF_out (by omega)
/-- the exit -/
theorem outs_io {s : Sh} {d : D} {ps : List (Sh × D)} {x : Slot} {vt : Ev} {new : List (Sh × D)} (hs : s ≠ .sh) (h : outs ((s, d) :: ps) (x :: vt) = some new) : ∃ s' d' nr, x = .at true s' d' ∧ outs ps vt = some nr ∧ new = (s', d') :: nr := by
  cases s with
  | sh => exact absurd rfl hs
  | _ =>
    cases x with
    | no => cases h
    | «at» b s' d' =>
      cases b with
      | false => cases h
      | true =>
        simp only [outs] at h
        cases z : outs ps vt with
        | none => rw [z] at h; cases h
        | some nr => rw [z] at h; cases h; exact ⟨_, _, _, rfl, rfl, rfl⟩
theorem no_of {ent : Nat → Option V} {σ : L2.St} {F' : Nat → List Addr} : ∀ {ps : List (Sh × D)} {vs : List V} {fs : List (List Addr)} {k : Nat} {vt : Ev} {new : List (Sh × D)}, Io M H1 H ps vs fs → (∀ i sl, vt[i]? = some sl → SlotOk M ent σ H1' H' (k + i) (F' (k + i)) sl) → (∀ (i : Nat) u, vs[i]? = some u → ent (k + i) = some u) →
    outs ps vt = some new → No M H1' H' ps vs new (ioL ps F' k)
  | _, _, _, k, vt, new, .nil, _, _, h => by cases h; exact .nil
  | _, _, _, k, vt, new, @Io.sh _ _ _ v d ps vs fs r io, hs, he, h => by
    cases vt with
    | nil => cases h
    | cons x vt =>
      have h' : outs ps vt = some new := h
      rw [ioL_sh]
      exact .sh (no_of io (fun i sl e => by have := hs (i + 1) sl (by simpa using e); rw [show k + 1 + i = k + (i + 1) by omega]; exact this) (fun i u e => by rw [show k + 1 + i = k + (i + 1) by omega]; exact he (i + 1) u (by simpa using e)) h')
  | _, _, _, k, vt, new, @Io.io _ _ _ s v d f ps vs fs hsh r io, hs, he, h => by
    cases vt with
    | nil => cases s <;> first | exact absurd rfl hsh | cases h
    | cons x vt =>
      obtain ⟨s', d', nr, rfl, h3, rfl⟩ := outs_io hsh h
      obtain ⟨u, hu, hr, hent⟩ := hs 0 _ rfl
      have e0 := hent rfl
      rw [show k + 0 = k from rfl] at e0 hr
      have e1 := he 0 v rfl
      rw [show k + 0 = k from rfl] at e1
      rw [e0] at e1
      cases e1
      have ih := no_of (k := k + 1) io (fun i sl e => by have := hs (i + 1) sl (by simpa using e); rw [show k + 1 + i = k + (i + 1) by omega]; exact this) (fun i u e => by rw [show k + 1 + i = k + (i + 1) by omega]; exact he (i + 1) u (by simpa using e)) h3
      rw [ioL_io hsh]
      exact .io hsh hr ih
theorem ioL_mem {F' : Nat → List Addr} : ∀ {ps : List (Sh × D)} {k : Nat} {f : List Addr}, f ∈ ioL ps F' k → ∃ i, k ≤ i ∧ f = F' i
  | [], _, _, h => by simp [ioL] at h
  | (s, d) :: ps, k, f, h => by
    by_cases hs : s = .sh
    · subst hs
      rw [ioL_sh] at h
      obtain ⟨i, h1, h2⟩ := ioL_mem h; exact ⟨i, by omega, h2⟩
    · rw [ioL_io hs] at h
      rcases List.mem_cons.mp h with h | h
      · exact ⟨k, Nat.le_refl _, h⟩
      · obtain ⟨i, h1, h2⟩ := ioL_mem h; exact ⟨i, by omega, h2⟩
theorem ioL_sep {F' : Nat → List Addr} (nd : ∀ i j b, b ∈ F' i → b ∈ F' j → i = j) : ∀ {ps : List (Sh × D)} {k : Nat}, Sep (ioL ps F' k)
  | [], _ => fun i j f g b hi => by simp [ioL] at hi
  | (s, d) :: ps, k => by
    by_cases hs : s = .sh
    · subst hs; rw [ioL_sh]; exact ioL_sep nd
    · rw [ioL_io hs]
      exact sep_cons (ioL_sep nd) fun b hb ⟨g, hg, hbg⟩ => by
        obtain ⟨i, h1, rfl⟩ := ioL_mem hg
        have := nd k i b hb hbg
        omega
end

/-! ### promises under known guards -/
/-- what a def promises; gu: only where no guard stands around -/
structure FnG (gu : Bool) (P : Program) (w : World) (K : PySem.W.Frag) (mg : Str → Option Value) (base : Heap) (CX : CXT) (k : Nat) (f : Addr) (fd : FuncData) (ps : List Str) (sp : Sp) : Prop where
  lens : ∀ vs H Q E, sp vs H Q E → vs.length = ps.length
  go : ∀ (A : Around) (gs : gu = true → A.guards = some []) (rm : Room k A) (fr : List Env) (st : Shared) (H : Hp) (e0 : Env0 P w K mg base A fr st H) (ar : Args) (us : List Value), BindsTo st fd ar (ps.zip us) →
    ∀ (vs : List V), Vals vs us → ∀ (Q : VK) (E : XK), sp vs H Q E → codeAny (model P w) A (.call (.ref f) ar) (CR CX fr P w H st Q E) st
section
variable {gu : Bool} {P : Program} {w : World} {K : PySem.W.Frag} {mg : Str → Option Value} {base : Heap} {CX : CXT} {k : Nat} {f : Addr} {fd : FuncData} {ps : List Str} {sp : Sp}
theorem FnG.low {j : Nat} (F : FnG gu P w K mg base CX j f fd ps sp) (h : j ≤ k) : FnG gu P w K mg base CX k f fd ps sp :=
  ⟨F.lens, fun A gs rm => F.go A gs (rm.mono h)⟩
theorem FnG.ok (F : FnG gu P w K mg base CX k f fd ps sp) (h : gu = false) : FnOk P w K mg base CX k f fd ps sp :=
  ⟨F.lens, fun A fr st H ar us vs Q E rm e0 hb hv hs => F.go A (fun z => by rw [h] at z; cases z) rm fr st H e0 ar us hb vs hv Q E hs⟩
theorem FnG.callOk {cl : Nat → Addr × List Str} {y : Str} {Fm : Fn} (F : FnG gu P w K mg base CX0 k f fd ps (spOf ⟨K, P, w, cl⟩ Fm)) (hm : mg y = some (.ref f)) (hk : PySem.W.keepIn K (.ref f) = true) (hb : Binds K fd ps []) {A : Around} (gs : gu = true → A.guards = some []) (rm : Room k A) : CallOk P w K mg base A cl y Fm := by
  have one : ∀ (X : Cx) (pins : List (Addr × Obj)) (σ : L2.St) (H : Hp) (st : Shared) (Q : VK) (us : List Value) (vs : List V), X.prog = P → X.w = w → X.K = K → X.mg = mg → X.base = base → X.A = A → Inv X pins σ H st → Vals vs us → spOf ⟨K, P, w, cl⟩ Fm (vs ++ []) H Q E0 →
      wpAny (model X.prog X.w) X.A (call (.ref f) us) (EP X pins σ Q) X.xe st := by
    intro X pins σ H st Q us vs h1 h2 h3 h4 h5 h6 I rv hs
    subst h1 h2 h3 h4 h5 h6
    rw [List.append_nil] at hs
    have hl : us.length = ps.length := rv.length.symm.trans (F.lens _ _ _ _ hs)
    have bnd := hb st us I.kIn (by rw [List.append_nil]; exact hl)
    rw [List.append_nil] at bnd
    have q := F.go X.A gs rm X.stack st H I.env0 ⟨us, []⟩ us bnd vs rv Q E0 hs
    refine wpAny_call (codeAny_mono q fun r st' hq => ?_)
    match r with
    | .error e => exact (hq : False).elim
    | .ok (.ret u) => exact I.after hq
    | .ok .next => exact (hq : False).elim
    | .ok .brk => exact (hq : False).elim
    | .ok .cont => exact (hq : False).elim
  refine ⟨fun X p pos h1 h2 h3 h4 h5 h6 _ hg hd hn => ⟨fun pins st σ H Q I h => ?_⟩, fun X e es t p pos h1 h2 h3 h4 h5 h6 _ hg hd hn ha he hp => ⟨fun pins st σ H Q I h => ?_⟩⟩
  · have KI : K.In st.heap := h3 ▸ I.kIn
    refine wpAny_Call_Name_kw (ld_glob I hg (by rw [h4]; exact hm) ?_ hd)
    exact PySem.W.callWith_K0 KI hk (one X pins σ H st Q [] [] h1 h2 h3 h4 h5 h6 I .nil h)
  · refine wpAny_Call_Name_kw (ld_glob I hg (by rw [h4]; exact hm) ?_ hd)
    refine PySem.W.callWith_K (h₀ := X.base) I.ok.mod.kin (h3 ▸ hk) (thn (ha.run pos pins st σ H _ I h) fun us st1 ⟨vs, H1, I1, rv, q⟩ => ⟨I1.kIn, ?_⟩) he hp
    exact one X pins σ H1 st1 Q us vs h1 h2 h3 h4 h5 h6 I1 rv q
/-- a def by its body -/
theorem okG {x qual : Str} {params : Arguments} {body : List Stmt} {scope : Scope} {dvs : List V} {kws : List (Str × V)} {N : List Str} (F : FunD K x qual params body scope dvs kws f fd) (S : FnScope N ps scope) (len : ∀ vs H Q E, sp vs H Q E → vs.length = ps.length)
    (hbody : ∀ (cdv : Value) (A : Around) (fr : List Env) (st : Shared) (H : Hp) (vs : List V) (Q : VK) (E : XK), (gu = true → (A.deeper (envOfC qual scope st.heap.objs.size f cdv)).guards = some []) → Room k (A.deeper (envOfC qual scope st.heap.objs.size f cdv)) → sp vs H Q E →
      ∃ t, PSs (cxOf CX P w K mg base N qual scope f cdv A fr st H E) body t ∧ t { nx := fun _ H' => Q .non H', rt := Q } (L2.start N vs) H) : FnG gu P w K mg base CX (k + 1) f fd ps sp := by
  obtain ⟨oc, od, dV, kV, doc, pm, an, cdv, ct, osl, rfl, lk, hcd, _, _⟩ := F.ex
  refine ⟨len, fun A gs rm fr st H e0 ar us hb vs rv Q E hs => ?_⟩
  have keepB : ∀ b o, base.get? b = some o → st.heap.get? b = some o := fun b o e => (e0.bs b o e).1
  have KX : K.In st.heap := e0.mod.kin.keeps keepB
  have lim : st.heap.NoLimit := e0.mod.nolimit.keeps keepB
  have kinds : ∀ y ∈ ps.zip us, scope.names.lookup y.1 = some .local ∨ (scope.names.lookup y.1 = some .cell ∧ ((cellsFrom (st.heap.objs.size + 1) scope.names []).lookup y.1).isSome = true) := by
    rintro ⟨y, v⟩ hy
    refine (S.par y (List.of_mem_zip hy).1).imp id fun q => ⟨q, ?_⟩
    exact PySem.W.cellsFrom_some _ _ _ (.inl q)
  obtain ⟨t, ht, hq⟩ := hbody cdv A fr st H vs Q E gs (rm.deeper _) hs
  have hl := len _ _ _ _ hs
  refine codeAny_call_function rm.depth (KX _ _ lk) rfl S.co S.gen rfl (PySem.W.codeRec_of KX hcd) (hb _ _ _ _ (wpAny_newFunctionEnv_cells S.kind kinds ?_))
  rintro env rfl st1 x
  refine ⟨lim.keeps x.toInCall.keep, codeAny_func ?_⟩
  have I := inv_start (CX := CX) (P := P) (K := K) (E := E) S rm.hd e0 hl rv x
  have fin : ∀ {σ' : L2.St} {H' : Hp} {v : V} {u : Value} {st' : Shared}, Inv (cxOf CX P w K mg base N qual scope f cdv A fr st H E) [] σ' H' st' → RelV v u → Q v H' → CE fr P w H st Q u st' :=
    fun J r q => ⟨_, _, J.os, J.bare, J.base, J.hok, r, q⟩
  refine wpAny_mono (ht.run [] st1 _ H _ I hq) (fun fl st' h => ?_) fun _ _ h => h
  match fl with
  | .ret u => obtain ⟨v, σ', H', J, r, q⟩ := h; exact fin J r q
  | .next => obtain ⟨σ', H', J, q⟩ := h; exact fin (v := V.non) (u := Value.none) J rfl q
  | .brk => obtain ⟨_, _, _, q⟩ := h; exact (q : False).elim
  | .cont => obtain ⟨_, _, _, q⟩ := h; exact (q : False).elim
end
/-! ### the module -/
structure Md (P : Program) (w : World) (K : PySem.W.Frag) (mg : Str → Option Value) (base : Heap) (cl : Nat → Addr × List Str) (Φ : Tab) (k : Nat) : Prop where
  blt : ∀ y ∈ bltNames, mg y = none
  gl : ∀ x d, Φ.gl x = some d → ∃ v u, mg x = some u ∧ RelV v u ∧ ∀ H, Rp ⟨K, P, w, cl⟩ H v d
  fn : ∀ f F, Φ.fn f = some F → ∀ A : Around, (Φ.gu = true → A.guards = some []) → Room k A → CallOk P w K mg base A cl f F
  nm : ∀ c : Nat, (cl c).2 = (Φ.cl c).fs
  cnd : ∀ c : Nat, (Φ.cl c).fs.Nodup ∧ (Φ.cl c).fs.length < 1000
  fld : ∀ (c j : Nat) (f : Str), (Φ.cl c).fs[j]? = some f → Cls K (cl c).1 ∧ NoAttr K (cl c).1 f
  mt : ∀ c m F, Φ.mt c m = some F → ∃ a fd ps, FnOk P w K mg base CX0 k a fd ps (spOf ⟨K, P, w, cl⟩ F) ∧ Cls K (cl c).1 ∧ Meth K (cl c).1 m a ∧ Binds K fd ps [] ∧ m ∉ (Φ.cl c).fs
  nw : ∀ c n ks F fl, Φ.nw c n ks = some (F, fl) → flOk fl = true ∧ ∃ a fd ps j, j + 1 ≤ k ∧ FnOk P w K mg base CX0 j a fd ps (spOf ⟨K, P, w, cl⟩ F) ∧ Mk K (cl c).1 a ∧ mg (Φ.cl c).nm = some (.ref (cl c).1) ∧
    ((ks = [] ∧ Binds K fd ps [] ∧ ∀ vs : List V, vs.length = n → fillV vs fl = vs) ∨ (ks ≠ [] ∧ ∃ g gV, KBn K fd ps (n + 1) ks g gV ∧ ∀ u vs zs, vs.length = n → zs.length = ks.length → gV (u :: vs) zs = u :: fillV (vs ++ zs) fl))
  gd : ∀ x kvs, Φ.gd x = some kvs → ∃ a es n, mg x = some (.ref a) ∧ KDict K w a es n ∧ ∀ z i, kvs.lookup z = some i → ∃ u, PySem.W.nsIn K a z = some (some u) ∧ RelV (.int i) u
section
variable {P : Program} {w : World} {K : PySem.W.Frag} {mg : Str → Option Value} {base : Heap} {cl : Nat → Addr × List Str} {Φ : Tab} {k : Nat}
theorem fn_ok (M : Md P w K mg base cl Φ k) {x qual : Str} {args : Arguments} {body : List Stmt} {scope : Scope} {f : Addr} {fd : FuncData} {N ps : List Str} {n : Nat} {B : List S} {Fm : Fn} {dvs : List V} {kws : List (Str × V)}
    (F : FunD K x qual args body scope dvs kws f fd) (Sc : FnScope N ps scope) (hk : scope.kind = .function) (ck : ckL (ckS N n ⟨scope, fun _ => true, Φ.cl⟩) body B = true)
    (hF : ∀ q r, Fm q = some r → q.length = ps.length ∧ run Φ n N.length B q = some r) (hlen : ps.length ≤ N.length) : FnG Φ.gu P w K mg base CX0 (k + 1) f fd ps (spOf ⟨K, P, w, cl⟩ Fm) := by
  refine okG F Sc (fun vs H Q E h => ?_) (fun cdv A outer s H vs Q E gs hr h => ?_)
  · obtain ⟨q, sh, d, new, H1, fs, _, io, _, _, e, _⟩ := h
    rw [io.len, (hF _ _ e).1]
  · obtain ⟨q, sh, d, new, H1, fs, sub, io, sp, dj, e, kk⟩ := h
    obtain ⟨hq, hrun⟩ := hF _ _ e
    let X := (cxOf CX0 P w K mg base N qual scope f cdv A outer s H E).nox
    have C : Cn Φ cl X := ⟨Sc.nd, rfl, rfl, hr.mono (Nat.zero_le _), M.blt, M.gl, fun f F hf => M.fn f F hf _ gs hr, M.nm, M.cnd, M.fld, fun c m F hf => by
      obtain ⟨a, fd, ps, ok, h1, h2, h3, h4⟩ := M.mt c m F hf
      exact ⟨a, fd, ps, k, ok, hr, h1, h2, h3, h4⟩, fun c n ks F fl hf => by
      obtain ⟨h0, a, fd, ps, j, hj, ok, h1, h2, h3⟩ := M.nw c n ks F fl hf
      exact ⟨h0, a, fd, ps, j, ok, hr.mono hj, h1, h2, h3⟩, M.gd⟩
    have At0 : At Φ.cl X N ⟨scope, fun _ => true, Φ.cl⟩ := ⟨rfl, rfl, rfl, rfl⟩
    refine ⟨_, PSs.nox ((goS Φ cl N n).block (ent := fun i => vs[i]?) (X := X) hk C At0 ck), ?_⟩
    have S0 := SV.entry (n := n) (N := N) io (by rw [hq]; exact hlen) sub sp dj
    have mfO : ∀ b, OF (ioF q fs) b → MF fs b := fun b ⟨i, hi⟩ => ioF_mem io i b hi
    unfold run at hrun
    have fin : ∀ (σ' : L2.St) (u : V) (v' : Ev) (H1' H' : Hp) (F' : Nat → List Addr) (g : List Addr) (s0 : Sh) (d0 : D), Post ⟨K, P, w, cl⟩ (fun i => vs[i]?) σ' (ioF q fs) H1 H s0 d0 v' u H1' H' F' g → (outs q v').map (fun ds => (s0, d0, ds)) = some (sh, d, new) → Q u H' := by
      intro σ' u v' H1' H' F' g s0 d0 p eo
      cases zo : outs q v' with
      | none => rw [zo] at eo; cases eo
      | some nw =>
        rw [zo] at eo
        cases eo
        refine kk u H1' H' (ioL q F' 0) g (p.tr.weak mfO fun b hb => ?_) p.sv.sub (no_of (k := 0) io (fun i sl e => by rw [Nat.zero_add]; exact p.sv.slot i sl e) (fun i u e => by rw [Nat.zero_add]; exact e) zo) p.rs (ioL_sep p.sv.nd) (fun b hb => ?_) (fun b hb => ?_)
        · rcases hb with ⟨f, hf, hb⟩ | hb
          · obtain ⟨i, _, rfl⟩ := ioL_mem hf
            exact .inl (.inl ⟨i, hb⟩)
          · exact .inl (.inr hb)
        · obtain ⟨f, hf, hbf⟩ := hb
          obtain ⟨i, _, rfl⟩ := ioL_mem hf
          exact fun z => p.ap b z ⟨i, hbf⟩
        · rcases hb with ⟨f, hf, hb⟩ | hb
          · obtain ⟨i, _, rfl⟩ := ioL_mem hf
            exact p.sv.dis i b hb
          · exact p.dj b hb
    cases ze : ebs (lev Φ n).s B (_root_.Q.start N.length q) with
    | none => rw [ze] at hrun; cases hrun
    | some o =>
      rw [ze] at hrun
      refine ⟨_, H1, _, o, S0, ze, ?_⟩
      cases o with
      | nx v' => exact fun σ' a b c t S' => fin σ' .non v' a b c [] .sh .non ((NewR.old S'.sub .non).post S' t) hrun
      | rt s0 d0 v' => exact fun σ' u a b c g p => fin σ' u v' a b c g s0 d0 p hrun
      | bk v' => cases hrun
      | ct v' => cases hrun
/-- one more def, one more method, one more way to make an instance -/
def Tab.add (Φ : Tab) (x : Str) (F : Fn) : Tab := { Φ with fn := fun y => if y = x then some F else Φ.fn y }
def Tab.addM (Φ : Tab) (c : Nat) (m : Str) (F : Fn) : Tab := { Φ with mt := fun c' y => if c' = c ∧ y = m then some F else Φ.mt c' y }
def Tab.addN (Φ : Tab) (c n : Nat) (ks : List Str) (F : Fn) (fl : List (Sum Nat D)) : Tab := { Φ with nw := fun c' n' ks' => if c' = c ∧ n' = n ∧ ks' = ks then some (F, fl) else Φ.nw c' n' ks' }
theorem Md.up (M : Md P w K mg base cl Φ k) : Md P w K mg base cl Φ (k + 1) := ⟨M.blt, M.gl, fun f F h A gs rm => M.fn f F h A gs (rm.mono (Nat.le_succ k)), M.nm, M.cnd, M.fld, fun c m F h => by
    obtain ⟨a', fd', ps', ok', h1⟩ := M.mt c m F h
    exact ⟨a', fd', ps', ok'.mono (Nat.le_succ k), h1⟩, fun c n ks F fl h => by
    obtain ⟨h0, a', fd', ps', j, hj, h1⟩ := M.nw c n ks F fl h
    exact ⟨h0, a', fd', ps', j, Nat.le_succ_of_le hj, h1⟩, M.gd⟩
theorem Md.add (M : Md P w K mg base cl Φ k) {x : Str} {Fm : Fn} {a : Addr} {fd : FuncData} {ps : List Str} {j : Nat} (ok : FnG Φ.gu P w K mg base CX0 j a fd ps (spOf ⟨K, P, w, cl⟩ Fm)) (hj : j ≤ k + 1) (hm : mg x = some (.ref a)) (hk : PySem.W.keepIn K (.ref a) = true) (hb : Binds K fd ps []) :
    Md P w K mg base cl (Φ.add x Fm) (k + 1) := by
  have U := M.up
  refine ⟨U.blt, U.gl, fun f F h A gs rm => ?_, U.nm, U.cnd, U.fld, U.mt, U.nw, U.gd⟩
  have h' : (if f = x then some Fm else Φ.fn f) = some F := h
  split at h'
  · rename_i e
    subst e
    cases h'
    exact (ok.low hj).callOk hm hk hb gs rm
  · exact U.fn f F h' A gs rm
/-- a name that stands for no def of the text -/
theorem Md.addX (M : Md P w K mg base cl Φ k) {x : Str} {Fm : Fn} (h : ∀ A : Around, (Φ.gu = true → A.guards = some []) → Room k A → CallOk P w K mg base A cl x Fm) : Md P w K mg base cl (Φ.add x Fm) k := by
  refine ⟨M.blt, M.gl, fun f F hf A gs rm => ?_, M.nm, M.cnd, M.fld, M.mt, M.nw, M.gd⟩
  have h' : (if f = x then some Fm else Φ.fn f) = some F := hf
  split at h'
  · rename_i e
    subst e
    cases h'
    exact h A gs rm
  · exact M.fn f F h' A gs rm
/-- from here on no guard stands around -/
def Tab.up (Φ : Tab) : Tab := { Φ with gu := true }
theorem Md.guard (M : Md P w K mg base cl Φ k) (h : Φ.gu = false) : Md P w K mg base cl Φ.up k :=
  ⟨M.blt, M.gl, fun f F hf A _ rm => M.fn f F hf A (fun z => by rw [h] at z; cases z) rm, M.nm, M.cnd, M.fld, M.mt, M.nw, M.gd⟩
theorem Md.addM (M : Md P w K mg base cl Φ k) {c : Nat} {m : Str} {Fm : Fn} {a : Addr} {fd : FuncData} {ps : List Str} {j : Nat} (ok : FnG Φ.gu P w K mg base CX0 j a fd ps (spOf ⟨K, P, w, cl⟩ Fm)) (hj : j ≤ k + 1) (hc : Cls K (cl c).1) (hm : Meth K (cl c).1 m a) (hb : Binds K fd ps []) (hn : m ∉ (Φ.cl c).fs) (hgu : Φ.gu = false := by rfl) :
    Md P w K mg base cl (Φ.addM c m Fm) (k + 1) := by
  have U := M.up
  refine ⟨U.blt, U.gl, U.fn, U.nm, U.cnd, U.fld, fun c' m' F h => ?_, U.nw, U.gd⟩
  have h' : (if c' = c ∧ m' = m then some Fm else Φ.mt c' m') = some F := h
  split at h'
  · rename_i e
    obtain ⟨rfl, rfl⟩ := e
    cases h'
    exact ⟨a, fd, ps, (ok.ok hgu).mono hj, hc, hm, hb, hn⟩
  · exact U.mt c' m' F h'
theorem Md.addN (M : Md P w K mg base cl Φ k) {c n : Nat} {ks : List Str} {Fm : Fn} {fl : List (Sum Nat D)} {a : Addr} {fd : FuncData} {ps : List Str} {j : Nat} (ok : FnG Φ.gu P w K mg base CX0 j a fd ps (spOf ⟨K, P, w, cl⟩ Fm)) (hj : j ≤ k) (hfl : flOk fl = true) (hm : Mk K (cl c).1 a) (hg : mg (Φ.cl c).nm = some (.ref (cl c).1))
    (hb : (ks = [] ∧ Binds K fd ps [] ∧ ∀ vs : List V, vs.length = n → fillV vs fl = vs) ∨ (ks ≠ [] ∧ ∃ g gV, KBn K fd ps (n + 1) ks g gV ∧ ∀ u vs zs, vs.length = n → zs.length = ks.length → gV (u :: vs) zs = u :: fillV (vs ++ zs) fl)) (hgu : Φ.gu = false := by rfl) :
    Md P w K mg base cl (Φ.addN c n ks Fm fl) (k + 1) := by
  have U := M.up
  refine ⟨U.blt, U.gl, U.fn, U.nm, U.cnd, U.fld, U.mt, fun c' n' ks' F fl' h => ?_, U.gd⟩
  have h' : (if c' = c ∧ n' = n ∧ ks' = ks then some (Fm, fl) else Φ.nw c' n' ks') = some (F, fl') := h
  split at h'
  · rename_i e
    obtain ⟨rfl, rfl, rfl⟩ := e
    cases h'
    exact ⟨hfl, a, fd, ps, j, Nat.succ_le_succ hj, ok.ok hgu, hm, hg, hb⟩
  · exact U.nw c' n' ks' F fl' h'
end
end Q

set_option Elab.async false
set_option linter.all false
set_option maxRecDepth 100000
set_option maxHeartbeats 8000000
/-! Q24: repr of a list, where no guard stands around; a law's end under known guards. -/
namespace Q
open PySem L2 PySem.Spec PyProof.Rows
def reprOk (d : D) : Bool := d.pl && d.py.showable && decide (d.py.shown.length ≤ mostLen) && decide (d.py.depth ≤ 16)
def F_repr : Fn
  | [(.sh, .lst xs)] => if reprOk (.lst xs) then some (.sh, .str (D.lst xs).py.shown, []) else none
  | _ => none
mutual
theorem pl_noDict : ∀ d : D, d.pl = true → d.py.hasDict = false
  | .non, _ => by simp [D.py, PyData.hasDict]
  | .bl _, _ => by simp [D.py, PyData.hasDict]
  | .int _, _ => by simp [D.py, PyData.hasDict]
  | .str _, _ => by simp [D.py, PyData.hasDict]
  | .lst xs, h => by
    simp only [D.py, PyData.hasDict]
    exact pls_noDict xs (by simpa [D.pl] using h)
  | .tup xs, h => by
    simp only [D.py, PyData.hasDict]
    exact pls_noDict xs (by simpa [D.pl] using h)
  | .dct _ _, h => by simp [D.pl] at h
  | .ins _ _, h => by simp [D.pl] at h
theorem pls_noDict : ∀ ds : List D, D.pls ds = true → PyData.hasDictAll (D.pys ds) = false
  | [], _ => by simp [D.pys, PyData.hasDictAll]
  | d :: r, h => by
    have h' : d.pl = true ∧ D.pls r = true := by simpa [D.pls] using h
    simp only [D.pys, PyData.hasDictAll, pl_noDict d h'.1, pls_noDict r h'.2, Bool.or_self]
end
section
variable {P : Program} {w : World} {K : PySem.W.Frag} {mg : Str → Option Value} {base : Heap} {cl : Nat → Addr × List Str}
theorem repr_run {X : Cx} (hg : X.A.guards = some []) (hr : Room 0 X.A) : CallR X (.builtin "repr") fun vs H Q => spOf (mw X cl) F_repr (vs ++ []) H Q E0 := by
  intro pins s σ H vs us Q I rv sp
  have sp : spOf (mw X cl) F_repr (vs ++ []) H Q E0 := sp
  rw [List.append_nil] at sp
  obtain ⟨ps, sh, d, new, H1, fs, sub, io, sep, dj, e, k⟩ := sp
  unfold F_repr at e
  split at e
  · rename_i xs
    split at e
    · rename_i ok
      cases e
      unfold reprOk at ok
      simp only [Bool.and_eq_true, decide_eq_true_eq] at ok
      obtain ⟨⟨⟨o1, o2⟩, o3⟩, o4⟩ := ok
      cases io with
      | io hs _ _ => exact absurd rfl hs
      | sh r io2 =>
        cases io2
        match us, rv with
        | [u], .cons ru .nil =>
          obtain ⟨as, R⟩ := Dp.reads I _ _ _ ((r.mono sub).dp o1) ru
          have r' := r
          cases r' with
          | lst hl hz rs =>
            cases (show u = Value.ref _ from ru)
            have nd := pl_noDict _ o1
            refine repr_of_reads' R o2 (PyData.noDict_hsm nd) hg (by have := hr.un; omega) (fun _ _ z => z) (fun h' t tk hk => ?_) (by rw [sizeLine_eq]; exact o3)
            refine ⟨.str _, H, I.kept (t' := tk) hk, ⟨t, rfl⟩, k (.str _) H1 H [] [] ?_ sub (.sh .nil) ⟨.str _, rfl⟩ ?_ ?_ ?_⟩
            · exact Tr.refl fun b hb => by
                rcases hb with ⟨f, hf, _⟩ | hb
                · cases hf
                · cases hb
            · intro i j f g b hi; simp at hi
            · rintro b ⟨f, hf, _⟩; cases hf
            · rintro b (⟨f, hf, _⟩ | hb)
              · cases hf
              · cases hb
    · cases e
  · cases e
theorem repr_ok (hm : mg "repr" = none) {A : Around} (hg : A.guards = some []) (hr : Room 0 A) : CallOk P w K mg base A cl "repr" F_repr := by
  refine ⟨fun X p pos h1 h2 h3 h4 h5 h6 _ hG hd hn => ⟨fun pins st σ H Q I h => ?_⟩, fun X e es t p pos h1 h2 h3 h4 h5 h6 _ hG hd hn ha he hp => ?_⟩
  · obtain ⟨ps, sh, d, new, H1, fs, sub, io, sep, dj, e, k⟩ := h
    cases io
    cases e
  · subst h1 h2 h3 h4 h5 h6
    exact pe_callB (repr_run (cl := cl) hg hr) hG hm PyProof.Rows.boot_repr ha hn hd he hp
end
/-! ### a law's end, where no guard stands around -/
section
variable {P : Program} {w : World} {K : PySem.W.Frag} {mg mb : Str → Option Value} {k : Nat} {fa a : Addr} {fd : FuncData} {x : Str} {sp : Sp} {s1 : Shared} {vs : List Value} {ns : List Int}
theorem law_run (KX : K.In s1.heap) (hns : s1.heap.Ns mainGlobals mg) (hbn : s1.heap.Ns builtinsNs mb) (hbb : ∀ z : Str, z ≠ "__name__" → mb z = bootBuiltins z) (lim : s1.heap.NoLimit) (gens : s1.gens = #[])
    (ha : s1.heap.get? a = some { cls := .type "list", data := .seq vs.toArray }) (hi : IntsAre vs ns) (hl : ns.length ≤ sizeLine) (room : Room k callerA)
    (F : ∀ base : Heap, K.In base → base.Ns mainGlobals mg → FnG true P w K mg base CX0 k fa fd [x] sp) (bnd : ∀ (s : Shared) (u : Value), BindsTo s fd ⟨[u], []⟩ [(x, u)])
    (hsp : ∀ H : Hp, Only H → SqL K H a (ns.map V.int) → sp [.ref a] H (fun v _ => v = .bl true) fun _ _ _ => False) :
    codeAny (model P w) callerA (.call (.ref fa) ⟨[.ref a], []⟩) (fun r s' => r = .ok (.ret (.bool true)) ∧ OldK s1.heap s'.heap ∧ s'.os = s1.os ∧ AllBare s'.gens) s1 := by
  have rv := vals_ints hi
  have ln := hi.length
  have main : ∀ H : Hp, Only H → SqL K H a (ns.map V.int) → HOk P w H s1.heap → (∀ b u, H b = some u → b = a ∧ K.lookup a = none) →
      codeAny (model P w) callerA (.call (.ref fa) ⟨[.ref a], []⟩) (fun r s' => r = .ok (.ret (.bool true)) ∧ OldK s1.heap s'.heap ∧ s'.os = s1.os ∧ AllBare s'.gens) s1 := by
    intro H hO hS hok only
    have nodict : ∀ {b : Addr} {o : Obj} {es : Array DictEntry} {ep : Nat}, s1.heap.get? b = some o → o.data = .dict es ep → H b = none := by
      intro b o es ep e d
      cases q : H b with
      | none => rfl
      | some u =>
        obtain ⟨rfl, _⟩ := only b u q
        rw [ha] at e
        cases e
        cases (show Data.seq vs.toArray _ = Data.dict es ep from d)
    have nsH : ∀ {b : Addr} {m : Str → Option Value}, s1.heap.Ns b m → (hidT s1.heap H).Ns b m := by
      rintro b m ⟨o, es, ep, e, d, r⟩
      exact ⟨o, es, ep, hidT_get e (nodict e d), d, r⟩
    have KH : K.In (hidT s1.heap H) := by
      intro b o e
      refine hidT_get (KX b o e) ?_
      cases q : H b with
      | none => rfl
      | some u =>
        obtain ⟨rfl, z⟩ := only b u q
        rw [z] at e
        cases e
    have M : Mod K mg (hidT s1.heap H) := by
      refine ⟨KH, nsH hns, ⟨mb, nsH hbn, hbb⟩, ?_⟩
      obtain ⟨mc, z1, z2⟩ := lim
      exact ⟨mc, nsH z1, z2⟩
    have e0 : Env0 P w K mg (hidT s1.heap H) callerA [] s1 H := by
      refine ⟨rfl, M, fun b o e => of_hidT e, Nat.le_of_eq (hidT_size _ _), trivial, fun b z => ?_, hok, .of_eq gens⟩
      cases (show b ∈ ([] : List Addr) from z)
    have run := (F _ KH (nsH hns)).go callerA (fun _ => rfl) room [] s1 H e0 ⟨[.ref a], []⟩ [.ref a] (bnd s1 (.ref a)) [.ref a] (.cons rfl .nil) _ _ (hsp H hO hS)
    refine codeAny_mono run fun r s' h => ?_
    match r with
    | .error e => exact (h : False).elim
    | .ok .next => exact (h : False).elim
    | .ok .brk => exact (h : False).elim
    | .ok .cont => exact (h : False).elim
    | .ok (.ret u) =>
      obtain ⟨v, H', os, bare, un, hok', r', q⟩ := h
      have q : v = .bl true := q
      subst q
      obtain rfl : u = Value.bool true := r'
      refine ⟨rfl, OldK.of_keep fun b o e => ?_, os, bare⟩
      cases q : H b with
      | none => exact un.keep b o e q (fun z => by cases (show b ∈ ([] : List Addr) from z)) (by simp)
      | some u =>
        rcases hO b with z | ⟨ob, xs, z⟩
        · rw [q] at z; cases z
        · obtain ⟨e1, _⟩ := hok b _ z
          obtain ⟨e2, _⟩ := hok' b _ (un.frzs b ob _ z)
          rw [e] at e1
          cases e1
          exact e2
  cases hk : K.lookup a with
  | some o =>
    have e := KX a o hk
    rw [ha] at e
    cases e
    exact main (fun _ => none) (fun _ => .inl rfl) (.inr ⟨_, vs.toArray, _, hk, rfl, rfl, rfl, by rw [List.size_toArray, ln]; exact hl, by simpa using rv⟩) (fun b u z => by cases z) fun b u z => by cases z
  | none =>
    have at_a : ∀ b u, (if b = a then some (HO.frz { cls := .type "list", data := .seq vs.toArray } (.lst (ns.map V.int))) else none) = some u → b = a ∧ u = .frz { cls := .type "list", data := .seq vs.toArray } (.lst (ns.map V.int)) := by
      intro b u z
      split at z
      · rename_i e
        cases z
        exact ⟨e, rfl⟩
      · cases z
    refine main (fun b => if b = a then some (.frz { cls := .type "list", data := .seq vs.toArray } (.lst (ns.map V.int))) else none) (fun b => ?_) (.inl (.inr ⟨{ cls := .type "list", data := .seq vs.toArray }, if_pos rfl⟩)) (fun b u z => ?_) fun b u z => ⟨(at_a b u z).1, hk⟩
    · by_cases e : b = a
      · exact .inr ⟨_, _, if_pos e⟩
      · exact .inl (if_neg e)
    · obtain ⟨rfl, rfl⟩ := at_a b u z
      exact ⟨ha, by rw [List.length_map]; exact hl, vs, _, rv, ha⟩
end
theorem walk_ofG {l : PySem.W.OpenLaw} {n k : Nat} {q : Program} {loose : List Str} {XP : (Str → Option Value) → Heap → Prop} {YP : World → Heap → Prop} {d : DefRec} {x : Str}
    (hn : l.most = some n) (hz : n ≤ sizeLine) (hdf : d.params.defaults = []) (room : Room k callerA)
    (F : ∀ (w : World) (mg : Str → Option Value) (fa : Addr) (h : Heap), YP w h → h.Ns mainGlobals mg → mg d.name = some (.ref fa) → ∃ (K : PySem.W.Frag) (fd : FuncData) (sp : Sp), K.In h ∧ (∀ (s : Shared) (u : Value), BindsTo s fd ⟨[u], []⟩ [(x, u)]) ∧
      (∀ (H : Hp) (a : Addr) (ns : List Int), ns.length ≤ n → Only H → SqL K H a (ns.map V.int) → sp [.ref a] H (fun v _ => v = .bl true) fun _ _ _ => False) ∧ ∀ base : Heap, K.In base → base.Ns mainGlobals mg → FnG true l.prog w K mg base CX0 k fa fd [x] sp) :
    PySem.W.WalkO q loose XP YP l.row.toRowW d [] (fun f vs => PySem.call f vs) := by
  refine Att.attach_call hn hdf ?_
  intro w s0 s1 mg mb fa o pm cd doc a vs ns G Y ho hd hcd hmg hobj hints hlen hg
  obtain ⟨K, fd, sp, KX, bnd, hsp, hF⟩ := F w mg fa _ Y G.T.g hmg
  exact law_run KX G.T.g G.T.b G.T.builtins G.T.nolimit hg hobj hints (Nat.le_trans hlen hz) room hF bnd fun H => fun hO hS => hsp H a ns hlen hO hS
end Q

set_option Elab.async false
set_option linter.all false
set_option maxRecDepth 100000
set_option maxHeartbeats 4000000
namespace K
open PySem Q
/-! ### what repr says of small data: short, and of fit signs -/
def sOk (n : Nat) (x : Str) : Prop := (∀ c ∈ x.cps.toList, c < 1114112) ∧ x.length ≤ n
theorem sOk_up {m n : Nat} {x : Str} (h : sOk m x) (l : m ≤ n) : sOk n x := ⟨h.1, Nat.le_trans h.2 l⟩
theorem sOk_app {m n : Nat} {a b : Str} (ha : sOk m a) (hb : sOk n b) : sOk (m + n) (a ++ b) := by
  have e : (a ++ b).cps = a.cps ++ b.cps := rfl
  refine ⟨fun c hc => ?_, ?_⟩
  · rw [e, Array.toList_append, List.mem_append] at hc
    exact hc.elim (ha.1 c) (hb.1 c)
  · have := ha.2
    have := hb.2
    simp only [Str.length, e, Array.size_append] at *
    omega
theorem char_lt (c : Char) : c.toNat < 1114112 := by
  have h := c.valid
  have e : c.toNat = c.val.toNat := rfl
  rw [e]
  rcases h with h | ⟨_, h⟩
  · have : c.val.toNat < 55296 := h
    omega
  · exact h
theorem sOk_str {n : Nat} (s : String) (h : s.toList.length ≤ n) : sOk n (Str.ofString s) := by
  rw [Str.ofString_eq_toList]
  refine ⟨fun c hc => ?_, ?_⟩
  · have hc : c ∈ s.toList.map Char.toNat := by simpa using hc
    obtain ⟨x, _, rfl⟩ := List.mem_map.mp hc
    exact char_lt x
  · simpa [Str.length] using h
theorem td_len : ∀ (f n k : Nat) (ds : List Char), n < 10 ^ k → 1 ≤ k → (Nat.toDigitsCore 10 f n ds).length ≤ ds.length + k
  | 0, n, k, ds, _, _ => by simp [Nat.toDigitsCore]
  | f + 1, n, k, ds, h, hk => by
    rw [Nat.toDigitsCore]
    split
    · simp; omega
    · rename_i hz
      match k, hk with
      | 1, _ => exact absurd (show n / 10 = 0 by omega) hz
      | k + 2, _ =>
        have := td_len f (n / 10) (k + 1) (Nat.digitChar (n % 10) :: ds) (by
          rw [Nat.pow_succ] at h
          exact Nat.div_lt_of_lt_mul (by rw [Nat.mul_comm]; exact h)) (by omega)
        simp only [List.length_cons] at this
        omega
theorem nat_len {n k : Nat} (h : n < 10 ^ k) (hk : 1 ≤ k) : (toString n).toList.length ≤ k := by
  have := td_len (n + 1) n k [] h hk
  show (Nat.repr n).toList.length ≤ k
  unfold Nat.repr
  simpa [Nat.toDigits] using this
theorem int_len {i : Int} {k : Nat} (h : i.natAbs < 10 ^ k) (hk : 1 ≤ k) : (toString i).toList.length ≤ k + 1 := by
  cases i with
  | ofNat m =>
    have := nat_len (n := m) h hk
    exact Nat.le_succ_of_le this
  | negSucc m =>
    have := nat_len (n := m + 1) h hk
    show ("-" ++ Nat.repr (m + 1)).toList.length ≤ k + 1
    rw [String.toList_append, List.length_append]
    have e : ("-" : String).toList.length = 1 := rfl
    have : (Nat.repr (m + 1)).toList.length ≤ k := this
    omega
theorem tf_ok {m : Nat} : ∀ (ts : List Str) (k n : Nat) (acc : Str), sOk n acc → (∀ t ∈ ts, sOk m t) → sOk (n + ts.length * (m + 2)) (textFrom k acc ts)
  | [], k, n, acc, h, _ => by simpa [textFrom] using h
  | t :: ts, k, n, acc, h, ht => by
    have h1 : sOk (n + 2) (acc ++ (if k > 0 then ", " else "" : String)) := by
      refine sOk_app h ?_
      split
      · exact sOk_str _ (by decide)
      · exact sOk_str _ (by decide)
    have h2 := sOk_app h1 (ht t (List.mem_cons_self ..))
    have ih := tf_ok ts (k + 1) (n + 2 + m) _ h2 fun x hx => ht x (List.mem_cons_of_mem _ hx)
    rw [textFrom]
    refine sOk_up ih ?_
    rw [List.length_cons, Nat.succ_mul]
    omega
theorem jn_ok {m : Nat} : ∀ (ts : List Str), (∀ t ∈ ts, sOk m t) → sOk (ts.length * (m + 2)) (Str.join ", " ts)
  | [], _ => ⟨fun c hc => by simp [Str.join, Str.empty] at hc, by simp [Str.join, Str.empty, Str.length]⟩
  | [x], h => sOk_up (h x (by simp)) (by simp)
  | x :: y :: r, h => by
    have ih := jn_ok (y :: r) fun t ht => h t (List.mem_cons_of_mem _ ht)
    have h1 := sOk_app (sOk_app (h x (by simp)) (sOk_str (n := 2) ", " (by decide))) ih
    refine sOk_up h1 ?_
    simp only [List.length_cons, Nat.succ_mul]
    omega
theorem lst_ok {m : Nat} {ts : List Str} (h : ∀ t ∈ ts, sOk m t) : sOk (2 + ts.length * (m + 2)) (listText ts) := by
  have h1 := tf_ok ts 0 1 ("[" : String) (sOk_str _ (by decide)) h
  have h2 := sOk_app h1 (sOk_str (n := 1) "]" (by decide))
  exact sOk_up h2 (by omega)
theorem tup_ok {m : Nat} {ts : List Str} (h : ∀ t ∈ ts, sOk m t) : sOk (3 + ts.length * (m + 2)) (tupleText ts) := by
  have h1 := sOk_app (sOk_str (n := 1) "(" (by decide)) (jn_ok ts h)
  have h2 : sOk 2 ((if ts.length == 1 then ",)" else ")" : String) : Str) := by
    split
    · exact sOk_str _ (by decide)
    · exact sOk_str _ (by decide)
  exact sOk_up (sOk_app h1 h2) (by omega)
/-! ### data with such a text -/
structure ShOk (n k : Nat) (d : D) : Prop where
  pl : d.pl = true
  sh : d.py.showable = true
  tx : sOk n d.py.shown
  dp : d.py.depth ≤ k
theorem ShOk.up {m n k : Nat} {d : D} (h : ShOk m k d) (l : m ≤ n) : ShOk n k d := ⟨h.pl, h.sh, sOk_up h.tx l, h.dp⟩
theorem sh_int {i : Int} (h : i.natAbs < 10 ^ 30) : ShOk 31 0 (.int i) := by
  refine ⟨rfl, ?_, sOk_str _ (int_len h (by decide)), by simp [D.py, PyData.depth]⟩
  simp only [D.py, PyData.showable, decide_eq_true_eq]
  by_cases hz : i.natAbs = 0
  · rw [hz]; decide
  · refine (Nat.log2_lt hz).mpr ?_
    exact Nat.lt_trans h (by decide +kernel)
theorem sh_non : ShOk 31 0 .non := ⟨rfl, by simp [D.py, PyData.showable], sOk_str _ (by decide), by simp [D.py, PyData.depth]⟩
theorem sh_all {n k : Nat} : ∀ {ds : List D}, (∀ d ∈ ds, ShOk n k d) → D.pls ds = true ∧ PyData.showableAll (D.pys ds) = true ∧ (∀ t ∈ PyData.shownAll (D.pys ds), sOk n t) ∧ (PyData.shownAll (D.pys ds)).length = ds.length ∧ PyData.depthAll (D.pys ds) ≤ k
  | [], _ => ⟨rfl, by simp [D.pys, PyData.showableAll], by simp [D.pys, PyData.shownAll], by simp [D.pys, PyData.shownAll], by simp [D.pys, PyData.depthAll]⟩
  | d :: ds, h => by
    obtain ⟨a, b, c, e, f⟩ := sh_all (ds := ds) fun x hx => h x (List.mem_cons_of_mem _ hx)
    have h0 := h d (List.mem_cons_self ..)
    refine ⟨by simp [D.pls, h0.pl, a], by simp [D.pys, PyData.showableAll, h0.sh, b], ?_, by simp [D.pys, PyData.shownAll, e], ?_⟩
    · intro t ht
      simp only [D.pys, PyData.shownAll, List.mem_cons] at ht
      rcases ht with rfl | ht
      · exact h0.tx
      · exact c t ht
    · have := h0.dp
      simp only [D.pys, PyData.depthAll]
      omega
theorem sh_lst {n k l : Nat} {ds : List D} (h : ∀ d ∈ ds, ShOk n k d) (hl : ds.length ≤ l) : ShOk (2 + l * (n + 2)) (k + 1) (.lst ds) := by
  obtain ⟨a, b, c, e, f⟩ := sh_all h
  refine ⟨by simp [D.pl, a], by simp [D.py, PyData.showable, b], ?_, by simp only [D.py, PyData.depth]; omega⟩
  simp only [D.py, PyData.shown]
  have := lst_ok c
  rw [e] at this
  exact sOk_up this (Nat.add_le_add_left (Nat.mul_le_mul_right _ hl) _)
theorem sh_tup {n k l : Nat} {ds : List D} (h : ∀ d ∈ ds, ShOk n k d) (hl : ds.length ≤ l) : ShOk (3 + l * (n + 2)) (k + 1) (.tup ds) := by
  obtain ⟨a, b, c, e, f⟩ := sh_all h
  refine ⟨by simp [D.pl, a], by simp [D.py, PyData.showable, b], ?_, by simp only [D.py, PyData.depth]; omega⟩
  simp only [D.py, PyData.shown]
  have := tup_ok c
  rw [e] at this
  exact sOk_up this (Nat.add_le_add_left (Nat.mul_le_mul_right _ hl) _)
theorem e_repr {n k : Nat} {xs : List D} (h : ShOk n k (.lst xs)) (hn : n ≤ 1000000) (hk : k ≤ 16) : F_repr [(.sh, .lst xs)] = some (.sh, .str (D.lst xs).py.shown, []) := by
  have ok : reprOk (.lst xs) = true := by
    unfold reprOk
    rw [Bool.and_eq_true, Bool.and_eq_true, Bool.and_eq_true]
    exact ⟨⟨⟨h.pl, h.sh⟩, decide_eq_true (Nat.le_trans h.tx.2 (Nat.le_trans hn (by decide)))⟩, decide_eq_true (Nat.le_trans h.dp hk)⟩
  simp only [F_repr, ok, if_true]
theorem str_same {n : Nat} {x : Str} (h : sOk n x) : Q.cmp .ne (.str x) (.str x) = some false := by
  have hs : PyData.canLay0 (.str x) = true := by
    show x.cps.all (· < 0x110000) = true
    rw [Array.all_eq_true_iff_forall_mem]
    intro c hc
    exact decide_eq_true (h.1 c (by simpa using hc))
  have wf : (D.str x).wf = true := by
    simp [D.wf, D.pl, D.py, SeqAt.shaped, hs, PyData.depth]
  simp [Q.cmp, eqq, wf, eqd, D.py, PyData.eqv]
theorem repr_same {n k : Nat} {xs : List D} (h : ShOk n k (.lst xs)) : Q.cmp .ne (.str (D.lst xs).py.shown) (.str (D.lst xs).py.shown) = some false := str_same h.tx
end K

set_option Elab.async false
set_option linter.all false
set_option maxRecDepth 100000
set_option maxHeartbeats 4000000
namespace K
open PySem Q
def top (i : Nat) : Stmt := PySem.Challenge.pw_heldnotes_k60_clamps_joined.main.body.getD i (.Pass ⟨0, 0, 0, 0⟩)
def mth (i j : Nat) : Stmt := match top i with
  | .ClassDef _ _ _ b _ _ _ _ _ _ _ => b.getD j (.Pass ⟨0, 0, 0, 0⟩)
  | _ => .Pass ⟨0, 0, 0, 0⟩
def ct : Nat → Ci

  | _ => ⟨"", []⟩
def N_is_integer : List Str := ["thing"]
def B_is_integer : List S := [
  .ret (.and (.isi (.pv (.s 0)) ["int"]) [.not (.isi (.pv (.s 0)) ["bool"])])]
abbrev s_is_integer : Stmt := top 1
theorem ck_is_integer : ckL (ckS N_is_integer 24 ⟨L2.defScope s_is_integer, fun _ => true, ct⟩) (L2.defBody s_is_integer) B_is_integer = true := by decide +kernel
theorem sc_is_integer : L2.FnScope N_is_integer ["thing"] (L2.defScope s_is_integer) := ⟨rfl, rfl, rfl, by decide +kernel, rfl, by decide +kernel, by decide +kernel⟩
def N_is_list : List Str := ["thing"]
def B_is_list : List S := [
  .ret (.isi (.pv (.s 0)) ["list", "tuple"])]
abbrev s_is_list : Stmt := top 2
theorem ck_is_list : ckL (ckS N_is_list 24 ⟨L2.defScope s_is_list, fun _ => true, ct⟩) (L2.defBody s_is_list) B_is_list = true := by decide +kernel
theorem sc_is_list : L2.FnScope N_is_list ["thing"] (L2.defScope s_is_list) := ⟨rfl, rfl, rfl, by decide +kernel, rfl, by decide +kernel, by decide +kernel⟩
def N_is_end : List Str := ["thing"]
def B_is_end : List S := [
  .ret (.or (.cmp .is (.pv (.s 0)) (.c .non)) [.call "is_integer" [.v (.pv (.s 0))]])]
abbrev s_is_end : Stmt := top 9
theorem ck_is_end : ckL (ckS N_is_end 24 ⟨L2.defScope s_is_end, fun _ => true, ct⟩) (L2.defBody s_is_end) B_is_end = true := by decide +kernel
theorem sc_is_end : L2.FnScope N_is_end ["thing"] (L2.defScope s_is_end) := ⟨rfl, rfl, rfl, by decide +kernel, rfl, by decide +kernel, by decide +kernel⟩
def N_is_clamp : List Str := ["thing", "low", "step", "high"]
def B_is_clamp : List S := [
  .ite (.or (.not (.call "is_list" [.v (.pv (.s 0))])) [.cmp .ne (.blt .len [.pv (.s 0)]) (.c (.int 3))]) [.ret (.c (.bl false))] [],
  .asg (.tp [(.nm 1), (.nm 2), (.nm 3)]) (.pv (.s 0)),
  .ite (.or (.not (.call "is_end" [.v (.pv (.s 1))])) [.not (.call "is_integer" [.v (.pv (.s 2))]), .not (.call "is_end" [.v (.pv (.s 3))])]) [.ret (.c (.bl false))] [],
  .ret (.or (.cmp .is (.pv (.s 1)) (.c .non)) [.cmp .is (.pv (.s 3)) (.c .non), .cmp .le (.pv (.s 1)) (.pv (.s 3))])]
abbrev s_is_clamp : Stmt := top 10
theorem ck_is_clamp : ckL (ckS N_is_clamp 24 ⟨L2.defScope s_is_clamp, fun _ => true, ct⟩) (L2.defBody s_is_clamp) B_is_clamp = true := by decide +kernel
theorem sc_is_clamp : L2.FnScope N_is_clamp ["thing"] (L2.defScope s_is_clamp) := ⟨rfl, rfl, rfl, by decide +kernel, rfl, by decide +kernel, by decide +kernel⟩
def N_check_clamp : List Str := ["thing"]
def B_check_clamp : List S := [
  .ite (.not (.call "is_clamp" [.v (.pv (.s 0))])) [.raise_] []]
abbrev s_check_clamp : Stmt := top 11
theorem ck_check_clamp : ckL (ckS N_check_clamp 24 ⟨L2.defScope s_check_clamp, fun _ => true, ct⟩) (L2.defBody s_check_clamp) B_check_clamp = true := by decide +kernel
theorem sc_check_clamp : L2.FnScope N_check_clamp ["thing"] (L2.defScope s_check_clamp) := ⟨rfl, rfl, rfl, by decide +kernel, rfl, by decide +kernel, by decide +kernel⟩
def N_check_number : List Str := ["thing"]
def B_check_number : List S := [
  .ite (.not (.call "is_integer" [.v (.pv (.s 0))])) [.raise_] []]
abbrev s_check_number : Stmt := top 12
theorem ck_check_number : ckL (ckS N_check_number 24 ⟨L2.defScope s_check_number, fun _ => true, ct⟩) (L2.defBody s_check_number) B_check_number = true := by decide +kernel
theorem sc_check_number : L2.FnScope N_check_number ["thing"] (L2.defScope s_check_number) := ⟨rfl, rfl, rfl, by decide +kernel, rfl, by decide +kernel, by decide +kernel⟩
def N_made : List Str := ["clamp", "x", "low", "step", "high", "found"]
def B_made : List S := [
  .asg (.tp [(.nm 2), (.nm 3), (.nm 4)]) (.pv (.s 0)),
  .set 5 (.bin .add (.pv (.s 1)) (.pv (.s 3))),
  .ite (.and (.cmp .isn (.pv (.s 2)) (.c .non)) [.cmp .lt (.pv (.s 5)) (.pv (.s 2))]) [.set 5 (.pv (.s 2))] [],
  .ite (.and (.cmp .isn (.pv (.s 4)) (.c .non)) [.cmp .gt (.pv (.s 5)) (.pv (.s 4))]) [.set 5 (.pv (.s 4))] [],
  .ret (.pv (.s 5))]
abbrev s_made : Stmt := top 13
theorem ck_made : ckL (ckS N_made 24 ⟨L2.defScope s_made, fun _ => true, ct⟩) (L2.defBody s_made) B_made = true := by decide +kernel
theorem sc_made : L2.FnScope N_made ["clamp", "x"] (L2.defScope s_made) := ⟨rfl, rfl, rfl, by decide +kernel, rfl, by decide +kernel, by decide +kernel⟩
def N_form_of : List Str := ["clamp", "low", "step", "high"]
def B_form_of : List S := [
  .asg (.tp [(.nm 1), (.nm 2), (.nm 3)]) (.pv (.s 0)),
  .ite (.and (.cmp .isn (.pv (.s 1)) (.c .non)) [.cmp .eq (.pv (.s 1)) (.pv (.s 3))]) [.ret (.tup [.pv (.s 1), .c (.int 0), .pv (.s 3)])] [],
  .ret (.tup [.pv (.s 1), .pv (.s 2), .pv (.s 3)])]
abbrev s_form_of : Stmt := top 14
theorem ck_form_of : ckL (ckS N_form_of 24 ⟨L2.defScope s_form_of, fun _ => true, ct⟩) (L2.defBody s_form_of) B_form_of = true := by decide +kernel
theorem sc_form_of : L2.FnScope N_form_of ["clamp"] (L2.defScope s_form_of) := ⟨rfl, rfl, rfl, by decide +kernel, rfl, by decide +kernel, by decide +kernel⟩
def N_clamp_behind : List Str := ["one", "other", "low", "high"]
def B_clamp_behind : List S := [
  .set 2 (.ite (.cmp .is (.idx (.pv (.s 0)) (.c (.int 0))) (.c .non)) (.idx (.pv (.s 1)) (.c (.int 0))) (.call "made" [.v (.pv (.s 1)), .v (.idx (.pv (.s 0)) (.c (.int 0)))])),
  .set 3 (.ite (.cmp .is (.idx (.pv (.s 0)) (.c (.int 2))) (.c .non)) (.idx (.pv (.s 1)) (.c (.int 2))) (.call "made" [.v (.pv (.s 1)), .v (.idx (.pv (.s 0)) (.c (.int 2)))])),
  .ret (.call "form_of" [.v (.tup [.pv (.s 2), .bin .add (.idx (.pv (.s 0)) (.c (.int 1))) (.idx (.pv (.s 1)) (.c (.int 1))), .pv (.s 3)])])]
abbrev s_clamp_behind : Stmt := top 15
theorem ck_clamp_behind : ckL (ckS N_clamp_behind 24 ⟨L2.defScope s_clamp_behind, fun _ => true, ct⟩) (L2.defBody s_clamp_behind) B_clamp_behind = true := by decide +kernel
theorem sc_clamp_behind : L2.FnScope N_clamp_behind ["one", "other"] (L2.defScope s_clamp_behind) := ⟨rfl, rfl, rfl, by decide +kernel, rfl, by decide +kernel, by decide +kernel⟩
def N_joined_of : List Str := ["clamps", "found", "clamp"]
def B_joined_of : List S := [
  .set 1 (.glob "STAYING"),
  .for_ (.nm 2) (.seq (.pv (.s 0))) [.set 1 (.call "clamp_behind" [.v (.pv (.s 1)), .v (.pv (.s 2))]), .wipe [2]],
  .ret (.pv (.s 1))]
abbrev s_joined_of : Stmt := top 16
theorem ck_joined_of : ckL (ckS N_joined_of 24 ⟨L2.defScope s_joined_of, fun _ => true, ct⟩) (L2.defBody s_joined_of) B_joined_of = true := by decide +kernel
theorem sc_joined_of : L2.FnScope N_joined_of ["clamps"] (L2.defScope s_joined_of) := ⟨rfl, rfl, rfl, by decide +kernel, rfl, by decide +kernel, by decide +kernel⟩
def N_clamped : List Str := ["clamp", "x"]
def B_clamped : List S := [
  .expr (.call "check_clamp" [.v (.pv (.s 0))]),
  .expr (.call "check_number" [.v (.pv (.s 1))]),
  .ret (.call "made" [.v (.pv (.s 0)), .v (.pv (.s 1))])]
abbrev s_clamped : Stmt := top 17
theorem ck_clamped : ckL (ckS N_clamped 24 ⟨L2.defScope s_clamped, fun _ => true, ct⟩) (L2.defBody s_clamped) B_clamped = true := by decide +kernel
theorem sc_clamped : L2.FnScope N_clamped ["clamp", "x"] (L2.defScope s_clamped) := ⟨rfl, rfl, rfl, by decide +kernel, rfl, by decide +kernel, by decide +kernel⟩
def N_joined : List Str := ["clamps", "index", "thing"]
def B_joined : List S := [
  .ite (.not (.call "is_list" [.v (.pv (.s 0))])) [.raise_] [],
  .for_ (.tp [(.nm 1), (.nm 2)]) (.enum (.pv (.s 0))) [.ite (.not (.call "is_clamp" [.v (.pv (.s 2))])) [.raise_] [], .wipe [1, 2]],
  .ret (.call "joined_of" [.v (.pv (.s 0))])]
abbrev s_joined : Stmt := top 18
theorem ck_joined : ckL (ckS N_joined 24 ⟨L2.defScope s_joined, fun _ => true, ct⟩) (L2.defBody s_joined) B_joined = true := by decide +kernel
theorem sc_joined : L2.FnScope N_joined ["clamps"] (L2.defScope s_joined) := ⟨rfl, rfl, rfl, by decide +kernel, rfl, by decide +kernel, by decide +kernel⟩
def N_shown : List Str := ["clamp", "x", "low", "step", "high"]
def B_shown : List S := [
  .expr (.call "check_clamp" [.v (.pv (.s 0))]),
  .expr (.call "check_number" [.v (.pv (.s 1))]),
  .asg (.tp [(.nm 2), (.nm 3), (.nm 4)]) (.call "form_of" [.v (.pv (.s 0))]),
  .ite (.cmp .ne (.call "made" [.v (.pv (.s 0)), .v (.bin .sub (.pv (.s 1)) (.pv (.s 3)))]) (.pv (.s 1))) [.ret (.c .non)] [],
  .ret (.tup [.ite (.cmp .eq (.pv (.s 1)) (.pv (.s 2))) (.c .non) (.bin .sub (.pv (.s 1)) (.pv (.s 3))), .ite (.cmp .eq (.pv (.s 1)) (.pv (.s 4))) (.c .non) (.bin .sub (.pv (.s 1)) (.pv (.s 3)))])]
abbrev s_shown : Stmt := top 19
theorem ck_shown : ckL (ckS N_shown 24 ⟨L2.defScope s_shown, fun _ => true, ct⟩) (L2.defBody s_shown) B_shown = true := by decide +kernel
theorem sc_shown : L2.FnScope N_shown ["clamp", "x"] (L2.defScope s_shown) := ⟨rfl, rfl, rfl, by decide +kernel, rfl, by decide +kernel, by decide +kernel⟩
def N_l_source : List Str := ["_law_script", "_law_place", "_law_raw"]
def B_l_source : List S := [
  .set 2 (.ite (.cmp .lt (.pv (.s 1)) (.olen (.s 0))) (.oidx (.s 0) (.pv (.s 1))) (.bin .add (.bin .mul (.c (.int 7)) (.pv (.s 1))) (.c (.int 5)))),
  .ret (.lst [.ite (.cmp .ge (.pv (.s 2)) (.bin .pow (.c (.int 10)) (.c (.int 18)))) (.pv (.s 2)) (.c (.int 0)), .bin .mod (.blt .int [.pv (.s 2)]) (.c (.int 2147483647)), .c (.int 0)])]
abbrev s_l_source : Stmt := top 21
theorem ck_l_source : ckL (ckS N_l_source 24 ⟨L2.defScope s_l_source, fun _ => true, ct⟩) (L2.defBody s_l_source) B_l_source = true := by decide +kernel
theorem sc_l_source : L2.FnScope N_l_source ["_law_script", "_law_place"] (L2.defScope s_l_source) := ⟨rfl, rfl, rfl, by decide +kernel, rfl, by decide +kernel, by decide +kernel⟩
def N_l_draw : List Str := ["_law_draws", "_law_many", "_law_found"]
def B_l_draw : List S := [
  .ite (.cmp .gt (.oidx (.s 0) (.c (.int 0))) (.c (.int 0))) [.set 2 (.bin .mod (.blt .int [.oidx (.s 0) (.c (.int 0))]) (.pv (.s 1))), .put (.s 0) (.c (.int 0)) (.bin .fdiv (.oidx (.s 0) (.c (.int 0))) (.pv (.s 1))), .ret (.pv (.s 2))] [],
  .put (.s 0) (.c (.int 2)) (.bin .add (.oidx (.s 0) (.c (.int 2))) (.c (.int 1))),
  .put (.s 0) (.c (.int 1)) (.bin .mod (.blt .int [.bin .add (.bin .add (.bin .mul (.oidx (.s 0) (.c (.int 1))) (.c (.int 48271))) (.bin .mul (.oidx (.s 0) (.c (.int 2))) (.c (.int 7919)))) (.c (.int 12345))]) (.c (.int 2147483647))),
  .ret (.bin .mod (.blt .int [.bin .add (.bin .fdiv (.oidx (.s 0) (.c (.int 1))) (.c (.int 65536))) (.oidx (.s 0) (.c (.int 1)))]) (.pv (.s 1)))]
abbrev s_l_draw : Stmt := top 22
theorem ck_l_draw : ckL (ckS N_l_draw 24 ⟨L2.defScope s_l_draw, fun _ => true, ct⟩) (L2.defBody s_l_draw) B_l_draw = true := by decide +kernel
theorem sc_l_draw : L2.FnScope N_l_draw ["_law_draws", "_law_many"] (L2.defScope s_l_draw) := ⟨rfl, rfl, rfl, by decide +kernel, rfl, by decide +kernel, by decide +kernel⟩
def N_l_pick : List Str := ["_law_draws", "_law_xs"]
def B_l_pick : List S := [
  .ret (.idx (.pv (.s 1)) (.call "_law_draw" [.io 0, .v (.blt .len [.pv (.s 1)])]))]
abbrev s_l_pick : Stmt := top 23
theorem ck_l_pick : ckL (ckS N_l_pick 24 ⟨L2.defScope s_l_pick, fun _ => true, ct⟩) (L2.defBody s_l_pick) B_l_pick = true := by decide +kernel
theorem sc_l_pick : L2.FnScope N_l_pick ["_law_draws", "_law_xs"] (L2.defScope s_l_pick) := ⟨rfl, rfl, rfl, by decide +kernel, rfl, by decide +kernel, by decide +kernel⟩
def N_l_same : List Str := ["_law_found", "_law_due", "_law_one", "_law_other"]
def B_l_same : List S := [
  .ite (.isi (.pv (.s 1)) ["list", "tuple"]) [.ite (.or (.cmp .ne (.isi (.pv (.s 0)) ["list"]) (.isi (.pv (.s 1)) ["list"])) [.cmp .ne (.isi (.pv (.s 0)) ["tuple"]) (.isi (.pv (.s 1)) ["tuple"])]) [.ret (.c (.bl false))] [], .ret (.and (.cmp .eq (.blt .len [.pv (.s 0)]) (.blt .len [.pv (.s 1)])) [.blt .all [.lc [2, 3] (.tp [(.nm 2), (.nm 3)]) (.zip (.pv (.s 0)) (.pv (.s 1))) none (.call "_law_same" [.v (.pv (.s 2)), .v (.pv (.s 3))])]])] [],
  .ite (.isi (.pv (.s 1)) ["bool", "int"]) [.ret (.and (.isi (.pv (.s 0)) ["int"]) [.cmp .eq (.isi (.pv (.s 0)) ["bool"]) (.isi (.pv (.s 1)) ["bool"]), .cmp .eq (.pv (.s 0)) (.pv (.s 1))])] [],
  .ret (.and (.not (.isi (.pv (.s 0)) ["bool", "int", "list", "tuple"])) [.cmp .eq (.pv (.s 0)) (.pv (.s 1))])]
abbrev s_l_same : Stmt := top 24
theorem ck_l_same : ckL (ckS N_l_same 24 ⟨L2.defScope s_l_same, fun _ => true, ct⟩) (L2.defBody s_l_same) B_l_same = true := by decide +kernel
theorem sc_l_same : L2.FnScope N_l_same ["_law_found", "_law_due"] (L2.defScope s_l_same) := ⟨rfl, rfl, rfl, by decide +kernel, rfl, by decide +kernel, by decide +kernel⟩
def N_l_clamp : List Str := ["_law_draws", "_law_far", "_law_ends", "_law_way", "_law_steps", "_law_step", "_law_low", "_law_high"]
def B_l_clamp : List S := [
  .set 2 (.blt .sorted [.lst [.bin .sub (.call "_law_draw" [.io 0, .v (.c (.int 21))]) (.c (.int 10)), .bin .sub (.call "_law_draw" [.io 0, .v (.c (.int 21))]) (.c (.int 10))]]),
  .fz 2,
  .par [3, 4] [.call "_law_draw" [.io 0, .v (.c (.int 6))], .lst [.c (.int 0), .c (.int 1), .neg (.c (.int 1)), .bin .sub (.call "_law_draw" [.io 0, .v (.c (.int 19))]) (.c (.int 9)), .bin .sub (.call "_law_draw" [.io 0, .v (.c (.int 19))]) (.c (.int 9))]],
  .fz 4,
  .set 5 (.call "_law_pick" [.io 0, .v (.bin .add (.pv (.s 4)) (.bin .mul (.lst [.bin .pow (.c (.int 10)) (.c (.int 11)), .bin .sub (.c (.int 0)) (.bin .pow (.c (.int 10)) (.c (.int 11)))]) (.blt .int [.pv (.s 1)])))]),
  .par [6, 7] [.ite (.cmp .inn (.pv (.s 3)) (.tup [.c (.int 0), .c (.int 1)])) (.c .non) (.idx (.pv (.s 2)) (.c (.int 0))), .ite (.cmp .inn (.pv (.s 3)) (.tup [.c (.int 0), .c (.int 2)])) (.c .non) (.idx (.pv (.s 2)) (.c (.int 1)))],
  .ret (.tup [.pv (.s 6), .pv (.s 5), .ite (.cmp .eq (.pv (.s 3)) (.c (.int 5))) (.pv (.s 6)) (.pv (.s 7))])]
abbrev s_l_clamp : Stmt := top 25
theorem ck_l_clamp : ckL (ckS N_l_clamp 24 ⟨L2.defScope s_l_clamp, fun _ => true, ct⟩) (L2.defBody s_l_clamp) B_l_clamp = true := by decide +kernel
theorem sc_l_clamp : L2.FnScope N_l_clamp ["_law_draws", "_law_far"] (L2.defScope s_l_clamp) := ⟨rfl, rfl, rfl, by decide +kernel, rfl, by decide +kernel, by decide +kernel⟩
def N_l_clamped : List Str := ["_law_clamp_here", "_law_x", "_law_low", "_law_step", "_law_high"]
def B_l_clamped : List S := [
  .asg (.tp [(.nm 2), (.nm 3), (.nm 4)]) (.pv (.s 0)),
  .ite (.and (.cmp .isn (.pv (.s 2)) (.c .non)) [.cmp .lt (.bin .add (.pv (.s 1)) (.pv (.s 3))) (.pv (.s 2))]) [.ret (.ite (.cmp .is (.pv (.s 4)) (.c .non)) (.pv (.s 2)) (.blt .min [.pv (.s 2), .pv (.s 4)]))] [],
  .ret (.ite (.cmp .is (.pv (.s 4)) (.c .non)) (.bin .add (.pv (.s 1)) (.pv (.s 3))) (.blt .min [.bin .add (.pv (.s 1)) (.pv (.s 3)), .pv (.s 4)]))]
abbrev s_l_clamped : Stmt := top 26
theorem ck_l_clamped : ckL (ckS N_l_clamped 24 ⟨L2.defScope s_l_clamped, fun _ => true, ct⟩) (L2.defBody s_l_clamped) B_l_clamped = true := by decide +kernel
theorem sc_l_clamped : L2.FnScope N_l_clamped ["_law_clamp_here", "_law_x"] (L2.defScope s_l_clamped) := ⟨rfl, rfl, rfl, by decide +kernel, rfl, by decide +kernel, by decide +kernel⟩
def N_l_is_form : List Str := ["_law_thing", "_law_part", "_law_low", "_law_step", "_law_high"]
def B_l_is_form : List S := [
  .ite (.or (.not (.isi (.pv (.s 0)) ["tuple"])) [.cmp .ne (.blt .len [.pv (.s 0)]) (.c (.int 3))]) [.ret (.c (.bl false))] [],
  .ite (.blt .any [.lc [1] (.nm 1) (.seq (.pv (.s 0))) none (.and (.cmp .isn (.pv (.s 1)) (.c .non)) [.or (.isi (.pv (.s 1)) ["bool"]) [.not (.isi (.pv (.s 1)) ["int"])]])]) [.ret (.c (.bl false))] [],
  .asg (.tp [(.nm 2), (.nm 3), (.nm 4)]) (.pv (.s 0)),
  .ite (.or (.cmp .is (.pv (.s 3)) (.c .non)) [.and (.cmp .isn (.pv (.s 2)) (.c .non)) [.cmp .isn (.pv (.s 4)) (.c .non), .cmp .gt (.pv (.s 2)) (.pv (.s 4))]]) [.ret (.c (.bl false))] [],
  .ret (.or (.cmp .is (.pv (.s 2)) (.c .non)) [.cmp .ne (.pv (.s 2)) (.pv (.s 4)), .cmp .eq (.pv (.s 3)) (.c (.int 0))])]
abbrev s_l_is_form : Stmt := top 27
theorem ck_l_is_form : ckL (ckS N_l_is_form 24 ⟨L2.defScope s_l_is_form, fun _ => true, ct⟩) (L2.defBody s_l_is_form) B_l_is_form = true := by decide +kernel
theorem sc_l_is_form : L2.FnScope N_l_is_form ["_law_thing"] (L2.defScope s_l_is_form) := ⟨rfl, rfl, rfl, by decide +kernel, rfl, by decide +kernel, by decide +kernel⟩
def N_law : List Str := ["_law_script", "_law_turn", "_law_draws", "_law_clamps", "_law_k", "_law_passed", "_law_clamp_here", "_law_kept", "_law_found", "_law_x", "_law_due", "_law_thing", "_law_ends", "_law_end", "_law_beside"]
def B_law : List S := [
  .for_ (.nm 1) (.rng [.bin .add (.c (.int 3)) (.blt .min [.olen (.s 0), .c (.int 4)])]) [.set 2 (.call "_law_source" [.io 0, .v (.pv (.s 1))]), .set 3 (.lc [4] (.nm 4) (.rng [.call "_law_draw" [.io 2, .v (.c (.int 7))]]) none (.call "_law_clamp" [.io 2, .v (.c (.bl true))])), .fz 3, .set 5 (.lc [6] (.nm 6) (.seq (.pv (.s 3))) none (.call "_law_pick" [.io 2, .v (.lst [.pv (.s 6), .blt .list [.pv (.s 6)]])])), .fz 5, .set 7 (.call "repr" [.v (.pv (.s 5))]), .set 8 (.call "joined" [.v (.call "_law_pick" [.io 2, .v (.lst [.pv (.s 5), .blt .tuple [.pv (.s 5)]])])]), .ite (.or (.not (.call "_law_is_form" [.v (.pv (.s 8))])) [.cmp .ne (.call "repr" [.v (.pv (.s 5))]) (.pv (.s 7))]) [.ret (.c (.bl false))] [], .for_ (.nm 9) (.seq (.bin .add (.lrng [.neg (.c (.int 40)), .c (.int 41)]) (.lst [.bin .pow (.c (.int 10)) (.c (.int 11)), .bin .sub (.c (.int 0)) (.bin .pow (.c (.int 10)) (.c (.int 11))), .bin .add (.bin .pow (.c (.int 10)) (.c (.int 11))) (.c (.int 3)), .bin .sub (.c (.int 3)) (.bin .pow (.c (.int 10)) (.c (.int 11)))]))) [.set 10 (.pv (.s 9)), .for_ (.tp [(.nm 6), (.nm 11)]) (.zip (.pv (.s 3)) (.pv (.s 5))) [.ite (.not (.call "_law_same" [.v (.call "clamped" [.v (.pv (.s 11)), .v (.pv (.s 10))]), .v (.call "_law_clamped" [.v (.pv (.s 6)), .v (.pv (.s 10))])])) [.ret (.c (.bl false))] [], .set 10 (.call "_law_clamped" [.v (.pv (.s 6)), .v (.pv (.s 10))]), .wipe [6, 11]], .ite (.not (.call "_law_same" [.v (.call "clamped" [.v (.pv (.s 8)), .v (.pv (.s 9))]), .v (.pv (.s 10))])) [.ret (.c (.bl false))] [], .set 12 (.call "shown" [.v (.pv (.s 8)), .v (.pv (.s 10))]), .ite (.or (.not (.or (.cmp .is (.idx (.pv (.s 12)) (.c (.int 0))) (.c .non)) [.cmp .le (.idx (.pv (.s 12)) (.c (.int 0))) (.pv (.s 9))])) [.not (.or (.cmp .is (.idx (.pv (.s 12)) (.c (.int 1))) (.c .non)) [.cmp .le (.pv (.s 9)) (.idx (.pv (.s 12)) (.c (.int 1)))])]) [.ret (.c (.bl false))] [], .for_ (.tp [(.nm 13), (.nm 14)]) (.seq (.tup [.tup [.idx (.pv (.s 12)) (.c (.int 0)), .neg (.c (.int 1))], .tup [.idx (.pv (.s 12)) (.c (.int 1)), .c (.int 1)]])) [.ite (.and (.cmp .isn (.pv (.s 13)) (.c .non)) [.cmp .ne (.call "clamped" [.v (.pv (.s 8)), .v (.pv (.s 13))]) (.pv (.s 10))]) [.ret (.c (.bl false))] [], .ite (.and (.cmp .isn (.pv (.s 13)) (.c .non)) [.cmp .eq (.call "clamped" [.v (.pv (.s 8)), .v (.bin .add (.pv (.s 13)) (.pv (.s 14)))]) (.pv (.s 10))]) [.ret (.c (.bl false))] [], .wipe [13, 14]], .wipe [9, 10, 12]], .wipe [1, 2, 3, 5, 7, 8]],
  .ret (.call "_law_same" [.v (.lst [.call "joined" [.v (.lst [])], .call "joined" [.v (.tup [])], .call "joined" [.v (.lst [.tup [.c (.int 2), .c (.int 5), .c (.int 2)]])]]), .v (.lst [.tup [.c .non, .c (.int 0), .c .non], .tup [.c .non, .c (.int 0), .c .non], .tup [.c (.int 2), .c (.int 0), .c (.int 2)]])])]
abbrev s_law : Stmt := top 28
theorem ck_law : ckL (ckS N_law 24 ⟨L2.defScope s_law, fun _ => true, ct⟩) (L2.defBody s_law) B_law = true := by decide +kernel
theorem sc_law : L2.FnScope N_law ["_law_script"] (L2.defScope s_law) := ⟨rfl, rfl, rfl, by decide +kernel, rfl, by decide +kernel, by decide +kernel⟩
end K

set_option Elab.async false
set_option linter.all false
set_option maxRecDepth 100000
set_option maxHeartbeats 4000000
namespace K
open PySem Q L2
def d_is_integer : He.DefD := ⟨("is_integer", none), "is_integer", "is_integer", defArgs s_is_integer, defBody s_is_integer, defScope s_is_integer, [], []⟩
def d_is_list : He.DefD := ⟨("is_list", none), "is_list", "is_list", defArgs s_is_list, defBody s_is_list, defScope s_is_list, [], []⟩
def d_is_end : He.DefD := ⟨("is_end", none), "is_end", "is_end", defArgs s_is_end, defBody s_is_end, defScope s_is_end, [], []⟩
def d_is_clamp : He.DefD := ⟨("is_clamp", none), "is_clamp", "is_clamp", defArgs s_is_clamp, defBody s_is_clamp, defScope s_is_clamp, [], []⟩
def d_check_clamp : He.DefD := ⟨("check_clamp", none), "check_clamp", "check_clamp", defArgs s_check_clamp, defBody s_check_clamp, defScope s_check_clamp, [], []⟩
def d_check_number : He.DefD := ⟨("check_number", none), "check_number", "check_number", defArgs s_check_number, defBody s_check_number, defScope s_check_number, [], []⟩
def d_made : He.DefD := ⟨("made", none), "made", "made", defArgs s_made, defBody s_made, defScope s_made, [], []⟩
def d_form_of : He.DefD := ⟨("form_of", none), "form_of", "form_of", defArgs s_form_of, defBody s_form_of, defScope s_form_of, [], []⟩
def d_clamp_behind : He.DefD := ⟨("clamp_behind", none), "clamp_behind", "clamp_behind", defArgs s_clamp_behind, defBody s_clamp_behind, defScope s_clamp_behind, [], []⟩
def d_joined_of : He.DefD := ⟨("joined_of", none), "joined_of", "joined_of", defArgs s_joined_of, defBody s_joined_of, defScope s_joined_of, [], []⟩
def d_clamped : He.DefD := ⟨("clamped", none), "clamped", "clamped", defArgs s_clamped, defBody s_clamped, defScope s_clamped, [], []⟩
def d_joined : He.DefD := ⟨("joined", none), "joined", "joined", defArgs s_joined, defBody s_joined, defScope s_joined, [], []⟩
def d_shown : He.DefD := ⟨("shown", none), "shown", "shown", defArgs s_shown, defBody s_shown, defScope s_shown, [], []⟩
def d_l_source : He.DefD := ⟨("_law_source", none), "_law_source", "_law_source", defArgs s_l_source, defBody s_l_source, defScope s_l_source, [], []⟩
def d_l_draw : He.DefD := ⟨("_law_draw", none), "_law_draw", "_law_draw", defArgs s_l_draw, defBody s_l_draw, defScope s_l_draw, [], []⟩
def d_l_pick : He.DefD := ⟨("_law_pick", none), "_law_pick", "_law_pick", defArgs s_l_pick, defBody s_l_pick, defScope s_l_pick, [], []⟩
def d_l_same : He.DefD := ⟨("_law_same", none), "_law_same", "_law_same", defArgs s_l_same, defBody s_l_same, defScope s_l_same, [], []⟩
def d_l_clamp : He.DefD := ⟨("_law_clamp", none), "_law_clamp", "_law_clamp", defArgs s_l_clamp, defBody s_l_clamp, defScope s_l_clamp, [], []⟩
def d_l_clamped : He.DefD := ⟨("_law_clamped", none), "_law_clamped", "_law_clamped", defArgs s_l_clamped, defBody s_l_clamped, defScope s_l_clamped, [], []⟩
def d_l_is_form : He.DefD := ⟨("_law_is_form", none), "_law_is_form", "_law_is_form", defArgs s_l_is_form, defBody s_l_is_form, defScope s_l_is_form, [], []⟩
def d_law : He.DefD := ⟨("law", none), "law", "law", defArgs s_law, defBody s_law, defScope s_law, [], []⟩
def fnL : List He.DefD := [d_is_integer, d_is_list, d_is_end, d_is_clamp, d_check_clamp, d_check_number, d_made, d_form_of, d_clamp_behind, d_joined_of, d_clamped, d_joined, d_shown, d_l_source, d_l_draw, d_l_pick, d_l_same, d_l_clamp, d_l_clamped, d_l_is_form, d_law]
def faL : List He.Fa := [.glo "is_integer", .glo "is_list", .glo "is_end", .glo "is_clamp", .glo "check_clamp", .glo "check_number", .glo "made", .glo "form_of", .glo "clamp_behind", .glo "joined_of", .glo "clamped", .glo "joined", .glo "shown", .glo "_law_source", .glo "_law_draw", .glo "_law_pick", .glo "_law_same", .glo "_law_clamp", .glo "_law_clamped", .glo "_law_is_form", .glo "law", .glo "STAYING", .free "len", .free "int", .free "min", .free "max", .free "abs", .free "list", .free "tuple", .free "all", .free "any", .free "sum", .free "sorted", .free "isinstance", .free "range", .free "zip", .free "enumerate", .free "bool", .free "str", .free "dict", .free "set", .free "repr"]
def gl_STAYING : List He.Dv := [.non, .int (0), .non]
def exL (K : PySem.W.Frag) : Bool := He.tupB K "STAYING" gl_STAYING
def tsL : List He.Tab := []
abbrev Rw : PySem.W.OpenRow := PySem.W.OpenLaw.row PySem.Challenge.rw_heldnotes_k60_clamps_joined
abbrev hk : PySem.W.Hook := He.hookX 4 faL fnL tsL [] exL
def ob (s : PySem.W.SharedT) : He.AlX := He.obsX 4 faL fnL tsL [] exL (HandSHeadRun.getT s)
theorem ob_eq (s : PySem.W.SharedT) : ob s = hk.obs s.abs := He.obsX_eq (HandSHeadRun.getT_eq s)
def loose0 : List Str := ["__name__", "is_integer", "is_list", "HeldError", "BadNumber", "BadClamp", "STAYING", "is_end", "is_clamp", "check_clamp", "check_number", "made", "form_of", "clamp_behind", "joined_of", "clamped", "joined", "shown", "_law_source", "_law_draw", "_law_pick", "_law_same", "_law_clamp", "_law_clamped", "_law_is_form"]
def loose : List Str := loose0
set_option maxHeartbeats 0 in
theorem runT (w : World) : HandSHeadRun.RunEq Rw (PySem.W.view Rw.prog [28]) hk ob 6000 loose w := by
  intro os
  kernel_rfl
end K

set_option Elab.async false
set_option linter.all false
set_option maxRecDepth 100000
set_option maxHeartbeats 4000000
namespace K
open PySem Q
abbrev C := Option Int × Int × Option Int
def oE : Option Int → D
  | none => .non
  | some i => .int i
def mk (b : Bool) (c : C) : D := if b then .tup [oE c.1, .int c.2.1, oE c.2.2] else .lst [oE c.1, .int c.2.1, oE c.2.2]
def okC (c : C) : Bool := match c.1, c.2.2 with | some l, some h => decide (l ≤ h) | _, _ => true
def madeI (c : C) (x : Int) : Int :=
  let f := x + c.2.1
  let f := match c.1 with | some l => if f < l then l else f | none => f
  match c.2.2 with | some h => if h < f then h else f | none => f
def formI (c : C) : C := match c.1, c.2.2 with
  | some l, some h => if l = h then (some l, 0, some h) else c
  | _, _ => c
def isInt : D → Bool
  | .int _ => true
  | _ => false
def F_is_integer : Fn
  | [(.sh, d)] => (match d with | .ins _ _ => none | _ => some (.sh, .bl (isInt d), []))
  | _ => none
def isSeq : D → Bool
  | .lst _ => true
  | .tup _ => true
  | _ => false
def F_is_list : Fn
  | [(.sh, d)] => (match d with | .ins _ _ => none | _ => some (.sh, .bl (isSeq d), []))
  | _ => none
def F_is_end : Fn
  | [(.sh, .non)] => some (.sh, .bl true, [])
  | [(.sh, .int _)] => some (.sh, .bl true, [])
  | _ => none
def asC : D → Option C
  | .tup [.non, .int s, .non] => some (none, s, none)
  | .tup [.int l, .int s, .non] => some (some l, s, none)
  | .tup [.non, .int s, .int h] => some (none, s, some h)
  | .tup [.int l, .int s, .int h] => some (some l, s, some h)
  | .lst [.non, .int s, .non] => some (none, s, none)
  | .lst [.int l, .int s, .non] => some (some l, s, none)
  | .lst [.non, .int s, .int h] => some (none, s, some h)
  | .lst [.int l, .int s, .int h] => some (some l, s, some h)
  | _ => none
theorem asC_mk {d : D} {c : C} (h : asC d = some c) : ∃ b, d = mk b c := by
  unfold asC at h
  split at h <;> first | (cases h; first | exact ⟨true, rfl⟩ | exact ⟨false, rfl⟩) | cases h
theorem mk_asC (b : Bool) (c : C) : asC (mk b c) = some c := by
  obtain ⟨l, s, h⟩ := c
  cases b <;> cases l <;> cases h <;> rfl
def F_is_clamp : Fn
  | [(.sh, d)] => (match asC d with | some c => if okC c then some (.sh, .bl true, []) else none | none => none)
  | _ => none
def F_check_clamp : Fn
  | [(.sh, d)] => (match asC d with | some c => if okC c then some (.sh, .non, []) else none | none => none)
  | _ => none
def F_check_number : Fn
  | [(.sh, .int _)] => some (.sh, .non, [])
  | _ => none
def F_made : Fn
  | [(.sh, d), (.sh, .int x)] => (match asC d with | some c => some (.sh, .int (madeI c x), []) | none => none)
  | _ => none
def F_form_of : Fn
  | [(.sh, d)] => (match asC d with | some c => some (.sh, mk true (formI c), []) | none => none)
  | _ => none
def F_clamped : Fn
  | [(.sh, d), (.sh, .int x)] => (match asC d with | some c => if okC c then some (.sh, .int (madeI c x), []) else none | none => none)
  | _ => none
def shownI (c : C) (x : Int) : Option (Option Int × Option Int) :=
  let f := formI c
  if madeI c (x - f.2.1) = x then some (if f.1 = some x then none else some (x - f.2.1), if f.2.2 = some x then none else some (x - f.2.1)) else none
def oP : Option (Option Int × Option Int) → D
  | none => .non
  | some p => .tup [oE p.1, oE p.2]
def F_shown : Fn
  | [(.sh, d), (.sh, .int x)] => (match asC d with | some c => if okC c then some (.sh, oP (shownI c x), []) else none | none => none)
  | _ => none
theorem r_is_integer (Φ : Tab) : ∀ q r, F_is_integer q = some r → q.length = 1 ∧ Q.run Φ 24 N_is_integer.length B_is_integer q = some r := by
  intro q r h
  match q, h with
  | [(.sh, d)], h =>
    refine ⟨rfl, ?_⟩
    cases d <;> first | (cases h; done) | (cases h; rfl)
theorem r_is_list (Φ : Tab) : ∀ q r, F_is_list q = some r → q.length = 1 ∧ Q.run Φ 24 N_is_list.length B_is_list q = some r := by
  intro q r h
  match q, h with
  | [(.sh, d)], h =>
    refine ⟨rfl, ?_⟩
    cases d <;> first | (cases h; done) | (cases h; rfl)
theorem r_is_end (Φ : Tab) (h1 : Φ.fn "is_integer" = some F_is_integer) : ∀ q r, F_is_end q = some r → q.length = 1 ∧ Q.run Φ 24 N_is_end.length B_is_end q = some r := by
  intro q r h
  match q, h with
  | [(.sh, .non)], h => cases h; exact ⟨rfl, rfl⟩
  | [(.sh, .int i)], h => cases h; refine ⟨rfl, ?_⟩; simp [Q.run, Q.start, ebs, lev, stepS, stepE, getP, putP, evv, evs, evss, evt, evAnd, evOr, evas, evo, evc, params, back, ioOf, setIo, setN, setNs, asgT, asgTs, Q.bin, Q.cmp, Q.idx, Q.slc, getAt, L2.atI, L2.ixN, isNon, outs, leaf, Q.blt, mostLen, isiOne, tyOf, intsOf, boolsOf, N_is_end, B_is_end, h1, F_is_integer, isInt]
theorem r_is_clamp (Φ : Tab) (h1 : Φ.fn "is_integer" = some F_is_integer) (h2 : Φ.fn "is_list" = some F_is_list) (h3 : Φ.fn "is_end" = some F_is_end) : ∀ q r, F_is_clamp q = some r → q.length = 1 ∧ Q.run Φ 24 N_is_clamp.length B_is_clamp q = some r := by
  intro q r h
  match q, h with
  | [(.sh, d)], h =>
    refine ⟨rfl, ?_⟩
    simp only [F_is_clamp] at h
    split at h
    · rename_i c hc
      split at h
      · rename_i ok
        cases h
        obtain ⟨b, rfl⟩ := asC_mk hc
        obtain ⟨l, s, hh⟩ := c
        cases b <;> cases l <;> cases hh <;> simp [Q.run, Q.start, ebs, lev, stepS, stepE, getP, putP, evv, evs, evss, evt, evAnd, evOr, evas, evo, evc, params, back, ioOf, setIo, setN, setNs, asgT, asgTs, Q.bin, Q.cmp, Q.idx, Q.slc, getAt, L2.atI, L2.ixN, isNon, outs, leaf, Q.blt, mostLen, isiOne, tyOf, intsOf, boolsOf, N_is_clamp, B_is_clamp, mk, oE, h1, h2, h3, F_is_integer, F_is_list, F_is_end, isInt, isSeq, eqq, D.wf, D.pl, D.py, eqd, PyData.eqv, SeqAt.shaped, PyData.canLay0, PyData.depth] <;> simpa [okC] using ok
      · cases h
    · cases h
theorem lev_s (Φ : Tab) (n : Nat) (st : S) (v : Ev) : (lev Φ (n + 1)).s st v = stepS (lev Φ n).e (lev Φ n).s st v := rfl
theorem lev_e (Φ : Tab) (n : Nat) (e : E) (v : Ev) : (lev Φ (n + 1)).e e v = stepE Φ (lev Φ n).e e v := rfl
def fr : Slot → Bool
  | .no => true
  | .at false _ _ => true
  | _ => false
theorem setN_eq {v : Ev} {i : Nat} {s : Sh} {d : D} (h : (v[i]?.map fr) = some true) : setN v i s d = some (v.set i (.at false s d)) := by
  unfold setN
  cases hv : v[i]? with
  | none => rw [hv] at h; cases h
  | some x =>
    rw [hv] at h
    cases x with
    | no => rfl
    | «at» io s' d' => cases io with
      | false => rfl
      | true => cases h
theorem ebs_nx {LSt : LS} {s : S} {r : List S} {v v' : Ev} {o : Option Out} (h : LSt s v = some (.nx v')) (h2 : ebs LSt r v' = o) : ebs LSt (s :: r) v = o := by simp [ebs, h, h2]
theorem ebs_rt {LSt : LS} {s : S} {r : List S} {v v' : Ev} {sh : Sh} {d : D} (h : LSt s v = some (.rt sh d v')) : ebs LSt (s :: r) v = some (.rt sh d v') := by simp [ebs, h]
theorem run_rt {Φ : Tab} {k n : Nat} {B : List S} {ps : List (Sh × D)} {v' : Ev} {s : Sh} {d : D} {ds : List (Sh × D)} (h : ebs (lev Φ k).s B (start n ps) = some (.rt s d v')) (ho : outs ps v' = some ds) : Q.run Φ k n B ps = some (s, d, ds) := by simp [Q.run, h, ho]
theorem eqd_ii (a b : Int) : eqd (.int a) (.int b) = decide (a = b) := by
  by_cases h : a = b <;> simp [eqd, D.py, PyData.eqv, h]
theorem c_eq (a b : Int) : Q.cmp .eq (.int a) (.int b) = some (decide (a = b)) := by
  simp [Q.cmp, eqq, D.wf, D.pl, D.py, SeqAt.shaped, PyData.canLay0, PyData.depth, eqd_ii]
theorem c_ne (a b : Int) : Q.cmp .ne (.int a) (.int b) = some (decide (a ≠ b)) := by
  by_cases h : a = b <;> simp [Q.cmp, eqq, D.wf, D.pl, D.py, SeqAt.shaped, PyData.canLay0, PyData.depth, eqd_ii, h]
theorem c_lt (a b : Int) : Q.cmp .lt (.int a) (.int b) = some (decide (a < b)) := rfl
theorem c_le (a b : Int) : Q.cmp .le (.int a) (.int b) = some (decide (a ≤ b)) := rfl
theorem c_gt (a b : Int) : Q.cmp .gt (.int a) (.int b) = some (decide (b < a)) := rfl
theorem c_ge (a b : Int) : Q.cmp .ge (.int a) (.int b) = some (decide (b ≤ a)) := rfl
theorem c_is (a : D) : Q.cmp .is a .non = some (isNon a) := by cases a <;> rfl
theorem c_isn (a : D) : Q.cmp .isn a .non = some (!isNon a) := by cases a <;> rfl
theorem c_eqo (x : Int) (l : Option Int) : Q.cmp .eq (.int x) (oE l) = some (decide (l = some x)) := by
  cases l with
  | none => simp [oE, Q.cmp, eqq, D.wf, D.pl, D.py, SeqAt.shaped, PyData.canLay0, PyData.depth, eqd, PyData.eqv]
  | some l => simp [oE, c_eq, eq_comm]
theorem c_eqN (x : Int) : Q.cmp .eq (.int x) .non = some false := by
  simp [Q.cmp, eqq, D.wf, D.pl, D.py, SeqAt.shaped, PyData.canLay0, PyData.depth, eqd, PyData.eqv]
theorem oE_none : oE none = .non := rfl
theorem oE_some (i : Int) : oE (some i) = .int i := rfl
theorem isNon_oE (l : Option Int) : isNon (oE l) = l.isNone := by cases l <;> rfl
theorem b_add (a b : Int) : Q.bin .add (.int a) (.int b) = some (.sh, .int (a + b)) := rfl
theorem b_sub (a b : Int) : Q.bin .sub (.int a) (.int b) = some (.sh, .int (a - b)) := rfl
theorem r_check_clamp (Φ : Tab) (h1 : Φ.fn "is_clamp" = some F_is_clamp) : ∀ q r, F_check_clamp q = some r → q.length = 1 ∧ Q.run Φ 24 N_check_clamp.length B_check_clamp q = some r := by
  intro q r h
  match q, h with
  | [(.sh, d)], h =>
    refine ⟨rfl, ?_⟩
    simp only [F_check_clamp] at h
    split at h
    · rename_i c hc
      split at h
      · rename_i ok
        cases h
        simp [Q.run, Q.start, ebs, lev_s, lev_e, stepS, stepE, getP, putP, evv, evs, evss, evt, evAnd, evOr, evas, evo, evc, params, back, ioOf, setIo,  setNs, setN_eq, fr, asgT, asgTs, Q.bin, Q.cmp, Q.idx, Q.slc, getAt, L2.atI, L2.ixN, isNon, outs, leaf, Q.blt, mostLen, isiOne, tyOf, intsOf, boolsOf, N_check_clamp, B_check_clamp, h1, F_is_clamp, hc, ok]
      · cases h
    · cases h
theorem r_check_number (Φ : Tab) (h1 : Φ.fn "is_integer" = some F_is_integer) : ∀ q r, F_check_number q = some r → q.length = 1 ∧ Q.run Φ 24 N_check_number.length B_check_number q = some r := by
  intro q r h
  match q, h with
  | [(.sh, .int i)], h => cases h; refine ⟨rfl, ?_⟩; simp [Q.run, Q.start, ebs, lev_s, lev_e, stepS, stepE, getP, putP, evv, evs, evss, evt, evAnd, evOr, evas, evo, evc, params, back, ioOf, setIo,  setNs, setN_eq, fr, asgT, asgTs, Q.bin, Q.cmp, Q.idx, Q.slc, getAt, L2.atI, L2.ixN, isNon, outs, leaf, Q.blt, mostLen, isiOne, tyOf, intsOf, boolsOf, N_check_number, B_check_number, h1, F_is_integer, isInt]
theorem r_made (Φ : Tab) : ∀ q r, F_made q = some r → q.length = 2 ∧ Q.run Φ 24 N_made.length B_made q = some r := by
  intro q r h
  match q, h with
  | [(.sh, d), (.sh, .int x)], h =>
    refine ⟨rfl, ?_⟩
    simp only [F_made] at h
    split at h
    · rename_i c hc
      cases h
      obtain ⟨b, rfl⟩ := asC_mk hc
      obtain ⟨l, s, hh⟩ := c
      cases b <;> cases l with
      | none => cases hh with
        | none => simp [Q.run, Q.start, ebs, lev_s, lev_e, stepS, stepE, getP, putP, evv, evs, evss, evt, evAnd, evOr, evas, evo, evc, params, back, ioOf, setIo,  setNs, setN_eq, fr, asgT, asgTs, b_add, b_sub, c_eq, c_ne, c_lt, c_le, c_gt, c_ge, c_is, c_isn, c_eqo, isNon_oE, Q.idx, Q.slc, getAt, L2.atI, L2.ixN, isNon, outs, leaf, Q.blt, mostLen, isiOne, tyOf, intsOf, boolsOf, Q.run, N_made, B_made, mk, oE, madeI]
        | some hh =>
          by_cases p : hh < x + s <;> simp [Q.run, Q.start, ebs, lev_s, lev_e, stepS, stepE, getP, putP, evv, evs, evss, evt, evAnd, evOr, evas, evo, evc, params, back, ioOf, setIo,  setNs, setN_eq, fr, asgT, asgTs, b_add, b_sub, c_eq, c_ne, c_lt, c_le, c_gt, c_ge, c_is, c_isn, c_eqo, isNon_oE, Q.idx, Q.slc, getAt, L2.atI, L2.ixN, isNon, outs, leaf, Q.blt, mostLen, isiOne, tyOf, intsOf, boolsOf, Q.run, N_made, B_made, mk, oE, madeI, p]
      | some l =>
        by_cases p : x + s < l
        · cases hh with
          | none => simp [Q.run, Q.start, ebs, lev_s, lev_e, stepS, stepE, getP, putP, evv, evs, evss, evt, evAnd, evOr, evas, evo, evc, params, back, ioOf, setIo,  setNs, setN_eq, fr, asgT, asgTs, b_add, b_sub, c_eq, c_ne, c_lt, c_le, c_gt, c_ge, c_is, c_isn, c_eqo, isNon_oE, Q.idx, Q.slc, getAt, L2.atI, L2.ixN, isNon, outs, leaf, Q.blt, mostLen, isiOne, tyOf, intsOf, boolsOf, Q.run, N_made, B_made, mk, oE, madeI, p]
          | some hh => by_cases p2 : hh < l <;> simp [Q.run, Q.start, ebs, lev_s, lev_e, stepS, stepE, getP, putP, evv, evs, evss, evt, evAnd, evOr, evas, evo, evc, params, back, ioOf, setIo,  setNs, setN_eq, fr, asgT, asgTs, b_add, b_sub, c_eq, c_ne, c_lt, c_le, c_gt, c_ge, c_is, c_isn, c_eqo, isNon_oE, Q.idx, Q.slc, getAt, L2.atI, L2.ixN, isNon, outs, leaf, Q.blt, mostLen, isiOne, tyOf, intsOf, boolsOf, Q.run, N_made, B_made, mk, oE, madeI, p, p2]
        · cases hh with
          | none => simp [Q.run, Q.start, ebs, lev_s, lev_e, stepS, stepE, getP, putP, evv, evs, evss, evt, evAnd, evOr, evas, evo, evc, params, back, ioOf, setIo,  setNs, setN_eq, fr, asgT, asgTs, b_add, b_sub, c_eq, c_ne, c_lt, c_le, c_gt, c_ge, c_is, c_isn, c_eqo, isNon_oE, Q.idx, Q.slc, getAt, L2.atI, L2.ixN, isNon, outs, leaf, Q.blt, mostLen, isiOne, tyOf, intsOf, boolsOf, Q.run, N_made, B_made, mk, oE, madeI, p]
          | some hh => by_cases p2 : hh < x + s <;> simp [Q.run, Q.start, ebs, lev_s, lev_e, stepS, stepE, getP, putP, evv, evs, evss, evt, evAnd, evOr, evas, evo, evc, params, back, ioOf, setIo,  setNs, setN_eq, fr, asgT, asgTs, b_add, b_sub, c_eq, c_ne, c_lt, c_le, c_gt, c_ge, c_is, c_isn, c_eqo, isNon_oE, Q.idx, Q.slc, getAt, L2.atI, L2.ixN, isNon, outs, leaf, Q.blt, mostLen, isiOne, tyOf, intsOf, boolsOf, Q.run, N_made, B_made, mk, oE, madeI, p, p2]
    · cases h
theorem r_form_of (Φ : Tab) : ∀ q r, F_form_of q = some r → q.length = 1 ∧ Q.run Φ 24 N_form_of.length B_form_of q = some r := by
  intro q r h
  match q, h with
  | [(.sh, d)], h =>
    refine ⟨rfl, ?_⟩
    simp only [F_form_of] at h
    split at h
    · rename_i c hc
      cases h
      obtain ⟨b, rfl⟩ := asC_mk hc
      obtain ⟨l, s, hh⟩ := c
      have st : ∀ b : Bool, (lev Φ 24).s (.asg (.tp [(.nm 1), (.nm 2), (.nm 3)]) (.pv (.s 0))) (Q.start 4 [(.sh, mk b (l, s, hh))]) = some (.nx [.at false .sh (mk b (l, s, hh)), .at false .sh (oE l), .at false .sh (.int s), .at false .sh (oE hh)]) := by
        intro b
        cases b <;> simp [Q.run, Q.start, ebs, lev_s, lev_e, stepS, stepE, getP, putP, evv, evs, evss, evt, evAnd, evOr, evas, evo, evc, params, back, ioOf, setIo,  setNs, setN_eq, fr, asgT, asgTs, b_add, b_sub, c_eq, c_ne, c_lt, c_le, c_gt, c_ge, c_is, c_isn, c_eqo, isNon_oE, Q.idx, Q.slc, getAt, L2.atI, L2.ixN, isNon, outs, leaf, Q.blt, mostLen, isiOne, tyOf, intsOf, boolsOf, mk]
      cases l with
      | none =>
        apply run_rt
        · apply ebs_nx (st b)
          apply ebs_nx
          · simp [Q.run, Q.start, ebs, lev_s, lev_e, stepS, stepE, getP, putP, evv, evs, evss, evt, evAnd, evOr, evas, evo, evc, params, back, ioOf, setIo,  setNs, setN_eq, fr, asgT, asgTs, b_add, b_sub, c_eq, c_ne, c_lt, c_le, c_gt, c_ge, c_is, c_isn, c_eqo, isNon_oE, Q.idx, Q.slc, getAt, L2.atI, L2.ixN, isNon, outs, leaf, Q.blt, mostLen, isiOne, tyOf, intsOf, boolsOf, oE_none, oE_some]; rfl
          apply ebs_rt
          simp [Q.run, Q.start, ebs, lev_s, lev_e, stepS, stepE, getP, putP, evv, evs, evss, evt, evAnd, evOr, evas, evo, evc, params, back, ioOf, setIo,  setNs, setN_eq, fr, asgT, asgTs, b_add, b_sub, c_eq, c_ne, c_lt, c_le, c_gt, c_ge, c_is, c_isn, c_eqo, isNon_oE, Q.idx, Q.slc, getAt, L2.atI, L2.ixN, isNon, outs, leaf, Q.blt, mostLen, isiOne, tyOf, intsOf, boolsOf, mk, formI, oE_none]; rfl
        · rfl
      | some l =>
        by_cases p : hh = some l
        · apply run_rt
          · apply ebs_nx (st b)
            apply ebs_rt
            subst p
            simp [Q.run, Q.start, ebs, lev_s, lev_e, stepS, stepE, getP, putP, evv, evs, evss, evt, evAnd, evOr, evas, evo, evc, params, back, ioOf, setIo,  setNs, setN_eq, fr, asgT, asgTs, b_add, b_sub, c_eq, c_ne, c_lt, c_le, c_gt, c_ge, c_is, c_isn, c_eqo, isNon_oE, Q.idx, Q.slc, getAt, L2.atI, L2.ixN, isNon, outs, leaf, Q.blt, mostLen, isiOne, tyOf, intsOf, boolsOf, oE_none, oE_some, mk, formI]; rfl
          · rfl
        · apply run_rt
          · apply ebs_nx (st b)
            apply ebs_nx
            · simp [Q.run, Q.start, ebs, lev_s, lev_e, stepS, stepE, getP, putP, evv, evs, evss, evt, evAnd, evOr, evas, evo, evc, params, back, ioOf, setIo,  setNs, setN_eq, fr, asgT, asgTs, b_add, b_sub, c_eq, c_ne, c_lt, c_le, c_gt, c_ge, c_is, c_isn, c_eqo, isNon_oE, Q.idx, Q.slc, getAt, L2.atI, L2.ixN, isNon, outs, leaf, Q.blt, mostLen, isiOne, tyOf, intsOf, boolsOf, oE_some, p]; rfl
            apply ebs_rt
            have e : formI (some l, s, hh) = (some l, s, hh) := by
              cases hh with
              | none => rfl
              | some h => simp [formI]; intro e; exact absurd (congrArg some e.symm) p
            simp [Q.run, Q.start, ebs, lev_s, lev_e, stepS, stepE, getP, putP, evv, evs, evss, evt, evAnd, evOr, evas, evo, evc, params, back, ioOf, setIo,  setNs, setN_eq, fr, asgT, asgTs, b_add, b_sub, c_eq, c_ne, c_lt, c_le, c_gt, c_ge, c_is, c_isn, c_eqo, isNon_oE, Q.idx, Q.slc, getAt, L2.atI, L2.ixN, isNon, outs, leaf, Q.blt, mostLen, isiOne, tyOf, intsOf, boolsOf, mk, e, oE_some]; rfl
          · rfl
    · cases h
theorem r_clamped (Φ : Tab) (h1 : Φ.fn "check_clamp" = some F_check_clamp) (h2 : Φ.fn "check_number" = some F_check_number) (h3 : Φ.fn "made" = some F_made) : ∀ q r, F_clamped q = some r → q.length = 2 ∧ Q.run Φ 24 N_clamped.length B_clamped q = some r := by
  intro q r h
  match q, h with
  | [(.sh, d), (.sh, .int x)], h =>
    refine ⟨rfl, ?_⟩
    simp only [F_clamped] at h
    split at h
    · rename_i c hc
      split at h
      · rename_i ok
        cases h
        simp [Q.run, Q.start, ebs, lev_s, lev_e, stepS, stepE, getP, putP, evv, evs, evss, evt, evAnd, evOr, evas, evo, evc, params, back, ioOf, setIo,  setNs, setN_eq, fr, asgT, asgTs, Q.bin, Q.cmp, Q.idx, Q.slc, getAt, L2.atI, L2.ixN, isNon, outs, leaf, Q.blt, mostLen, isiOne, tyOf, intsOf, boolsOf, N_clamped, B_clamped, h1, h2, h3, F_check_clamp, F_check_number, F_made, hc, ok]
      · cases h
    · cases h
theorem r_shown (Φ : Tab) (h1 : Φ.fn "check_clamp" = some F_check_clamp) (h2 : Φ.fn "check_number" = some F_check_number) (h3 : Φ.fn "made" = some F_made) (h4 : Φ.fn "form_of" = some F_form_of) : ∀ q r, F_shown q = some r → q.length = 2 ∧ Q.run Φ 24 N_shown.length B_shown q = some r := by
  intro q r h
  match q, h with
  | [(.sh, d), (.sh, .int x)], h =>
    refine ⟨rfl, ?_⟩
    simp only [F_shown] at h
    split at h
    · rename_i c hc
      split at h
      · rename_i ok
        cases h
        obtain ⟨l', s', h', hf⟩ : ∃ l s h, formI c = (l, s, h) := ⟨_, _, _, rfl⟩
        by_cases p : madeI c (x - s') = x
        · by_cases p1 : l' = some x <;> by_cases p2 : h' = some x
          all_goals
            apply run_rt
            · apply ebs_nx
              · simp [Q.run, Q.start, ebs, lev_s, lev_e, stepS, stepE, getP, putP, evv, evs, evss, evt, evAnd, evOr, evas, evo, evc, params, back, ioOf, setIo,  setNs, setN_eq, fr, asgT, asgTs, b_add, b_sub, c_eq, c_ne, c_lt, c_le, c_gt, c_ge, c_is, c_isn, c_eqo, isNon_oE, Q.idx, Q.slc, getAt, L2.atI, L2.ixN, isNon, outs, leaf, Q.blt, mostLen, isiOne, tyOf, intsOf, boolsOf, h1, F_check_clamp, hc, ok, N_shown]; rfl
              apply ebs_nx
              · simp [Q.run, Q.start, ebs, lev_s, lev_e, stepS, stepE, getP, putP, evv, evs, evss, evt, evAnd, evOr, evas, evo, evc, params, back, ioOf, setIo,  setNs, setN_eq, fr, asgT, asgTs, b_add, b_sub, c_eq, c_ne, c_lt, c_le, c_gt, c_ge, c_is, c_isn, c_eqo, isNon_oE, Q.idx, Q.slc, getAt, L2.atI, L2.ixN, isNon, outs, leaf, Q.blt, mostLen, isiOne, tyOf, intsOf, boolsOf, h2, F_check_number]; rfl
              apply ebs_nx
              · simp [Q.run, Q.start, ebs, lev_s, lev_e, stepS, stepE, getP, putP, evv, evs, evss, evt, evAnd, evOr, evas, evo, evc, params, back, ioOf, setIo,  setNs, setN_eq, fr, asgT, asgTs, b_add, b_sub, c_eq, c_ne, c_lt, c_le, c_gt, c_ge, c_is, c_isn, c_eqo, isNon_oE, Q.idx, Q.slc, getAt, L2.atI, L2.ixN, isNon, outs, leaf, Q.blt, mostLen, isiOne, tyOf, intsOf, boolsOf, h4, F_form_of, hc, hf, mk]; rfl
              apply ebs_nx
              · simp [Q.run, Q.start, ebs, lev_s, lev_e, stepS, stepE, getP, putP, evv, evs, evss, evt, evAnd, evOr, evas, evo, evc, params, back, ioOf, setIo,  setNs, setN_eq, fr, asgT, asgTs, b_add, b_sub, c_eq, c_ne, c_lt, c_le, c_gt, c_ge, c_is, c_isn, c_eqo, isNon_oE, Q.idx, Q.slc, getAt, L2.atI, L2.ixN, isNon, outs, leaf, Q.blt, mostLen, isiOne, tyOf, intsOf, boolsOf, h3, F_made, hc, p]; rfl
              apply ebs_rt
              simp [Q.run, Q.start, ebs, lev_s, lev_e, stepS, stepE, getP, putP, evv, evs, evss, evt, evAnd, evOr, evas, evo, evc, params, back, ioOf, setIo,  setNs, setN_eq, fr, asgT, asgTs, b_add, b_sub, c_eq, c_ne, c_lt, c_le, c_gt, c_ge, c_is, c_isn, c_eqo, isNon_oE, Q.idx, Q.slc, getAt, L2.atI, L2.ixN, isNon, outs, leaf, Q.blt, mostLen, isiOne, tyOf, intsOf, boolsOf, p1, p2, shownI, hf, p, oP, oE_none, oE_some]
              rfl
            · rfl
        · apply run_rt
          · apply ebs_nx
            · simp [Q.run, Q.start, ebs, lev_s, lev_e, stepS, stepE, getP, putP, evv, evs, evss, evt, evAnd, evOr, evas, evo, evc, params, back, ioOf, setIo,  setNs, setN_eq, fr, asgT, asgTs, b_add, b_sub, c_eq, c_ne, c_lt, c_le, c_gt, c_ge, c_is, c_isn, c_eqo, isNon_oE, Q.idx, Q.slc, getAt, L2.atI, L2.ixN, isNon, outs, leaf, Q.blt, mostLen, isiOne, tyOf, intsOf, boolsOf, h1, F_check_clamp, hc, ok, N_shown]; rfl
            apply ebs_nx
            · simp [Q.run, Q.start, ebs, lev_s, lev_e, stepS, stepE, getP, putP, evv, evs, evss, evt, evAnd, evOr, evas, evo, evc, params, back, ioOf, setIo,  setNs, setN_eq, fr, asgT, asgTs, b_add, b_sub, c_eq, c_ne, c_lt, c_le, c_gt, c_ge, c_is, c_isn, c_eqo, isNon_oE, Q.idx, Q.slc, getAt, L2.atI, L2.ixN, isNon, outs, leaf, Q.blt, mostLen, isiOne, tyOf, intsOf, boolsOf, h2, F_check_number]; rfl
            apply ebs_nx
            · simp [Q.run, Q.start, ebs, lev_s, lev_e, stepS, stepE, getP, putP, evv, evs, evss, evt, evAnd, evOr, evas, evo, evc, params, back, ioOf, setIo,  setNs, setN_eq, fr, asgT, asgTs, b_add, b_sub, c_eq, c_ne, c_lt, c_le, c_gt, c_ge, c_is, c_isn, c_eqo, isNon_oE, Q.idx, Q.slc, getAt, L2.atI, L2.ixN, isNon, outs, leaf, Q.blt, mostLen, isiOne, tyOf, intsOf, boolsOf, h4, F_form_of, hc, hf, mk]; rfl
            apply ebs_rt
            simp [Q.run, Q.start, ebs, lev_s, lev_e, stepS, stepE, getP, putP, evv, evs, evss, evt, evAnd, evOr, evas, evo, evc, params, back, ioOf, setIo,  setNs, setN_eq, fr, asgT, asgTs, b_add, b_sub, c_eq, c_ne, c_lt, c_le, c_gt, c_ge, c_is, c_isn, c_eqo, isNon_oE, Q.idx, Q.slc, getAt, L2.atI, L2.ixN, isNon, outs, leaf, Q.blt, mostLen, isiOne, tyOf, intsOf, boolsOf, h3, F_made, hc, p, shownI, hf, oP]
            rfl
          · rfl
      · cases h
    · cases h
theorem fr_no : fr .no = true := rfl
theorem fr_at (s : Sh) (d : D) : fr (.at false s d) = true := rfl
theorem isNon_non : isNon .non = true := rfl
theorem isNon_int (i : Int) : isNon (.int i) = false := rfl
theorem isNon_tup (i : List D) : isNon (.tup i) = false := rfl
theorem isNon_lst (i : List D) : isNon (.lst i) = false := rfl
abbrev sA (d : D) : Slot := .at false .sh d
theorem ebs_one {LSt : LS} {s : S} {v : Ev} : ebs LSt [s] v = LSt s v := by
  simp only [ebs]
  split
  · rename_i v' h; rw [h]
  · rfl
theorem run_nx {Φ : Tab} {k n : Nat} {B : List S} {ps : List (Sh × D)} {v' : Ev} {ds : List (Sh × D)} (h : ebs (lev Φ k).s B (start n ps) = some (.nx v')) (ho : outs ps v' = some ds) : Q.run Φ k n B ps = some (.sh, .non, ds) := by simp [Q.run, h, ho]
def runF (Φ : Tab) (m n : Nat) (B : List S) : Fn := fun q => if q.length = m then Q.run Φ 24 n B q else none
theorem r_runF (Φ : Tab) (m n : Nat) (B : List S) : ∀ q r, runF Φ m n B q = some r → q.length = m ∧ Q.run Φ 24 n B q = some r := by
  intro q r h
  unfold runF at h
  split at h
  · exact ⟨by assumption, h⟩
  · cases h
theorem runF_eq {Φ : Tab} {m n : Nat} {B : List S} {q : List (Sh × D)} (h : q.length = m) : runF Φ m n B q = Q.run Φ 24 n B q := if_pos h
theorem app_ok {L : LE} {LSt : LS} {p : Pl} {e : E} {v v1 : Ev} {y d : D} {xs : List D} (h1 : getP v p = some (.lst, y)) (h2 : evv L e v = some (d, v1)) (h3 : getP v1 p = some (.lst, .lst xs)) (h4 : xs.length < mostLen) : stepS L LSt (.app p e) v = some (.nx (putP v1 (.lst (xs ++ [d])) p)) := by
  simp [stepS, h1, h2, h3, h4]
theorem b_min (i j : Int) : Q.blt .min [.int i, .int j] = some (.sh, .int (min i j)) := by
  have : (if j < i then j else i) = min i j := by split <;> omega
  simp only [Q.blt, this]
theorem b_max (i j : Int) : Q.blt .max [.int i, .int j] = some (.sh, .int (max i j)) := by
  have : (if j > i then j else i) = max i j := by split <;> omega
  simp only [Q.blt, this]
theorem c_eqB (a b : Bool) : Q.cmp .eq (.bl a) (.bl b) = some (a == b) := by cases a <;> cases b <;> rfl
theorem c_neB (a b : Bool) : Q.cmp .ne (.bl a) (.bl b) = some (a != b) := by cases a <;> cases b <;> rfl
theorem c_eqNN : Q.cmp .eq .non .non = some true := rfl
theorem lc_go {L : LE} {vs : List Nat} {t : Tg} {cond : Option E} {e : E} (p : D → Bool) (f : D → D) {v : Ev} : ∀ {xs acc : List D},
    (∀ x ∈ xs, ∃ v1, asgT t x v = some v1 ∧ evc L cond v1 = some (p x, v1) ∧ (p x = true → evv L e v1 = some (f x, v1)) ∧ wipeE v1 vs = v) → lcGo L vs t cond e xs acc v = some (acc ++ (xs.filter p).map f, v)
  | [], acc, _ => by simp [lcGo]
  | x :: xs, acc, h => by
    obtain ⟨v1, h1, h2, h3, h4⟩ := h x (List.mem_cons_self ..)
    have ih := fun acc => lc_go (xs := xs) (acc := acc) p f fun y hy => h y (List.mem_cons_of_mem _ hy)
    cases px : p x with
    | true => simp [lcGo, h1, h2, h3 px, px, h4, ih]
    | false => simp [lcGo, h1, h2, px, h4, ih]
theorem for_go {LSt : LS} {t : Tg} {b : List S} (I : Ev → Prop) : ∀ {xs : List D} {v : Ev},
    (∀ x ∈ xs, ∀ v, I v → ∃ v1 v2, asgT t x v = some v1 ∧ ebs LSt b v1 = some (.nx v2) ∧ I v2) → I v → ∃ v', forGo LSt t b xs v = some (.nx v') ∧ I v'
  | [], v, _, hv => ⟨v, rfl, hv⟩
  | x :: xs, v, h, hv => by
    obtain ⟨v1, v2, h1, h2, h3⟩ := h x (List.mem_cons_self ..) v hv
    obtain ⟨v', e, i⟩ := for_go I (xs := xs) (v := v2) (fun y hy => h y (List.mem_cons_of_mem _ hy)) h3
    exact ⟨v', by simp [forGo, h1, h2, e], i⟩
abbrev Ds := Int × Int × Int
def dr (s : Ds) : D := .lst [.int s.1, .int s.2.1, .int s.2.2]
def drawK (s : Ds) (m : Int) : Int := if 0 < s.1 then s.1 % m else ((s.2.1 * 48271 + (s.2.2 + 1) * 7919 + 12345) % 2147483647 / 65536 + (s.2.1 * 48271 + (s.2.2 + 1) * 7919 + 12345) % 2147483647) % m
def drawS (s : Ds) (m : Int) : Ds := if 0 < s.1 then (s.1 / m, s.2.1, s.2.2) else (s.1, (s.2.1 * 48271 + (s.2.2 + 1) * 7919 + 12345) % 2147483647, s.2.2 + 1)
theorem drawK_lt (s : Ds) {m : Int} (h : 0 < m) : 0 ≤ drawK s m ∧ drawK s m < m := by
  unfold drawK
  split
  · exact ⟨Int.emod_nonneg _ (by omega), Int.emod_lt_of_pos _ h⟩
  · exact ⟨Int.emod_nonneg _ (by omega), Int.emod_lt_of_pos _ h⟩
def F_l_draw : Fn
  | [(.lst, .lst [.int a, .int b, .int c]), (.sh, .int m)] => if 0 < m ∧ m < 1073741824 then some (.sh, .int (drawK (a, b, c) m), [(.lst, dr (drawS (a, b, c) m))]) else none
  | _ => none
theorem draw_dr (s : Ds) (m : Int) : F_l_draw [(.lst, dr s), (.sh, .int m)] = if 0 < m ∧ m < 1073741824 then some (.sh, .int (drawK s m), [(.lst, dr (drawS s m))]) else none := rfl
theorem r_l_draw (Φ : Tab) : ∀ q r, F_l_draw q = some r → q.length = 2 ∧ Q.run Φ 24 N_l_draw.length B_l_draw q = some r := by
  intro q r h
  unfold F_l_draw at h
  split at h
  · rename_i a b c m
    split at h
    · rename_i hm
      cases h
      refine ⟨rfl, ?_⟩
      by_cases p : 0 < a
      · simp [Q.run, Q.start, ebs, lev_s, lev_e, stepS, stepE, getP, putP, evv, evs, evss, evt, evAnd, evOr, evas, evo, evc, params, back, ioOf, setIo,  setNs, setN_eq, fr, asgT, asgTs, Q.bin, c_eq, c_ne, c_lt, c_le, c_gt, c_ge, c_is, c_isn, c_eqo, isNon_oE, c_eqB, c_neB, c_eqNN, Q.idx, Q.slc, isNon, outs, leaf, Q.blt, mostLen, isiOne, tyOf, intsOf, boolsOf, Q.run, B_l_draw, N_l_draw, getAt, L2.atI, L2.ixN, p, hm, drawK, drawS, dr]
      · simp [Q.run, Q.start, ebs, lev_s, lev_e, stepS, stepE, getP, putP, evv, evs, evss, evt, evAnd, evOr, evas, evo, evc, params, back, ioOf, setIo,  setNs, setN_eq, fr, asgT, asgTs, Q.bin, c_eq, c_ne, c_lt, c_le, c_gt, c_ge, c_is, c_isn, c_eqo, isNon_oE, c_eqB, c_neB, c_eqNN, Q.idx, Q.slc, isNon, outs, leaf, Q.blt, mostLen, isiOne, tyOf, intsOf, boolsOf, Q.run, B_l_draw, N_l_draw, getAt, L2.atI, L2.ixN, p, hm, drawK, drawS, dr]
    · cases h
  · cases h
def F_l_source : Fn
  | [(.fro, .lst xs), (.sh, .int p)] => (match (if p < xs.length then getAt xs p else some (.int (7 * p + 5))) with
    | some (.int raw) => some (.lst, dr (if 1000000000000000000 ≤ raw then raw else 0, raw % 2147483647, 0), [(.fro, .lst xs)])
    | _ => none)
  | _ => none
theorem r_l_source (Φ : Tab) : ∀ q r, F_l_source q = some r → q.length = 2 ∧ Q.run Φ 24 N_l_source.length B_l_source q = some r := by
  intro q r h
  unfold F_l_source at h
  split at h
  · rename_i xs p
    split at h
    · rename_i raw hr
      cases h
      refine ⟨rfl, ?_⟩
      by_cases p1 : p < xs.length
      · rw [if_pos p1] at hr
        by_cases p2 : 1000000000000000000 ≤ raw <;> simp [Q.run, Q.start, ebs, lev_s, lev_e, stepS, stepE, getP, putP, evv, evs, evss, evt, evAnd, evOr, evas, evo, evc, params, back, ioOf, setIo,  setNs, setN_eq, fr, asgT, asgTs, Q.bin, c_eq, c_ne, c_lt, c_le, c_gt, c_ge, c_is, c_isn, c_eqo, isNon_oE, c_eqB, c_neB, c_eqNN, Q.idx, Q.slc, isNon, outs, leaf, Q.blt, mostLen, isiOne, tyOf, intsOf, boolsOf, Q.run, B_l_source, N_l_source, p1, p2, hr, dr]
      · rw [if_neg p1] at hr
        cases hr
        by_cases p2 : 1000000000000000000 ≤ 7 * p + 5 <;> simp [Q.run, Q.start, ebs, lev_s, lev_e, stepS, stepE, getP, putP, evv, evs, evss, evt, evAnd, evOr, evas, evo, evc, params, back, ioOf, setIo,  setNs, setN_eq, fr, asgT, asgTs, Q.bin, c_eq, c_ne, c_lt, c_le, c_gt, c_ge, c_is, c_isn, c_eqo, isNon_oE, c_eqB, c_neB, c_eqNN, Q.idx, Q.slc, isNon, outs, leaf, Q.blt, mostLen, isiOne, tyOf, intsOf, boolsOf, Q.run, B_l_source, N_l_source, p1, p2, dr]
    · cases h
  · cases h
theorem getAt_pos {xs : List D} {i : Int} (h0 : 0 ≤ i) (h1 : i < xs.length) : getAt xs i = xs[i.toNat]? := by
  simp [getAt, L2.atI, L2.ixN, h0, h1]
theorem f_draw (s : Ds) (m : Int) (h : 0 < m ∧ m < 1073741824) : F_l_draw [(.lst, dr s), (.sh, .int m)] = some (.sh, .int (drawK s m), [(.lst, dr (drawS s m))]) := by rw [draw_dr, if_pos h]
theorem nat_draw (s : Ds) {m : Int} (h : 0 < m) : ∃ n : Nat, drawK s m = (n : Int) ∧ (n : Int) < m := by
  have := drawK_lt s h
  exact ⟨(drawK s m).toNat, by omega, by omega⟩
theorem sp_source (ns : List Int) (p : Nat) : ∃ s, F_l_source [(.fro, .lst (ns.map .int)), (.sh, .int p)] = some (.lst, dr s, [(.fro, .lst (ns.map .int))]) := by
  by_cases h : p < ns.length
  · have e : getAt (ns.map D.int) (p : Int) = some (.int ns[p]) := by
      rw [getAt_pos (by omega) (by simpa using h)]
      simp [h]
    simp [F_l_source, h, e]
    exact ⟨_, _, _, rfl⟩
  · simp [F_l_source, h]
    exact ⟨_, _, _, rfl⟩
def F_l_pick : Fn
  | [(.lst, .lst [.int a, .int b, .int c]), (.sh, .lst xs)] => if 0 < xs.length ∧ xs.length < 1000 then (match xs[(drawK (a, b, c) xs.length).toNat]? with
    | some d => some (.sh, d, [(.lst, dr (drawS (a, b, c) xs.length))])
    | none => none) else none
  | _ => none
theorem pick_dr (s : Ds) (xs : List D) : F_l_pick [(.lst, dr s), (.sh, .lst xs)] = if 0 < xs.length ∧ xs.length < 1000 then (match xs[(drawK s xs.length).toNat]? with
    | some d => some (.sh, d, [(.lst, dr (drawS s xs.length))])
    | none => none) else none := rfl
theorem r_l_pick (Φ : Tab) (h1 : Φ.fn "_law_draw" = some F_l_draw) : ∀ q r, F_l_pick q = some r → q.length = 2 ∧ Q.run Φ 24 N_l_pick.length B_l_pick q = some r := by
  intro q r h
  unfold F_l_pick at h
  split at h
  · rename_i a b c xs
    split at h
    · rename_i hm
      split at h
      · rename_i d hd
        cases h
        refine ⟨rfl, ?_⟩
        have hp : (0 : Int) < (xs.length : Int) ∧ (xs.length : Int) < 1073741824 := by omega
        have hk := drawK_lt (a, b, c) hp.1
        have hg := getAt_pos hk.1 hk.2
        rw [hd] at hg
        have hz : xs ≠ [] := fun z => by rw [z] at hm; simp at hm
        simp [Q.run, Q.start, ebs, lev_s, lev_e, stepS, stepE, getP, putP, evv, evs, evss, evt, evAnd, evOr, evas, evo, evc, params, back, ioOf, setIo,  setNs, setN_eq, fr, asgT, asgTs, b_add, b_sub, c_eq, c_ne, c_lt, c_le, c_gt, c_ge, c_is, c_isn, c_eqo, isNon_oE, c_eqB, c_neB, c_eqNN, Q.idx, Q.slc, isNon, outs, leaf, Q.blt, mostLen, isiOne, tyOf, intsOf, boolsOf, Q.run, B_l_pick, N_l_pick, h1, F_l_draw, hp, hm.1, hg]
      · cases h
    · cases h
  · cases h
theorem pick_ok (s : Ds) {xs : List D} (h : 0 < xs.length ∧ xs.length < 1000) : ∃ d s', d ∈ xs ∧ F_l_pick [(.lst, dr s), (.sh, .lst xs)] = some (.sh, d, [(.lst, dr s')]) := by
  have hk := drawK_lt s (m := xs.length) (by omega)
  have hi : (drawK s xs.length).toNat < xs.length := by omega
  refine ⟨xs[(drawK s xs.length).toNat], drawS s xs.length, List.getElem_mem _, ?_⟩
  rw [pick_dr, if_pos h, List.getElem?_eq_getElem hi]
/-! ### same -/
mutual
def smOk : Nat → D → Bool
  | _, .non => true
  | _, .int _ => true
  | _, .bl _ => true
  | _, .str x => PyData.canLay0 (.str x)
  | k + 1, .lst xs => smOks k xs
  | k + 1, .tup xs => smOks k xs
  | _, _ => false
def smOks : Nat → List D → Bool
  | _, [] => true
  | k, x :: xs => smOk k x && smOks k xs
end
theorem c_eqS {x : Str} (h : PyData.canLay0 (.str x) = true) : Q.cmp .eq (.str x) (.str x) = some true := by
  simp [Q.cmp, eqq, D.wf, D.pl, D.py, SeqAt.shaped, h, PyData.depth, eqd, PyData.eqv]
theorem smOks_mem {k : Nat} : ∀ {xs : List D}, smOks k xs = true → ∀ x ∈ xs, smOk k x = true
  | [], _, x, hx => by cases hx
  | y :: ys, h, x, hx => by
    simp only [smOks, Bool.and_eq_true] at h
    rcases List.mem_cons.mp hx with rfl | hx
    · exact h.1
    · exact smOks_mem h.2 x hx
open Classical in
noncomputable def Fsame (k : Nat) : Fn
  | [(.sh, a), (.sh, b)] => if a = b ∧ smOk k b = true then some (.sh, .bl true, []) else none
  | _ => none
theorem same_eq {k : Nat} {a : D} (h : smOk k a = true) : Fsame k [(.sh, a), (.sh, a)] = some (.sh, .bl true, []) := by simp [Fsame, h]
theorem bools_true (xs : List D) : boolsOf (xs.map fun _ => D.bl true) = some (xs.map fun _ => true) := by
  induction xs with
  | nil => rfl
  | cons x xs ih => simp [boolsOf, ih]
theorem all_true (xs : List D) : ((xs.map fun _ => true).all id) = true := by simp
theorem same_lc (Φ : Tab) (k : Nat) (h1 : Φ.fn "_law_same" = some (Fsame k)) {xs : List D} (hs : smOks k xs = true) (a b : D) (n : Nat) : lcGo (lev Φ (n + 4)).e [2, 3] (.tp [(.nm 2), (.nm 3)]) none (.call "_law_same" [.v (.pv (.s 2)), .v (.pv (.s 3))]) (xs.map fun x => .tup [x, x]) [] [.at false .sh a, .at false .sh b, .no, .no] = some (xs.map (fun _ => .bl true), [.at false .sh a, .at false .sh b, .no, .no]) := by
  have := lc_go (L := (lev Φ (n + 4)).e) (vs := [2, 3]) (t := .tp [(.nm 2), (.nm 3)]) (cond := none) (e := .call "_law_same" [.v (.pv (.s 2)), .v (.pv (.s 3))]) (fun _ => true) (fun _ => .bl true) (v := [.at false .sh a, .at false .sh b, .no, .no]) (xs := xs.map fun x => .tup [x, x]) (acc := []) ?_
  · rw [this, List.filter_eq_self.mpr (fun _ _ => rfl), List.map_map]; rfl
  · intro x hx
    obtain ⟨y, hy, rfl⟩ := List.mem_map.mp hx
    refine ⟨[.at false .sh a, .at false .sh b, .at false .sh y, .at false .sh y], rfl, rfl, fun _ => ?_, rfl⟩
    have := same_eq (smOks_mem hs y hy)
    simp [Q.run, Q.start, ebs, lev_s, lev_e, stepS, stepE, getP, putP, evv, evs, evss, evt, evAnd, evOr, evas, evo, evc, params, back, ioOf, setIo,  setNs, setN_eq, fr, asgT, asgTs, b_add, b_sub, c_eq, c_ne, c_lt, c_le, c_gt, c_ge, c_is, c_isn, c_eqo, isNon_oE, c_eqB, c_neB, c_eqNN, Q.idx, Q.slc, isNon, outs, leaf, Q.blt, mostLen, isiOne, tyOf, intsOf, boolsOf, h1, this]
theorem r_l_same0 (Φ : Tab) : ∀ q r, Fsame 0 q = some r → q.length = 2 ∧ Q.run Φ 24 N_l_same.length B_l_same q = some r := by
  intro q r h
  unfold Fsame at h
  split at h
  · rename_i a b
    split at h
    · rename_i hm
      obtain ⟨rfl, hs⟩ := hm
      cases h
      refine ⟨rfl, ?_⟩
      cases a with
      | non => simp [Q.run, Q.start, ebs, lev_s, lev_e, stepS, stepE, getP, putP, evv, evs, evss, evt, evAnd, evOr, evas, evo, evc, params, back, ioOf, setIo,  setNs, setN_eq, fr, asgT, asgTs, b_add, b_sub, c_eq, c_ne, c_lt, c_le, c_gt, c_ge, c_is, c_isn, c_eqo, isNon_oE, c_eqB, c_neB, c_eqNN, Q.idx, Q.slc, isNon, outs, leaf, Q.blt, mostLen, isiOne, tyOf, intsOf, boolsOf, Q.run, B_l_same, N_l_same]
      | int i => simp [Q.run, Q.start, ebs, lev_s, lev_e, stepS, stepE, getP, putP, evv, evs, evss, evt, evAnd, evOr, evas, evo, evc, params, back, ioOf, setIo,  setNs, setN_eq, fr, asgT, asgTs, b_add, b_sub, c_eq, c_ne, c_lt, c_le, c_gt, c_ge, c_is, c_isn, c_eqo, isNon_oE, c_eqB, c_neB, c_eqNN, Q.idx, Q.slc, isNon, outs, leaf, Q.blt, mostLen, isiOne, tyOf, intsOf, boolsOf, Q.run, B_l_same, N_l_same]
      | bl i => cases i <;> simp [Q.run, Q.start, ebs, lev_s, lev_e, stepS, stepE, getP, putP, evv, evs, evss, evt, evAnd, evOr, evas, evo, evc, params, back, ioOf, setIo,  setNs, setN_eq, fr, asgT, asgTs, b_add, b_sub, c_eq, c_ne, c_lt, c_le, c_gt, c_ge, c_is, c_isn, c_eqo, isNon_oE, c_eqB, c_neB, c_eqNN, Q.idx, Q.slc, isNon, outs, leaf, Q.blt, mostLen, isiOne, tyOf, intsOf, boolsOf, Q.run, B_l_same, N_l_same]
      | str i => simp [Q.run, Q.start, ebs, lev_s, lev_e, stepS, stepE, getP, putP, evv, evs, evss, evt, evAnd, evOr, evas, evo, evc, params, back, ioOf, setIo,  setNs, setN_eq, fr, asgT, asgTs, b_add, b_sub, c_eq, c_ne, c_lt, c_le, c_gt, c_ge, c_is, c_isn, c_eqo, isNon_oE, c_eqB, c_neB, c_eqNN, Q.idx, Q.slc, isNon, outs, leaf, Q.blt, mostLen, isiOne, tyOf, intsOf, boolsOf, Q.run, B_l_same, N_l_same, c_eqS (show PyData.canLay0 (.str i) = true from hs)]
      | _ => cases hs
    · cases h
  · cases h
theorem r_l_same (Φ : Tab) (k : Nat) (h1 : Φ.fn "_law_same" = some (Fsame k)) : ∀ q r, Fsame (k + 1) q = some r → q.length = 2 ∧ Q.run Φ 24 N_l_same.length B_l_same q = some r := by
  intro q r h
  unfold Fsame at h
  split at h
  · rename_i a b
    split at h
    · rename_i hm
      obtain ⟨rfl, hs⟩ := hm
      cases h
      refine ⟨rfl, ?_⟩
      cases a with
      | non => simp [Q.run, Q.start, ebs, lev_s, lev_e, stepS, stepE, getP, putP, evv, evs, evss, evt, evAnd, evOr, evas, evo, evc, params, back, ioOf, setIo,  setNs, setN_eq, fr, asgT, asgTs, b_add, b_sub, c_eq, c_ne, c_lt, c_le, c_gt, c_ge, c_is, c_isn, c_eqo, isNon_oE, c_eqB, c_neB, c_eqNN, Q.idx, Q.slc, isNon, outs, leaf, Q.blt, mostLen, isiOne, tyOf, intsOf, boolsOf, Q.run, B_l_same, N_l_same]
      | int i => simp [Q.run, Q.start, ebs, lev_s, lev_e, stepS, stepE, getP, putP, evv, evs, evss, evt, evAnd, evOr, evas, evo, evc, params, back, ioOf, setIo,  setNs, setN_eq, fr, asgT, asgTs, b_add, b_sub, c_eq, c_ne, c_lt, c_le, c_gt, c_ge, c_is, c_isn, c_eqo, isNon_oE, c_eqB, c_neB, c_eqNN, Q.idx, Q.slc, isNon, outs, leaf, Q.blt, mostLen, isiOne, tyOf, intsOf, boolsOf, Q.run, B_l_same, N_l_same]
      | bl i => cases i <;> simp [Q.run, Q.start, ebs, lev_s, lev_e, stepS, stepE, getP, putP, evv, evs, evss, evt, evAnd, evOr, evas, evo, evc, params, back, ioOf, setIo,  setNs, setN_eq, fr, asgT, asgTs, b_add, b_sub, c_eq, c_ne, c_lt, c_le, c_gt, c_ge, c_is, c_isn, c_eqo, isNon_oE, c_eqB, c_neB, c_eqNN, Q.idx, Q.slc, isNon, outs, leaf, Q.blt, mostLen, isiOne, tyOf, intsOf, boolsOf, Q.run, B_l_same, N_l_same]
      | str i => simp [Q.run, Q.start, ebs, lev_s, lev_e, stepS, stepE, getP, putP, evv, evs, evss, evt, evAnd, evOr, evas, evo, evc, params, back, ioOf, setIo,  setNs, setN_eq, fr, asgT, asgTs, b_add, b_sub, c_eq, c_ne, c_lt, c_le, c_gt, c_ge, c_is, c_isn, c_eqo, isNon_oE, c_eqB, c_neB, c_eqNN, Q.idx, Q.slc, isNon, outs, leaf, Q.blt, mostLen, isiOne, tyOf, intsOf, boolsOf, Q.run, B_l_same, N_l_same, c_eqS (show PyData.canLay0 (.str i) = true from hs)]
      | lst xs =>
        have := fun n => same_lc Φ k h1 (show smOks k xs = true from hs) (.lst xs) (.lst xs) n
        have l17 := this 15
        simp [Q.run, Q.start, ebs, lev_s, lev_e, stepS, stepE, getP, putP, evv, evs, evss, evt, evAnd, evOr, evas, evo, evc, params, back, ioOf, setIo,  setNs, setN_eq, fr, asgT, asgTs, b_add, b_sub, c_eq, c_ne, c_lt, c_le, c_gt, c_ge, c_is, c_isn, c_eqo, isNon_oE, c_eqB, c_neB, c_eqNN, Q.idx, Q.slc, isNon, outs, leaf, Q.blt, mostLen, isiOne, tyOf, intsOf, boolsOf, Q.run, B_l_same, N_l_same, evi, wipeE, l17, bools_true]
      | tup xs =>
        have := fun n => same_lc Φ k h1 (show smOks k xs = true from hs) (.tup xs) (.tup xs) n
        have l17 := this 15
        simp [Q.run, Q.start, ebs, lev_s, lev_e, stepS, stepE, getP, putP, evv, evs, evss, evt, evAnd, evOr, evas, evo, evc, params, back, ioOf, setIo,  setNs, setN_eq, fr, asgT, asgTs, b_add, b_sub, c_eq, c_ne, c_lt, c_le, c_gt, c_ge, c_is, c_isn, c_eqo, isNon_oE, c_eqB, c_neB, c_eqNN, Q.idx, Q.slc, isNon, outs, leaf, Q.blt, mostLen, isiOne, tyOf, intsOf, boolsOf, Q.run, B_l_same, N_l_same, evi, wipeE, l17, bools_true]
      | _ => cases hs
    · cases h
  · cases h
end K

set_option Elab.async false
set_option linter.all false
set_option maxRecDepth 100000
set_option maxHeartbeats 4000000
namespace K
open PySem Q
/-! ### forms, joins: plain -/
theorem form_form (c : C) : formI (formI c) = formI c := by
  obtain ⟨l, s, h⟩ := c
  cases l with
  | none => cases h <;> rfl
  | some l => cases h with
    | none => rfl
    | some h => by_cases z : l = h <;> simp [formI, z]
theorem okC_form (c : C) : okC (formI c) = okC c := by
  obtain ⟨l, s, h⟩ := c
  cases l with
  | none => cases h <;> rfl
  | some l => cases h with
    | none => rfl
    | some h => by_cases z : l = h <;> simp [formI, z, okC]
theorem made_form {c : C} (x : Int) : madeI (formI c) x = madeI c x := by
  obtain ⟨l, s, h⟩ := c
  cases l with
  | none => cases h <;> rfl
  | some l => cases h with
    | none => rfl
    | some h =>
      by_cases z : l = h
      · subst z
        have e : formI (some l, s, some l) = (some l, 0, some l) := by simp [formI]
        rw [e]
        simp only [madeI]
        (repeat' split) <;> omega
      · simp [formI, z]
def behI (a b : C) : C := formI ((match a.1 with | none => b.1 | some l => some (madeI b l)), a.2.1 + b.2.1, (match a.2.2 with | none => b.2.2 | some h => some (madeI b h)))
theorem made_le {b : C} {x y : Int} (h : x ≤ y) : madeI b x ≤ madeI b y := by
  obtain ⟨l, s, k⟩ := b
  cases l <;> cases k <;> simp only [madeI] <;> (repeat' split) <;> omega
theorem beh_ok {a b : C} (ha : okC a = true) (hb : okC b = true) : okC (behI a b) = true := by
  unfold behI
  rw [okC_form]
  obtain ⟨l, s, h⟩ := a
  obtain ⟨l', s', h'⟩ := b
  cases l with
  | none => cases h with
    | none => simpa [okC] using hb
    | some h =>
      cases l' with
      | none => rfl
      | some l' =>
        cases h' with
        | none => simp only [okC, madeI, decide_eq_true_eq]; split <;> omega
        | some h' =>
          have : l' ≤ h' := by simpa [okC] using hb
          simp only [okC, madeI, decide_eq_true_eq]; (repeat' split) <;> omega
  | some l => cases h with
    | none =>
      cases h' with
      | none => rfl
      | some h' =>
        cases l' with
        | none => simp only [okC, madeI, decide_eq_true_eq]; split <;> omega
        | some l' =>
          have : l' ≤ h' := by simpa [okC] using hb
          simp only [okC, madeI, decide_eq_true_eq]; (repeat' split) <;> omega
    | some h =>
      have : l ≤ h := by simpa [okC] using ha
      simp only [okC, decide_eq_true_eq]
      exact made_le this
theorem beh_made {a b : C} (ha : okC a = true) (hb : okC b = true) (x : Int) : madeI (behI a b) x = madeI b (madeI a x) := by
  unfold behI
  rw [made_form]
  obtain ⟨l, s, h⟩ := a
  obtain ⟨l', s', h'⟩ := b
  have o1 : ∀ p q, l = some p → h = some q → p ≤ q := by rintro p q rfl rfl; simpa [okC] using ha
  have o2 : ∀ p q, l' = some p → h' = some q → p ≤ q := by rintro p q rfl rfl; simpa [okC] using hb
  cases l <;> cases h <;> cases l' <;> cases h' <;> simp only [Option.some.injEq, forall_eq', reduceCtorEq, false_implies, implies_true, forall_const] at o1 o2 <;> simp only [madeI] <;> (repeat' split) <;> omega
def joinI (cs : List C) : C := cs.foldl behI (none, 0, none)
theorem fold_ok : ∀ (cs : List C) (a : C), okC a = true → (∀ c ∈ cs, okC c = true) → okC (cs.foldl behI a) = true ∧ ∀ x, madeI (cs.foldl behI a) x = cs.foldl (fun x c => madeI c x) (madeI a x)
  | [], a, ha, _ => ⟨ha, fun _ => rfl⟩
  | c :: cs, a, ha, h => by
    have hc := h c (List.mem_cons_self ..)
    obtain ⟨h1, h2⟩ := fold_ok cs (behI a c) (beh_ok ha hc) fun d hd => h d (List.mem_cons_of_mem _ hd)
    refine ⟨h1, fun x => ?_⟩
    rw [List.foldl_cons, List.foldl_cons, h2, beh_made ha hc]
theorem fold_form : ∀ (cs : List C) (a : C), formI a = a → formI (cs.foldl behI a) = cs.foldl behI a
  | [], _, h => h
  | c :: cs, a, _ => fold_form cs (behI a c) (form_form _)
theorem join_ok {cs : List C} (h : ∀ c ∈ cs, okC c = true) : okC (joinI cs) = true := (fold_ok cs _ rfl h).1
theorem join_form (cs : List C) : formI (joinI cs) = joinI cs := fold_form cs _ rfl
theorem join_made {cs : List C} (h : ∀ c ∈ cs, okC c = true) (x : Int) : madeI (joinI cs) x = cs.foldl (fun x c => madeI c x) x := by
  rw [joinI, (fold_ok cs _ rfl h).2]
  congr 1
  simp [madeI]
theorem join_one (c : C) : joinI [c] = formI c := by
  obtain ⟨l, s, h⟩ := c
  simp [joinI, behI]
def inB (B : Int) (c : C) : Prop := (∀ l, c.1 = some l → -B ≤ l ∧ l ≤ B) ∧ (-B ≤ c.2.1 ∧ c.2.1 ≤ B) ∧ (∀ l, c.2.2 = some l → -B ≤ l ∧ l ≤ B)
/-- a form is known by what it makes -/
theorem uniq {B N : Int} (hB : 0 ≤ B) (hN : 3 * B + 3 ≤ N) {a b : C} (ia : inB B a) (ib : inB B b) (oa : okC a = true) (ob : okC b = true) (fa : formI a = a) (fb : formI b = b) (e : ∀ x, -N ≤ x → x ≤ N → madeI a x = madeI b x) : a = b := by
  obtain ⟨l, s, h⟩ := a
  obtain ⟨l', s', h'⟩ := b
  obtain ⟨i1, i2, i3⟩ := ia
  obtain ⟨j1, j2, j3⟩ := ib
  simp only at i1 i2 i3 j1 j2 j3
  have e1 := e (-N) (by omega) (by omega)
  have e2 := e N (by omega) (by omega)
  cases l with
  | none =>
    cases h with
    | none =>
      have e3 := e 0 (by omega) (by omega)
      cases l' with
      | none => cases h' with
        | none => simp only [madeI] at e3; have : s = s' := by omega
                  rw [this]
        | some h' => have := j3 h' rfl; simp only [madeI] at e1 e2; (repeat' split at e1) <;> (repeat' split at e2) <;> omega
      | some l' => cases h' with
        | none => have := j1 l' rfl; simp only [madeI] at e1 e2; (repeat' split at e1) <;> (repeat' split at e2) <;> omega
        | some h' => have := j3 h' rfl; have := j1 l' rfl; simp only [madeI] at e1 e2; (repeat' split at e1) <;> (repeat' split at e2) <;> omega
    | some h =>
      have := i3 h rfl
      cases l' with
      | none => cases h' with
        | none => simp only [madeI] at e1 e2; (repeat' split at e1) <;> (repeat' split at e2) <;> omega
        | some h' =>
          have := j3 h' rfl; simp only [madeI] at e1 e2
          have z1 : s = s' := by (repeat' split at e1) <;> omega
          have z2 : h = h' := by (repeat' split at e2) <;> omega
          rw [z1, z2]
      | some l' => cases h' with
        | none => have := j1 l' rfl; simp only [madeI] at e1 e2; (repeat' split at e1) <;> (repeat' split at e2) <;> omega
        | some h' => have := j3 h' rfl; have := j1 l' rfl; simp only [madeI] at e1 e2; (repeat' split at e1) <;> (repeat' split at e2) <;> omega
  | some l =>
    have := i1 l rfl
    cases h with
    | none =>
      cases l' with
      | none => cases h' with
        | none => simp only [madeI] at e1 e2; (repeat' split at e1) <;> (repeat' split at e2) <;> omega
        | some h' => have := j3 h' rfl; simp only [madeI] at e1 e2; (repeat' split at e1) <;> (repeat' split at e2) <;> omega
      | some l' => cases h' with
        | none =>
          have := j1 l' rfl; simp only [madeI] at e1 e2
          have z1 : s = s' := by (repeat' split at e2) <;> omega
          have z2 : l = l' := by (repeat' split at e1) <;> omega
          rw [z1, z2]
        | some h' => have := j3 h' rfl; have := j1 l' rfl; simp only [madeI] at e1 e2; (repeat' split at e1) <;> (repeat' split at e2) <;> omega
    | some h =>
      have := i3 h rfl
      have o1 : l ≤ h := by simpa [okC] using oa
      cases l' with
      | none => cases h' with
        | none => simp only [madeI] at e1 e2; (repeat' split at e1) <;> (repeat' split at e2) <;> omega
        | some h' => have := j3 h' rfl; simp only [madeI] at e1 e2; (repeat' split at e1) <;> (repeat' split at e2) <;> omega
      | some l' => cases h' with
        | none => have := j1 l' rfl; simp only [madeI] at e1 e2; (repeat' split at e1) <;> (repeat' split at e2) <;> omega
        | some h' =>
          have := j3 h' rfl; have := j1 l' rfl
          have o2 : l' ≤ h' := by simpa [okC] using ob
          simp only [madeI] at e1 e2
          have z1 : l = l' := by (repeat' split at e1) <;> omega
          have z2 : h = h' := by (repeat' split at e2) <;> omega
          subst z1 z2
          have z3 : s = s' := by
            by_cases z : l = h
            · subst z
              simp [formI] at fa fb
              omega
            · have e3 := e (l - s) (by omega) (by omega)
              have e4 := e (l - s + 1) (by omega) (by omega)
              simp only [madeI] at e3 e4
              (repeat' split at e3) <;> (repeat' split at e4) <;> omega
          rw [z3]
def absC (c : C) : Int := (match c.1 with | none => 0 | some l => (l.natAbs : Int)) + c.2.1.natAbs + (match c.2.2 with | none => 0 | some l => (l.natAbs : Int))
theorem inB_abs (c : C) {B : Int} (h : absC c ≤ B) : inB B c := by
  obtain ⟨l, s, k⟩ := c
  unfold absC at h
  refine ⟨fun p hp => ?_, ?_, fun p hp => ?_⟩
  · simp only at hp; subst hp; cases k <;> simp only at h <;> omega
  · cases l <;> cases k <;> simp only at h ⊢ <;> omega
  · simp only at hp; subst hp; cases l <;> simp only at h <;> omega
theorem absC_pos (c : C) : 0 ≤ absC c := by
  obtain ⟨l, s, k⟩ := c
  unfold absC
  cases l <;> cases k <;> simp only <;> omega
theorem ext_form {a b : C} (oa : okC a = true) (ob : okC b = true) (fa : formI a = a) (fb : formI b = b) (e : ∀ x, madeI a x = madeI b x) : a = b := by
  have := absC_pos a
  have := absC_pos b
  exact uniq (B := absC a + absC b) (N := 3 * (absC a + absC b) + 3) (by omega) (by omega) (inB_abs a (by omega)) (inB_abs b (by omega)) oa ob fa fb fun x _ _ => e x
theorem join_parts {as bs : List C} (ha : ∀ c ∈ as, okC c = true) (hb : ∀ c ∈ bs, okC c = true) : joinI [joinI as, joinI bs] = joinI (as ++ bs) := by
  have hab : ∀ c ∈ as ++ bs, okC c = true := fun c hc => (List.mem_append.mp hc).elim (ha c) (hb c)
  have h2 : ∀ c ∈ [joinI as, joinI bs], okC c = true := by simp [join_ok ha, join_ok hb]
  apply ext_form (join_ok h2) (join_ok hab) (join_form _) (join_form _)
  intro x
  rw [join_made h2, join_made hab, List.foldl_append]
  simp [join_made ha, join_made hb]
theorem join_stay {as bs : List C} (ha : ∀ c ∈ as, okC c = true) (hb : ∀ c ∈ bs, okC c = true) : joinI (as ++ [(none, 0, none)] ++ bs) = joinI (as ++ bs) := by
  have hab : ∀ c ∈ as ++ bs, okC c = true := fun c hc => (List.mem_append.mp hc).elim (ha c) (hb c)
  have h2 : ∀ c ∈ as ++ [(none, 0, none)] ++ bs, okC c = true := by
    intro c hc
    rcases List.mem_append.mp hc with hc | hc
    · rcases List.mem_append.mp hc with hc | hc
      · exact ha c hc
      · simp at hc; subst hc; rfl
    · exact hb c hc
  apply ext_form (join_ok h2) (join_ok hab) (join_form _) (join_form _)
  intro x
  rw [join_made h2, join_made hab, List.foldl_append, List.foldl_append, List.foldl_append]
  simp [madeI]
def F_clamp_behind : Fn
  | [(.sh, d), (.sh, e)] => (match asC d, asC e with | some a, some b => some (.sh, mk true (behI a b), []) | _, _ => none)
  | _ => none
theorem g0 (a b c : D) : getAt [a, b, c] 0 = some a := rfl
theorem g1 (a b c : D) : getAt [a, b, c] 1 = some b := rfl
theorem g2 (a b c : D) : getAt [a, b, c] 2 = some c := rfl
theorem ix0 (k : Bool) (c : C) : Q.idx (mk k c) (.int 0) = some (oE c.1) := by cases k <;> rfl
theorem ix1 (k : Bool) (c : C) : Q.idx (mk k c) (.int 1) = some (.int c.2.1) := by cases k <;> rfl
theorem ix2 (k : Bool) (c : C) : Q.idx (mk k c) (.int 2) = some (oE c.2.2) := by cases k <;> rfl
theorem f_made (k : Bool) (c : C) (x : Int) : F_made [(.sh, mk k c), (.sh, .int x)] = some (.sh, .int (madeI c x), []) := by
  simp [F_made, mk_asC]
theorem f_form_t (l h : Option Int) (s : Int) : F_form_of [(.sh, .tup [oE l, .int s, oE h])] = some (.sh, mk true (formI (l, s, h)), []) := by
  have : D.tup [oE l, .int s, oE h] = mk true (l, s, h) := rfl
  rw [this]; simp [F_form_of, mk_asC]
theorem r_clamp_behind (Φ : Tab) (h1 : Φ.fn "made" = some F_made) (h2 : Φ.fn "form_of" = some F_form_of) : ∀ q r, F_clamp_behind q = some r → q.length = 2 ∧ Q.run Φ 24 N_clamp_behind.length B_clamp_behind q = some r := by
  intro q r h
  unfold F_clamp_behind at h
  split at h
  · rename_i d e
    split at h
    · rename_i a b ha hb
      cases h
      refine ⟨rfl, ?_⟩
      obtain ⟨k, rfl⟩ := asC_mk ha
      obtain ⟨k', rfl⟩ := asC_mk hb
      have fm := f_made k' b
      obtain ⟨l, s, h⟩ := a
      obtain ⟨l', s', h'⟩ := b
      cases l <;> cases h
      · have ff := f_form_t l' h' (s + s')
        simp [Q.run, Q.start, ebs, lev_s, lev_e, stepS, stepE, getP, putP, evv, evs, evss, evt, evAnd, evOr, evas, evo, evc, params, back, ioOf, setIo,  setNs, setN_eq, fr_no, fr_at, asgT, asgTs, b_add, b_sub, c_eq, c_ne, c_lt, c_le, c_gt, c_ge, c_is, c_isn, c_eqo, isNon_oE, c_eqB, c_neB, c_eqNN, Q.slc, isNon_non, isNon_int, isNon_tup, isNon_lst, outs, leaf, Q.blt, mostLen, isiOne, tyOf, intsOf, boolsOf, Q.run, B_clamp_behind, N_clamp_behind, h1, h2, fm, ff, ix0, ix1, ix2, oE_none, behI]
      · rename_i h
        have ff := f_form_t l' (some (madeI (l', s', h') h)) (s + s')
        simp only [oE_some] at ff
        simp [Q.run, Q.start, ebs, lev_s, lev_e, stepS, stepE, getP, putP, evv, evs, evss, evt, evAnd, evOr, evas, evo, evc, params, back, ioOf, setIo,  setNs, setN_eq, fr_no, fr_at, asgT, asgTs, b_add, b_sub, c_eq, c_ne, c_lt, c_le, c_gt, c_ge, c_is, c_isn, c_eqo, isNon_oE, c_eqB, c_neB, c_eqNN, Q.slc, isNon_non, isNon_int, isNon_tup, isNon_lst, outs, leaf, Q.blt, mostLen, isiOne, tyOf, intsOf, boolsOf, Q.run, B_clamp_behind, N_clamp_behind, h1, h2, fm, ff, ix0, ix1, ix2, oE_none, oE_some, behI]
      · rename_i l
        have ff := f_form_t (some (madeI (l', s', h') l)) h' (s + s')
        simp only [oE_some] at ff
        simp [Q.run, Q.start, ebs, lev_s, lev_e, stepS, stepE, getP, putP, evv, evs, evss, evt, evAnd, evOr, evas, evo, evc, params, back, ioOf, setIo,  setNs, setN_eq, fr_no, fr_at, asgT, asgTs, b_add, b_sub, c_eq, c_ne, c_lt, c_le, c_gt, c_ge, c_is, c_isn, c_eqo, isNon_oE, c_eqB, c_neB, c_eqNN, Q.slc, isNon_non, isNon_int, isNon_tup, isNon_lst, outs, leaf, Q.blt, mostLen, isiOne, tyOf, intsOf, boolsOf, Q.run, B_clamp_behind, N_clamp_behind, h1, h2, fm, ff, ix0, ix1, ix2, oE_none, oE_some, behI]
      · rename_i l h
        have ff := f_form_t (some (madeI (l', s', h') l)) (some (madeI (l', s', h') h)) (s + s')
        simp only [oE_some] at ff
        simp [Q.run, Q.start, ebs, lev_s, lev_e, stepS, stepE, getP, putP, evv, evs, evss, evt, evAnd, evOr, evas, evo, evc, params, back, ioOf, setIo,  setNs, setN_eq, fr_no, fr_at, asgT, asgTs, b_add, b_sub, c_eq, c_ne, c_lt, c_le, c_gt, c_ge, c_is, c_isn, c_eqo, isNon_oE, c_eqB, c_neB, c_eqNN, Q.slc, isNon_non, isNon_int, isNon_tup, isNon_lst, outs, leaf, Q.blt, mostLen, isiOne, tyOf, intsOf, boolsOf, Q.run, B_clamp_behind, N_clamp_behind, h1, h2, fm, ff, ix0, ix1, ix2, oE_none, oE_some, behI]
    · cases h
  · cases h
end K

set_option Elab.async false
set_option linter.all false
set_option maxRecDepth 100000
set_option maxHeartbeats 4000000
namespace K
open PySem Q
def T0 : Tab := { fn := fun _ => none, gl := fun x => if x = "STAYING" then some (.tup [.non, .int (0), .non]) else none, cl := ct, mt := fun _ _ => none, nw := fun _ _ _ => none, gd := fun y => none }
def T1 : Tab := T0.add "is_integer" F_is_integer
def T2 : Tab := T1.add "is_list" F_is_list
def T3 : Tab := T2.add "is_end" F_is_end
def T4 : Tab := T3.add "is_clamp" F_is_clamp
def T5 : Tab := T4.add "check_clamp" F_check_clamp
def T6 : Tab := T5.add "check_number" F_check_number
def T7 : Tab := T6.add "made" F_made
def T8 : Tab := T7.add "form_of" F_form_of
def T9 : Tab := T8.add "clamp_behind" F_clamp_behind
def T10 : Tab := T9.add "joined_of" (runF T9 1 N_joined_of.length B_joined_of)
def T11 : Tab := T10.add "clamped" F_clamped
def T12 : Tab := T11.add "joined" (runF T11 1 N_joined.length B_joined)
def T13 : Tab := T12.add "shown" F_shown
def T14 : Tab := T13.add "_law_source" F_l_source
def T15 : Tab := T14.add "_law_draw" F_l_draw
def T16 : Tab := T15.add "_law_pick" F_l_pick
noncomputable def T17 : Tab := T16.add "_law_same" (Fsame 0)
noncomputable def T18 : Tab := T17.add "_law_same" (Fsame 1)
noncomputable def T19 : Tab := T18.add "_law_same" (Fsame 2)
noncomputable def T20 : Tab := T19.add "_law_same" (Fsame 3)
noncomputable def T21 : Tab := T20.add "_law_same" (Fsame 4)
noncomputable def T22 : Tab := T21.add "_law_clamp" (runF T21 2 N_l_clamp.length B_l_clamp)
noncomputable def T23 : Tab := T22.add "_law_clamped" (runF T22 2 N_l_clamped.length B_l_clamped)
noncomputable def T24 : Tab := T23.add "_law_is_form" (runF T23 1 N_l_is_form.length B_l_is_form)
noncomputable def T25 : Tab := T24.up
noncomputable def T26 : Tab := T25.add "repr" F_repr
end K

set_option Elab.async false
set_option linter.all false
set_option maxRecDepth 100000
set_option maxHeartbeats 4000000
namespace K
open PySem Q

theorem md0' (s x : Int) : madeI (none, s, none) x = x + s := rfl
theorem md1' (l s x : Int) : madeI (some l, s, none) x = if x + s < l then l else x + s := rfl
theorem md2' (h s x : Int) : madeI (none, s, some h) x = if h < x + s then h else x + s := rfl
theorem md3' (l h s x : Int) : madeI (some l, s, some h) x = if h < (if x + s < l then l else x + s) then h else (if x + s < l then l else x + s) := rfl
theorem f_beh (a b : C) (k : Bool) : F_clamp_behind [(.sh, mk true a), (.sh, mk k b)] = some (.sh, mk true (behI a b), []) := by simp [F_clamp_behind, mk_asC]
theorem f_shown {c : C} (ok : okC c = true) (b : Bool) (x : Int) : F_shown [(.sh, mk b c), (.sh, .int x)] = some (.sh, oP (shownI c x), []) := by
  simp [F_shown, mk_asC, ok]
theorem f_clamped {c : C} (ok : okC c = true) (b : Bool) (x : Int) : F_clamped [(.sh, mk b c), (.sh, .int x)] = some (.sh, .int (madeI c x), []) := by
  simp [F_clamped, mk_asC, ok]
theorem f_isclamp {c : C} (ok : okC c = true) (b : Bool) : F_is_clamp [(.sh, mk b c)] = some (.sh, .bl true, []) := by
  simp [F_is_clamp, mk_asC, ok]
theorem c_neN (x : Int) : Q.cmp .ne (.int x) .non = some true := by
  simp [Q.cmp, eqq, D.wf, D.pl, D.py, SeqAt.shaped, PyData.canLay0, PyData.depth, eqd, PyData.eqv]
/-! ### the law's clamped -/
theorem e_lcl {c : C} (ok : okC c = true) (x : Int) : runF T22 2 N_l_clamped.length B_l_clamped [(.sh, mk true c), (.sh, .int x)] = some (.sh, .int (madeI c x), []) := by
  refine (runF_eq (by rfl)).trans ?_
  obtain ⟨l, s, h⟩ := c
  cases l with
  | none =>
    cases h with
    | none => rfl
    | some c =>
      refine run_rt (v' := [sA (.tup [.non, .int s, .int c]), sA (.int x), sA .non, sA (.int s), sA (.int c)]) ?_ rfl
      refine ebs_nx (v' := [sA (.tup [.non, .int s, .int c]), sA (.int x), sA .non, sA (.int s), sA (.int c)]) rfl (ebs_nx (v' := [sA (.tup [.non, .int s, .int c]), sA (.int x), sA .non, sA (.int s), sA (.int c)]) rfl (ebs_rt ?_))
      have e : madeI (none, s, some c) x = min (x + s) c := by rw [md2']; split <;> omega
      rw [e]
      simp [Q.run, Q.start, ebs, lev_s, lev_e, stepS, stepE, getP, putP, recvOk, evv, evs, evss, evt, evAnd, evOr, evas, evo, evc, params, back, ioOf, setIo, setNs, setN_eq, fr_no, fr_at, asgT, asgTs, b_add, b_sub, c_eq, c_ne, c_lt, c_le, c_gt, c_ge, c_is, c_isn, c_eqo, isNon_oE, c_eqB, c_neB, c_eqNN, Q.slc, isNon_non, isNon_int, isNon_tup, isNon_lst, outs, leaf, mostLen, isiOne, tyOf, intsOf, boolsOf, Fs.sh', b_min]
  | some f =>
    by_cases hh : x + s < f
    · cases h with
      | none =>
        refine run_rt (v' := [sA (.tup [.int f, .int s, .non]), sA (.int x), sA (.int f), sA (.int s), sA .non]) ?_ rfl
        refine ebs_nx (v' := [sA (.tup [.int f, .int s, .non]), sA (.int x), sA (.int f), sA (.int s), sA .non]) rfl ?_
        have e : madeI (some f, s, none) x = f := by rw [md1', if_pos hh]
        rw [e]
        refine ebs_rt ?_
        simp [Q.run, Q.start, ebs, lev_s, lev_e, stepS, stepE, getP, putP, recvOk, evv, evs, evss, evt, evAnd, evOr, evas, evo, evc, params, back, ioOf, setIo, setNs, setN_eq, fr_no, fr_at, asgT, asgTs, b_add, b_sub, c_eq, c_ne, c_lt, c_le, c_gt, c_ge, c_is, c_isn, c_eqo, isNon_oE, c_eqB, c_neB, c_eqNN, Q.slc, isNon_non, isNon_int, isNon_tup, isNon_lst, outs, leaf, mostLen, isiOne, tyOf, intsOf, boolsOf, Fs.sh', hh]
      | some c =>
        refine run_rt (v' := [sA (.tup [.int f, .int s, .int c]), sA (.int x), sA (.int f), sA (.int s), sA (.int c)]) ?_ rfl
        refine ebs_nx (v' := [sA (.tup [.int f, .int s, .int c]), sA (.int x), sA (.int f), sA (.int s), sA (.int c)]) rfl ?_
        have e : madeI (some f, s, some c) x = min f c := by rw [md3', if_pos hh]; split <;> omega
        rw [e]
        refine ebs_rt ?_
        simp [Q.run, Q.start, ebs, lev_s, lev_e, stepS, stepE, getP, putP, recvOk, evv, evs, evss, evt, evAnd, evOr, evas, evo, evc, params, back, ioOf, setIo, setNs, setN_eq, fr_no, fr_at, asgT, asgTs, b_add, b_sub, c_eq, c_ne, c_lt, c_le, c_gt, c_ge, c_is, c_isn, c_eqo, isNon_oE, c_eqB, c_neB, c_eqNN, Q.slc, isNon_non, isNon_int, isNon_tup, isNon_lst, outs, leaf, mostLen, isiOne, tyOf, intsOf, boolsOf, Fs.sh', hh, b_min]
    · cases h with
      | none =>
        refine run_rt (v' := [sA (.tup [.int f, .int s, .non]), sA (.int x), sA (.int f), sA (.int s), sA .non]) ?_ rfl
        refine ebs_nx (v' := [sA (.tup [.int f, .int s, .non]), sA (.int x), sA (.int f), sA (.int s), sA .non]) rfl ?_
        have e : madeI (some f, s, none) x = x + s := by rw [md1', if_neg hh]
        rw [e]
        refine ebs_nx (v' := [sA (.tup [.int f, .int s, .non]), sA (.int x), sA (.int f), sA (.int s), sA .non]) ?_ (ebs_rt rfl)
        simp [Q.run, Q.start, ebs, lev_s, lev_e, stepS, stepE, getP, putP, recvOk, evv, evs, evss, evt, evAnd, evOr, evas, evo, evc, params, back, ioOf, setIo, setNs, setN_eq, fr_no, fr_at, asgT, asgTs, b_add, b_sub, c_eq, c_ne, c_lt, c_le, c_gt, c_ge, c_is, c_isn, c_eqo, isNon_oE, c_eqB, c_neB, c_eqNN, Q.slc, isNon_non, isNon_int, isNon_tup, isNon_lst, outs, leaf, mostLen, isiOne, tyOf, intsOf, boolsOf, Fs.sh', hh]
      | some c =>
        refine run_rt (v' := [sA (.tup [.int f, .int s, .int c]), sA (.int x), sA (.int f), sA (.int s), sA (.int c)]) ?_ rfl
        refine ebs_nx (v' := [sA (.tup [.int f, .int s, .int c]), sA (.int x), sA (.int f), sA (.int s), sA (.int c)]) rfl ?_
        have e : madeI (some f, s, some c) x = min (x + s) c := by rw [md3', if_neg hh]; split <;> omega
        rw [e]
        refine ebs_nx (v' := [sA (.tup [.int f, .int s, .int c]), sA (.int x), sA (.int f), sA (.int s), sA (.int c)]) ?_ (ebs_rt ?_)
        · simp [Q.run, Q.start, ebs, lev_s, lev_e, stepS, stepE, getP, putP, recvOk, evv, evs, evss, evt, evAnd, evOr, evas, evo, evc, params, back, ioOf, setIo, setNs, setN_eq, fr_no, fr_at, asgT, asgTs, b_add, b_sub, c_eq, c_ne, c_lt, c_le, c_gt, c_ge, c_is, c_isn, c_eqo, isNon_oE, c_eqB, c_neB, c_eqNN, Q.slc, isNon_non, isNon_int, isNon_tup, isNon_lst, outs, leaf, mostLen, isiOne, tyOf, intsOf, boolsOf, Fs.sh', hh]
        · simp [Q.run, Q.start, ebs, lev_s, lev_e, stepS, stepE, getP, putP, recvOk, evv, evs, evss, evt, evAnd, evOr, evas, evo, evc, params, back, ioOf, setIo, setNs, setN_eq, fr_no, fr_at, asgT, asgTs, b_add, b_sub, c_eq, c_ne, c_lt, c_le, c_gt, c_ge, c_is, c_isn, c_eqo, isNon_oE, c_eqB, c_neB, c_eqNN, Q.slc, isNon_non, isNon_int, isNon_tup, isNon_lst, outs, leaf, mostLen, isiOne, tyOf, intsOf, boolsOf, Fs.sh', b_min]
theorem sp_is_form (Φ : Tab) {c : C} (ok : okC c = true) (ff : formI c = c) : runF Φ 1 N_l_is_form.length B_l_is_form [(.sh, mk true c)] = some (.sh, .bl true, []) := by
  refine (runF_eq (by rfl)).trans ?_
  obtain ⟨l, s, h⟩ := c
  cases l with
  | none => cases h <;> simp [Q.run, Q.start, ebs, lev_s, lev_e, stepS, stepE, getP, putP, recvOk, evv, evs, evss, evt, evAnd, evOr, evas, evo, evc, params, back, ioOf, setIo, setNs, setN_eq, fr_no, fr_at, asgT, asgTs, b_add, b_sub, c_eq, c_ne, c_lt, c_le, c_gt, c_ge, c_is, c_isn, c_eqo, isNon_oE, c_eqB, c_neB, c_eqNN, Q.slc, isNon_non, isNon_int, isNon_tup, isNon_lst, outs, leaf, mostLen, isiOne, tyOf, intsOf, boolsOf, Fs.sh', Q.idx, Q.blt, Q.run, B_l_is_form, N_l_is_form, mk, oE_none, oE_some, evi, lcGo, wipeE, getAt, L2.atI, L2.ixN]
  | some l => cases h with
    | none => simp [Q.run, Q.start, ebs, lev_s, lev_e, stepS, stepE, getP, putP, recvOk, evv, evs, evss, evt, evAnd, evOr, evas, evo, evc, params, back, ioOf, setIo, setNs, setN_eq, fr_no, fr_at, asgT, asgTs, b_add, b_sub, c_eq, c_ne, c_lt, c_le, c_gt, c_ge, c_is, c_isn, c_eqo, isNon_oE, c_eqB, c_neB, c_eqNN, Q.slc, isNon_non, isNon_int, isNon_tup, isNon_lst, outs, leaf, mostLen, isiOne, tyOf, intsOf, boolsOf, Fs.sh', Q.idx, Q.blt, Q.run, B_l_is_form, N_l_is_form, mk, oE_none, oE_some, evi, lcGo, wipeE, c_neN, getAt, L2.atI, L2.ixN]
    | some h =>
      have o : ¬ h < l := by
        have : l ≤ h := by simpa [okC] using ok
        omega
      by_cases z : l = h
      · subst z
        have hs : s = 0 := by simp [formI] at ff; omega
        simp [Q.run, Q.start, ebs, lev_s, lev_e, stepS, stepE, getP, putP, recvOk, evv, evs, evss, evt, evAnd, evOr, evas, evo, evc, params, back, ioOf, setIo, setNs, setN_eq, fr_no, fr_at, asgT, asgTs, b_add, b_sub, c_eq, c_ne, c_lt, c_le, c_gt, c_ge, c_is, c_isn, c_eqo, isNon_oE, c_eqB, c_neB, c_eqNN, Q.slc, isNon_non, isNon_int, isNon_tup, isNon_lst, outs, leaf, mostLen, isiOne, tyOf, intsOf, boolsOf, Fs.sh', Q.idx, Q.blt, Q.run, B_l_is_form, N_l_is_form, mk, oE_none, oE_some, evi, lcGo, wipeE, hs, getAt, L2.atI, L2.ixN]
      · simp [Q.run, Q.start, ebs, lev_s, lev_e, stepS, stepE, getP, putP, recvOk, evv, evs, evss, evt, evAnd, evOr, evas, evo, evc, params, back, ioOf, setIo, setNs, setN_eq, fr_no, fr_at, asgT, asgTs, b_add, b_sub, c_eq, c_ne, c_lt, c_le, c_gt, c_ge, c_is, c_isn, c_eqo, isNon_oE, c_eqB, c_neB, c_eqNN, Q.slc, isNon_non, isNon_int, isNon_tup, isNon_lst, outs, leaf, mostLen, isiOne, tyOf, intsOf, boolsOf, Fs.sh', Q.idx, Q.blt, Q.run, B_l_is_form, N_l_is_form, mk, oE_none, oE_some, evi, lcGo, wipeE, o, z, getAt, L2.atI, L2.ixN]
/-! ### drawn clamps -/
def bC (c : C) : Prop := okC c = true ∧ (∀ l, c.1 = some l → -10 ≤ l ∧ l ≤ 10) ∧ (-100000000000 ≤ c.2.1 ∧ c.2.1 ≤ 100000000000) ∧ (∀ l, c.2.2 = some l → -10 ≤ l ∧ l ≤ 10)
theorem srt2 {a b : Int} (ha : -10 ≤ a ∧ a ≤ 10) (hb : -10 ≤ b ∧ b ≤ 10) : ∃ p q : Int, p ≤ q ∧ (-10 ≤ p ∧ p ≤ 10) ∧ (-10 ≤ q ∧ q ≤ 10) ∧ srt [.int a, .int b] = some (.lst, .lst [.int p, .int q]) := by
  have e : ∀ p q : Int, [a, b].mergeSort (fun a b => decide (a ≤ b)) = [p, q] → srt [.int a, .int b] = some (.lst, .lst [.int p, .int q]) := by
    intro p q h
    have e0 : intsOf [.int a, .int b] = some [a, b] := rfl
    simp only [srt, e0, h]
    rfl
  by_cases h : a ≤ b
  · exact ⟨a, b, h, ha, hb, e a b (by simp [List.mergeSort, List.MergeSort.Internal.splitInTwo, List.merge, h])⟩
  · exact ⟨b, a, by omega, hb, ha, e b a (by simp [List.mergeSort, List.MergeSort.Internal.splitInTwo, List.merge, h])⟩
theorem sp_clamp (s : Ds) : ∃ c s', bC c ∧ runF T21 2 N_l_clamp.length B_l_clamp [(.lst, dr s), (.sh, .bl true)] = some (.sh, mk true c, [(.lst, dr s')]) := by
  have m1 : T21.fn "_law_draw" = some F_l_draw := by kernel_rfl
  have m2 : T21.fn "_law_pick" = some F_l_pick := by kernel_rfl
  obtain ⟨a, ea, la⟩ := nat_draw s (m := 21) (by omega)
  have da := f_draw s 21 (by omega)
  rw [ea] at da
  obtain ⟨s1, e1⟩ : ∃ z, z = drawS s 21 := ⟨_, rfl⟩
  rw [← e1] at da
  obtain ⟨b, eb, lb⟩ := nat_draw s1 (m := 21) (by omega)
  have db := f_draw s1 21 (by omega)
  rw [eb] at db
  obtain ⟨s2, e2⟩ : ∃ z, z = drawS s1 21 := ⟨_, rfl⟩
  rw [← e2] at db
  obtain ⟨w, ew, lw⟩ := nat_draw s2 (m := 6) (by omega)
  have dw := f_draw s2 6 (by omega)
  rw [ew] at dw
  obtain ⟨s3, e3⟩ : ∃ z, z = drawS s2 6 := ⟨_, rfl⟩
  rw [← e3] at dw
  obtain ⟨x, ex, lx⟩ := nat_draw s3 (m := 19) (by omega)
  have dx := f_draw s3 19 (by omega)
  rw [ex] at dx
  obtain ⟨s4, e4⟩ : ∃ z, z = drawS s3 19 := ⟨_, rfl⟩
  rw [← e4] at dx
  obtain ⟨y, ey, ly⟩ := nat_draw s4 (m := 19) (by omega)
  have dy := f_draw s4 19 (by omega)
  rw [ey] at dy
  obtain ⟨s5, e5⟩ : ∃ z, z = drawS s4 19 := ⟨_, rfl⟩
  rw [← e5] at dy
  obtain ⟨p, q, hpq, hp, hq, es⟩ := srt2 (a := (a : Int) - 10) (b := (b : Int) - 10) (by omega) (by omega)
  obtain ⟨td, s6, htd, ep⟩ := pick_ok s5 (xs := [.int 0, .int 1, .int (-1), .int ((x : Int) - 9), .int ((y : Int) - 9), .int 100000000000, .int (-100000000000)]) ⟨by simp, by simp⟩
  obtain ⟨u, rfl, hu⟩ : ∃ u : Int, td = .int u ∧ (-100000000000 ≤ u ∧ u ≤ 100000000000) := by
    simp only [List.mem_cons, List.not_mem_nil, or_false] at htd
    rcases htd with rfl | rfl | rfl | rfl | rfl | rfl | rfl <;> exact ⟨_, rfl, by omega⟩
  have bm : Q.bin .mul (.lst [.int 100000000000, .int (-100000000000)]) (.int 1) = some (.lst, .lst [.int 100000000000, .int (-100000000000)]) := rfl
  have ba : Q.bin .add (.lst [.int 0, .int 1, .int (-1), .int ((x : Int) - 9), .int ((y : Int) - 9)]) (.lst [.int 100000000000, .int (-100000000000)]) = some (.lst, .lst [.int 0, .int 1, .int (-1), .int ((x : Int) - 9), .int ((y : Int) - 9), .int 100000000000, .int (-100000000000)]) := rfl
  have bp : Q.bin .pow (.int 10) (.int 11) = some (.sh, .int 100000000000) := by kernel_rfl
  have bi : Q.blt .int [.bl true] = some (.sh, .int 1) := rfl
  have bs : Q.blt .sorted [.lst [.int ((a : Int) - 10), .int ((b : Int) - 10)]] = some (.lst, .lst [.int p, .int q]) := es
  have fin : ∀ (lo hi : Option Int) (c6 c7 : D), bC (lo, u, hi) → ebs (lev T21 24).s [.par [6, 7] [.ite (.cmp .inn (.pv (.s 3)) (.tup [.c (.int 0), .c (.int 1)])) (.c .non) (.idx (.pv (.s 2)) (.c (.int 0))), .ite (.cmp .inn (.pv (.s 3)) (.tup [.c (.int 0), .c (.int 2)])) (.c .non) (.idx (.pv (.s 2)) (.c (.int 1)))], .ret (.tup [.pv (.s 6), .pv (.s 5), .ite (.cmp .eq (.pv (.s 3)) (.c (.int 5))) (.pv (.s 6)) (.pv (.s 7))])] [.at true .lst (dr s6), sA (.bl true), sA (.lst [.int p, .int q]), sA (.int w), sA (.lst [.int 0, .int 1, .int (-1), .int ((x : Int) - 9), .int ((y : Int) - 9)]), sA (.int u), .no, .no] = some (.rt .sh (mk true (lo, u, hi)) [.at true .lst (dr s6), sA (.bl true), sA (.lst [.int p, .int q]), sA (.int w), sA (.lst [.int 0, .int 1, .int (-1), .int ((x : Int) - 9), .int ((y : Int) - 9)]), sA (.int u), sA c6, sA c7]) →
      ∃ c s', bC c ∧ runF T21 2 N_l_clamp.length B_l_clamp [(.lst, dr s), (.sh, .bl true)] = some (.sh, mk true c, [(.lst, dr s')]) := by
    intro lo hi c6 c7 hb he
    refine ⟨_, s6, hb, (runF_eq (by rfl)).trans (run_rt (v' := [.at true .lst (dr s6), sA (.bl true), sA (.lst [.int p, .int q]), sA (.int w), sA (.lst [.int 0, .int 1, .int (-1), .int ((x : Int) - 9), .int ((y : Int) - 9)]), sA (.int u), sA c6, sA c7]) ?_ rfl)⟩
    · refine ebs_nx (v' := [.at true .lst (dr s2), sA (.bl true), .at false .lst (.lst [.int p, .int q]), .no, .no, .no, .no, .no]) ?_ (ebs_nx (v' := [.at true .lst (dr s2), sA (.bl true), sA (.lst [.int p, .int q]), .no, .no, .no, .no, .no]) rfl (ebs_nx (v' := [.at true .lst (dr s5), sA (.bl true), sA (.lst [.int p, .int q]), sA (.int w), .at false .lst (.lst [.int 0, .int 1, .int (-1), .int ((x : Int) - 9), .int ((y : Int) - 9)]), .no, .no, .no]) ?_ (ebs_nx (v' := [.at true .lst (dr s5), sA (.bl true), sA (.lst [.int p, .int q]), sA (.int w), sA (.lst [.int 0, .int 1, .int (-1), .int ((x : Int) - 9), .int ((y : Int) - 9)]), .no, .no, .no]) rfl (ebs_nx (v' := [.at true .lst (dr s6), sA (.bl true), sA (.lst [.int p, .int q]), sA (.int w), sA (.lst [.int 0, .int 1, .int (-1), .int ((x : Int) - 9), .int ((y : Int) - 9)]), sA (.int u), .no, .no]) ?_ he))))
      · show (lev T21 24).s _ [.at true .lst (dr s), sA (.bl true), .no, .no, .no, .no, .no, .no] = _
        simp [Q.run, Q.start, ebs, lev_s, lev_e, stepS, stepE, getP, putP, recvOk, evv, evs, evss, evt, evAnd, evOr, evas, evo, evc, params, back, ioOf, setIo, setNs, setN_eq, fr_no, fr_at, asgT, asgTs, b_add, b_sub, c_eq, c_ne, c_lt, c_le, c_gt, c_ge, c_is, c_isn, c_eqo, isNon_oE, c_eqB, c_neB, c_eqNN, Q.slc, isNon_non, isNon_int, isNon_tup, isNon_lst, outs, leaf, mostLen, isiOne, tyOf, intsOf, boolsOf, Fs.sh', m1, da, db, bs]
      · simp [Q.run, Q.start, ebs, lev_s, lev_e, stepS, stepE, getP, putP, recvOk, evv, evs, evss, evt, evAnd, evOr, evas, evo, evc, params, back, ioOf, setIo, setNs, setN_eq, fr_no, fr_at, asgT, asgTs, b_add, b_sub, c_eq, c_ne, c_lt, c_le, c_gt, c_ge, c_is, c_isn, c_eqo, isNon_oE, c_eqB, c_neB, c_eqNN, Q.slc, isNon_non, isNon_int, isNon_tup, isNon_lst, outs, leaf, mostLen, isiOne, tyOf, intsOf, boolsOf, Fs.sh', m1, dw, dx, dy]
      · simp [Q.run, Q.start, ebs, lev_s, lev_e, stepS, stepE, getP, putP, recvOk, evv, evs, evss, evt, evAnd, evOr, evas, evo, evc, params, back, ioOf, setIo, setNs, setN_eq, fr_no, fr_at, asgT, asgTs, b_add, b_sub, c_eq, c_ne, c_lt, c_le, c_gt, c_ge, c_is, c_isn, c_eqo, isNon_oE, c_eqB, c_neB, c_eqNN, Q.slc, isNon_non, isNon_int, isNon_tup, isNon_lst, outs, leaf, mostLen, isiOne, tyOf, intsOf, boolsOf, Fs.sh', m2, bp, bi, bm, ba, ep]
  have hc : w = 0 ∨ w = 1 ∨ w = 2 ∨ w = 3 ∨ w = 4 ∨ w = 5 := by omega
  clear ew lw dw
  have on : ∀ l, (none : Option Int) = some l → -10 ≤ l ∧ l ≤ 10 := fun l h => by cases h
  have op : ∀ l, some p = some l → -10 ≤ l ∧ l ≤ 10 := fun l h => by cases h; exact hp
  have oq : ∀ l, some q = some l → -10 ≤ l ∧ l ≤ 10 := fun l h => by cases h; exact hq
  rcases hc with rfl | rfl | rfl | rfl | rfl | rfl
  · exact fin none none .non .non ⟨rfl, on, hu, on⟩ (by kernel_rfl)
  · exact fin none (some q) .non (.int q) ⟨rfl, on, hu, oq⟩ (by kernel_rfl)
  · exact fin (some p) none (.int p) .non ⟨rfl, op, hu, on⟩ (by kernel_rfl)
  · exact fin (some p) (some q) (.int p) (.int q) ⟨by simpa [okC] using hpq, op, hu, oq⟩ (by kernel_rfl)
  · exact fin (some p) (some q) (.int p) (.int q) ⟨by simpa [okC] using hpq, op, hu, oq⟩ (by kernel_rfl)
  · exact fin (some p) (some p) (.int p) (.int q) ⟨by simp [okC], op, hu, op⟩ (by kernel_rfl)
/-! ### joined -/
def mk2 (q : C × Bool) : D := mk q.2 q.1
def sqD (k : Bool) (xs : List D) : D := if k then .lst xs else .tup xs
theorem jo_go (rd : D) : ∀ (pk : List (C × Bool)) (a : C), forGo (lev T9 23).s (.nm 2) ([.set 1 (.call "clamp_behind" [.v (.pv (.s 1)), .v (.pv (.s 2))]), .wipe [2]] : List S) (pk.map mk2) [sA rd, sA (mk true a), .no] = some (.nx [sA rd, sA (mk true ((pk.map (·.1)).foldl behI a)), .no])
  | [], a => rfl
  | (c, b) :: pk, a => by
    have ih := jo_go rd pk (behI a c)
    have m1 : T9.fn "clamp_behind" = some F_clamp_behind := by kernel_rfl
    have fb := f_beh a c b
    have body : ebs (lev T9 23).s ([.set 1 (.call "clamp_behind" [.v (.pv (.s 1)), .v (.pv (.s 2))]), .wipe [2]] : List S) [sA rd, sA (mk true a), sA (mk2 (c, b))] = some (.nx [sA rd, sA (mk true (behI a c)), .no]) := by
      unfold mk2
      refine ebs_nx (v' := [sA rd, sA (mk true (behI a c)), sA (mk b c)]) ?_ rfl
      simp only []
      generalize mk true (behI a c) = m1' at fb ⊢
      generalize mk true a = m2' at fb ⊢
      generalize mk b c = m3' at fb ⊢
      simp [Q.run, Q.start, ebs, lev_s, lev_e, stepS, stepE, getP, putP, recvOk, evv, evs, evss, evt, evAnd, evOr, evas, evo, evc, params, back, ioOf, setIo, setNs, setN_eq, fr_no, fr_at, asgT, asgTs, b_add, b_sub, c_eq, c_ne, c_lt, c_le, c_gt, c_ge, c_is, c_isn, c_eqo, isNon_oE, c_eqB, c_neB, c_eqNN, Q.slc, isNon_non, isNon_int, isNon_tup, isNon_lst, outs, leaf, mostLen, isiOne, tyOf, intsOf, boolsOf, Fs.sh', m1, fb]
    rw [List.map_cons, forGo, show asgT (.nm 2) (mk2 (c, b)) [sA rd, sA (mk true a), .no] = some [sA rd, sA (mk true a), sA (mk2 (c, b))] from rfl]
    simp only [body]
    exact ih
theorem e_joined (k : Bool) (pk : List (C × Bool)) (ok : ∀ q ∈ pk, okC q.1 = true) : runF T11 1 N_joined.length B_joined [(.sh, sqD k (pk.map mk2))] = some (.sh, mk true (joinI (pk.map (·.1))), []) := by
  have go := jo_go (sqD k (pk.map mk2)) pk (none, 0, none)
  have ej : runF T9 1 N_joined_of.length B_joined_of [(.sh, sqD k (pk.map mk2))] = some (.sh, mk true (joinI (pk.map (·.1))), []) := by
    refine (runF_eq (by rfl)).trans ?_
    refine run_rt (v' := [sA (sqD k (pk.map mk2)), sA (mk true (joinI (pk.map (·.1)))), .no]) (ebs_nx (v' := [sA (sqD k (pk.map mk2)), sA (mk true (none, 0, none)), .no]) rfl (ebs_nx (v' := [sA (sqD k (pk.map mk2)), sA (mk true (joinI (pk.map (·.1)))), .no]) ?_ (ebs_rt rfl))) rfl
    rw [lev_s]
    simp only [stepS]
    rw [show evi (lev T9 23).e (.seq (.pv (.s 0))) [sA (sqD k (pk.map mk2)), sA (mk true (none, 0, none)), .no] = some (pk.map mk2, [sA (sqD k (pk.map mk2)), sA (mk true (none, 0, none)), .no]) by cases k <;> rfl]
    exact go
  have m1 : T11.fn "is_clamp" = some F_is_clamp := by kernel_rfl
  have m2 : T11.fn "joined_of" = some (runF T9 1 N_joined_of.length B_joined_of) := by kernel_rfl
  have ei : evi (lev T11 23).e (.enum (.pv (.s 0))) [sA (sqD k (pk.map mk2)), .no, .no] = some ((pk.map mk2).zipIdx.map fun p => .tup [.int p.2, p.1], [sA (sqD k (pk.map mk2)), .no, .no]) := by cases k <;> rfl
  have e0 : (lev T11 24).s (.ite (.not (.call "is_list" [.v (.pv (.s 0))])) [.raise_] []) [sA (sqD k (pk.map mk2)), .no, .no] = some (.nx [sA (sqD k (pk.map mk2)), .no, .no]) := by cases k <;> kernel_rfl
  obtain ⟨v', hv', rfl⟩ := for_go (LSt := (lev T11 23).s) (t := .tp [(.nm 1), (.nm 2)]) (b := ([.ite (.not (.call "is_clamp" [.v (.pv (.s 2))])) [.raise_] [], .wipe [1, 2]] : List S)) (fun v => v = [sA (sqD k (pk.map mk2)), .no, .no]) (xs := (pk.map mk2).zipIdx.map fun p => .tup [.int p.2, p.1]) (v := [sA (sqD k (pk.map mk2)), .no, .no]) (by
    rintro x hx v rfl
    obtain ⟨⟨y, i⟩, hy, rfl⟩ := List.mem_map.mp hx
    have hm : y ∈ pk.map mk2 := List.mem_of_getElem? (List.mem_zipIdx_iff_getElem?.mp hy)
    obtain ⟨⟨c, b⟩, hp, rfl⟩ := List.mem_map.mp hm
    have fc := f_isclamp (ok _ hp) b
    refine ⟨[sA (sqD k (pk.map mk2)), sA (.int i), sA (mk2 (c, b))], _, rfl, ?_, rfl⟩
    refine ebs_nx (v' := [sA (sqD k (pk.map mk2)), sA (.int i), sA (mk2 (c, b))]) ?_ rfl
    generalize sqD k (pk.map mk2) = rd
    unfold mk2
    simp only [] at fc ⊢
    generalize mk b c = m3' at fc ⊢
    simp [Q.run, Q.start, ebs, lev_s, lev_e, stepS, stepE, getP, putP, recvOk, evv, evs, evss, evt, evAnd, evOr, evas, evo, evc, params, back, ioOf, setIo, setNs, setN_eq, fr_no, fr_at, asgT, asgTs, b_add, b_sub, c_eq, c_ne, c_lt, c_le, c_gt, c_ge, c_is, c_isn, c_eqo, isNon_oE, c_eqB, c_neB, c_eqNN, Q.slc, isNon_non, isNon_int, isNon_tup, isNon_lst, outs, leaf, mostLen, isiOne, tyOf, intsOf, boolsOf, Fs.sh', m1, fc]) rfl
  refine (runF_eq (by rfl)).trans ?_
  refine run_rt (v' := [sA (sqD k (pk.map mk2)), .no, .no]) (ebs_nx e0 (ebs_nx (v' := [sA (sqD k (pk.map mk2)), .no, .no]) ?_ (ebs_rt ?_))) rfl
  · rw [lev_s]
    simp only [stepS]
    rw [ei]
    exact hv'
  · generalize sqD k (pk.map mk2) = rd at ej ⊢
    simp [Q.run, Q.start, ebs, lev_s, lev_e, stepS, stepE, getP, putP, recvOk, evv, evs, evss, evt, evAnd, evOr, evas, evo, evc, params, back, ioOf, setIo, setNs, setN_eq, fr_no, fr_at, asgT, asgTs, b_add, b_sub, c_eq, c_ne, c_lt, c_le, c_gt, c_ge, c_is, c_isn, c_eqo, isNon_oE, c_eqB, c_neB, c_eqNN, Q.slc, isNon_non, isNon_int, isNon_tup, isNon_lst, outs, leaf, mostLen, isiOne, tyOf, intsOf, boolsOf, Fs.sh', m2, ej]
/-! ### shown, of what is made -/
theorem shown_law {k : C} (ok : okC k = true) (fm : formI k = k) (x : Int) : ∃ l h, shownI k (madeI k x) = some (l, h) ∧ (∀ a, l = some a → a ≤ x ∧ madeI k a = madeI k x ∧ madeI k (a + -1) ≠ madeI k x) ∧ (∀ a, h = some a → x ≤ a ∧ madeI k a = madeI k x ∧ madeI k (a + 1) ≠ madeI k x) := by
  obtain ⟨l, s, h⟩ := k
  unfold shownI
  rw [fm]
  simp only
  cases l with
  | none =>
    cases h with
    | none =>
      have hm : ∀ y, madeI (none, s, none) y = y + s := fun y => rfl
      simp only [hm]
      rw [if_pos (by omega)]
      refine ⟨_, _, rfl, fun a ha => ?_, fun a ha => ?_⟩
      · rw [if_neg (by simp)] at ha; cases ha; omega
      · rw [if_neg (by simp)] at ha; cases ha; omega
    | some h =>
      have hm : ∀ y, (h < y + s ∧ madeI (none, s, some h) y = h) ∨ (y + s ≤ h ∧ madeI (none, s, some h) y = y + s) := by
        intro y
        rw [md2']
        split
        · exact .inl ⟨by assumption, rfl⟩
        · exact .inr ⟨by omega, rfl⟩
      have h1 := hm x
      generalize hd : madeI (none, s, some h) x = d at h1 ⊢
      have h2 := hm (d - s)
      rw [if_pos (by omega)]
      refine ⟨_, _, rfl, fun a ha => ?_, fun a ha => ?_⟩
      · rw [if_neg (by simp)] at ha; cases ha
        have h3 := hm (d - s + -1)
        omega
      · by_cases e : h = d
        · rw [if_pos (by rw [e])] at ha; cases ha
        · rw [if_neg (by simpa using e)] at ha; cases ha
          have h3 := hm (d - s + 1)
          omega
  | some l =>
    cases h with
    | none =>
      have hm : ∀ y, (y + s < l ∧ madeI (some l, s, none) y = l) ∨ (l ≤ y + s ∧ madeI (some l, s, none) y = y + s) := by
        intro y
        rw [md1']
        split
        · exact .inl ⟨by assumption, rfl⟩
        · exact .inr ⟨by omega, rfl⟩
      have h1 := hm x
      generalize hd : madeI (some l, s, none) x = d at h1 ⊢
      have h2 := hm (d - s)
      rw [if_pos (by omega)]
      refine ⟨_, _, rfl, fun a ha => ?_, fun a ha => ?_⟩
      · by_cases e : l = d
        · rw [if_pos (by rw [e])] at ha; cases ha
        · rw [if_neg (by simpa using e)] at ha; cases ha
          have h3 := hm (d - s + -1)
          omega
      · rw [if_neg (by simp)] at ha; cases ha
        have h3 := hm (d - s + 1)
        omega
    | some h =>
      have hlh : l ≤ h := by simpa [okC] using ok
      have hs : l = h → s = 0 := by
        intro e
        subst e
        simp [formI] at fm
        omega
      have hm : ∀ y, (y + s < l ∧ madeI (some l, s, some h) y = l) ∨ (l ≤ y + s ∧ y + s ≤ h ∧ madeI (some l, s, some h) y = y + s) ∨ (h < y + s ∧ madeI (some l, s, some h) y = h) := by
        intro y
        rw [md3']
        by_cases a : y + s < l
        · rw [if_pos a, if_neg (by omega)]
          exact .inl ⟨a, rfl⟩
        · rw [if_neg a]
          by_cases b : h < y + s
          · rw [if_pos b]
            exact .inr (.inr ⟨b, rfl⟩)
          · rw [if_neg b]
            exact .inr (.inl ⟨by omega, by omega, rfl⟩)
      have h1 := hm x
      generalize hd : madeI (some l, s, some h) x = d at h1 ⊢
      have h2 := hm (d - s)
      rw [if_pos (by omega)]
      refine ⟨_, _, rfl, fun a ha => ?_, fun a ha => ?_⟩
      · by_cases e : l = d
        · rw [if_pos (by rw [e])] at ha; cases ha
        · rw [if_neg (by simpa using e)] at ha; cases ha
          have h3 := hm (d - s + -1)
          omega
      · by_cases e : h = d
        · rw [if_pos (by rw [e])] at ha; cases ha
        · rw [if_neg (by simpa using e)] at ha; cases ha
          have h3 := hm (d - s + 1)
          omega
/-! ### what repr says -/
theorem sh_o {o : Option Int} (h : ∀ l, o = some l → -10 ≤ l ∧ l ≤ 10) : ShOk 31 0 (oE o) := by
  cases o with
  | none => exact sh_non
  | some l =>
    have := h l rfl
    exact sh_int (Nat.lt_of_le_of_lt (show l.natAbs ≤ 10 by omega) (by decide))
theorem sh_mk {c : C} (h : bC c) (b : Bool) : ShOk 102 1 (mk b c) := by
  obtain ⟨l, s, u⟩ := c
  obtain ⟨_, h1, h2, h3⟩ := h
  have hp : ∀ d ∈ [oE l, .int s, oE u], ShOk 31 0 d := by
    intro d hd
    simp only [List.mem_cons, List.not_mem_nil, or_false] at hd
    rcases hd with rfl | rfl | rfl
    · exact sh_o h1
    · have h2 : -100000000000 ≤ s ∧ s ≤ 100000000000 := h2
      exact sh_int (Nat.lt_of_le_of_lt (show s.natAbs ≤ 100000000000 by omega) (by decide))
    · exact sh_o h3
  cases b
  · exact (sh_lst (l := 3) hp (by simp)).up (by omega)
  · exact sh_tup (l := 3) hp (by simp)
theorem sh_pk {pk : List (C × Bool)} (h : ∀ q ∈ pk, bC q.1) (hl : pk.length ≤ 6) : ShOk 626 2 (.lst (pk.map mk2)) := by
  refine sh_lst (n := 102) (k := 1) (l := 6) ?_ (by rw [List.length_map]; exact hl)
  intro d hd
  obtain ⟨⟨c, b⟩, hq, rfl⟩ := List.mem_map.mp hd
  exact sh_mk (h _ hq) b
/-! ### the drawn lists -/
theorem cl_go {xs : List D} (k : Nat) : ∀ (ys acc : List D) (s : Ds), ∃ (cs : List C) (s' : Ds), cs.length = ys.length ∧ (∀ c ∈ cs, bC c) ∧ lcGo (lev T26 21).e [4] (.nm 4) none (.call "_law_clamp" [.io 2, .v (.c (.bl true))]) ys acc [.at true .fro (.lst xs), sA (.int (k : Int)), .at false .lst (dr s), .no, .no, .no, .no, .no, .no, .no, .no, .no, .no, .no, .no] = some (acc ++ cs.map (mk true), [.at true .fro (.lst xs), sA (.int (k : Int)), .at false .lst (dr s'), .no, .no, .no, .no, .no, .no, .no, .no, .no, .no, .no, .no])
  | [], acc, s => ⟨[], s, rfl, by simp, by simp [lcGo]⟩
  | y :: ys, acc, s => by
    have m1 : T26.fn "_law_clamp" = some (runF T21 2 N_l_clamp.length B_l_clamp) := by kernel_rfl
    obtain ⟨c, s1, hb, e1⟩ := sp_clamp s
    obtain ⟨cs, s', h1, h2, h3⟩ := cl_go (xs := xs) k ys (acc ++ [mk true c]) s1
    refine ⟨c :: cs, s', by simp [h1], fun x hx => ?_, ?_⟩
    · rcases List.mem_cons.mp hx with rfl | hx
      · exact hb
      · exact h2 x hx
    · have ev : evv (lev T26 21).e (.call "_law_clamp" [.io 2, .v (.c (.bl true))]) [.at true .fro (.lst xs), sA (.int (k : Int)), .at false .lst (dr s), .no, sA y, .no, .no, .no, .no, .no, .no, .no, .no, .no, .no] = some (mk true c, [.at true .fro (.lst xs), sA (.int (k : Int)), .at false .lst (dr s1), .no, sA y, .no, .no, .no, .no, .no, .no, .no, .no, .no, .no]) := by
        generalize mk true c = mc at e1 ⊢
        simp [Q.run, Q.start, ebs, lev_s, lev_e, stepS, stepE, getP, putP, recvOk, evv, evs, evss, evt, evAnd, evOr, evas, evo, evc, params, back, ioOf, setIo, setNs, setN_eq, fr_no, fr_at, asgT, asgTs, b_add, b_sub, c_eq, c_ne, c_lt, c_le, c_gt, c_ge, c_is, c_isn, c_eqo, isNon_oE, c_eqB, c_neB, c_eqNN, Q.slc, isNon_non, isNon_int, isNon_tup, isNon_lst, outs, leaf, mostLen, isiOne, tyOf, intsOf, boolsOf, Fs.sh', m1, e1]
      simp only [lcGo, show asgT (.nm 4) y [.at true .fro (.lst xs), sA (.int (k : Int)), .at false .lst (dr s), .no, .no, .no, .no, .no, .no, .no, .no, .no, .no, .no, .no] = some [.at true .fro (.lst xs), sA (.int (k : Int)), .at false .lst (dr s), .no, sA y, .no, .no, .no, .no, .no, .no, .no, .no, .no, .no] from rfl, evc, ev]
      rw [show wipeE [.at true .fro (.lst xs), sA (.int (k : Int)), .at false .lst (dr s1), .no, sA y, .no, .no, .no, .no, .no, .no, .no, .no, .no, .no] [4] = [.at true .fro (.lst xs), sA (.int (k : Int)), .at false .lst (dr s1), .no, .no, .no, .no, .no, .no, .no, .no, .no, .no, .no, .no] from rfl, h3]
      simp
theorem pk_go {xs : List D} (k : Nat) (rd : D) : ∀ (cs : List C) (acc : List D) (s : Ds), ∃ (pk : List (C × Bool)) (s' : Ds), pk.map (·.1) = cs ∧ lcGo (lev T26 21).e [6] (.nm 6) none (.call "_law_pick" [.io 2, .v (.lst [.pv (.s 6), .blt .list [.pv (.s 6)]])]) (cs.map (mk true)) acc [.at true .fro (.lst xs), sA (.int (k : Int)), .at false .lst (dr s), sA rd, .no, .no, .no, .no, .no, .no, .no, .no, .no, .no, .no] = some (acc ++ pk.map mk2, [.at true .fro (.lst xs), sA (.int (k : Int)), .at false .lst (dr s'), sA rd, .no, .no, .no, .no, .no, .no, .no, .no, .no, .no, .no])
  | [], acc, s => ⟨[], s, rfl, by simp [lcGo]⟩
  | c :: cs, acc, s => by
    have m1 : T26.fn "_law_pick" = some F_l_pick := by kernel_rfl
    obtain ⟨d, s1, hd, e1⟩ := pick_ok s (xs := [mk true c, mk false c]) ⟨by simp, by simp⟩
    obtain ⟨b, rfl⟩ : ∃ b, d = mk2 (c, b) := by
      simp only [List.mem_cons, List.not_mem_nil, or_false] at hd
      rcases hd with rfl | rfl
      · exact ⟨true, rfl⟩
      · exact ⟨false, rfl⟩
    obtain ⟨pk, s', h1, h2⟩ := pk_go (xs := xs) k rd cs (acc ++ [mk2 (c, b)]) s1
    refine ⟨(c, b) :: pk, s', by rw [List.map_cons, h1], ?_⟩
    have bl : Q.blt .list [mk true c] = some (.lst, mk false c) := by
      obtain ⟨l, s, u⟩ := c
      rfl
    have ev : evv (lev T26 21).e (.call "_law_pick" [.io 2, .v (.lst [.pv (.s 6), .blt .list [.pv (.s 6)]])]) [.at true .fro (.lst xs), sA (.int (k : Int)), .at false .lst (dr s), sA rd, .no, .no, sA (mk true c), .no, .no, .no, .no, .no, .no, .no, .no] = some (mk2 (c, b), [.at true .fro (.lst xs), sA (.int (k : Int)), .at false .lst (dr s1), sA rd, .no, .no, sA (mk true c), .no, .no, .no, .no, .no, .no, .no, .no]) := by
      generalize mk2 (c, b) = mm at e1 ⊢
      generalize mk true c = mc at bl e1 ⊢
      generalize mk false c = md at bl e1
      simp [Q.run, Q.start, ebs, lev_s, lev_e, stepS, stepE, getP, putP, recvOk, evv, evs, evss, evt, evAnd, evOr, evas, evo, evc, params, back, ioOf, setIo, setNs, setN_eq, fr_no, fr_at, asgT, asgTs, b_add, b_sub, c_eq, c_ne, c_lt, c_le, c_gt, c_ge, c_is, c_isn, c_eqo, isNon_oE, c_eqB, c_neB, c_eqNN, Q.slc, isNon_non, isNon_int, isNon_tup, isNon_lst, outs, leaf, mostLen, isiOne, tyOf, intsOf, boolsOf, Fs.sh', m1, bl, e1]
    rw [List.map_cons]
    simp only [lcGo, show asgT (.nm 6) (mk true c) [.at true .fro (.lst xs), sA (.int (k : Int)), .at false .lst (dr s), sA rd, .no, .no, .no, .no, .no, .no, .no, .no, .no, .no, .no] = some [.at true .fro (.lst xs), sA (.int (k : Int)), .at false .lst (dr s), sA rd, .no, .no, sA (mk true c), .no, .no, .no, .no, .no, .no, .no, .no] from rfl, evc, ev]
    rw [show wipeE [.at true .fro (.lst xs), sA (.int (k : Int)), .at false .lst (dr s1), sA rd, .no, .no, sA (mk true c), .no, .no, .no, .no, .no, .no, .no, .no] [6] = [.at true .fro (.lst xs), sA (.int (k : Int)), .at false .lst (dr s1), sA rd, .no, .no, .no, .no, .no, .no, .no, .no, .no, .no, .no] from rfl, h2]
    simp
/-! ### an integer -/
theorem zip_go {xs : List D} (k : Nat) (s : Ds) (cl ps kp fo : D) (x : Int) : ∀ (pk : List (C × Bool)) (d : Int), (∀ q ∈ pk, okC q.1 = true) →
    forGo (lev T26 21).s (.tp [(.nm 6), (.nm 11)]) ([.ite (.not (.call "_law_same" [.v (.call "clamped" [.v (.pv (.s 11)), .v (.pv (.s 10))]), .v (.call "_law_clamped" [.v (.pv (.s 6)), .v (.pv (.s 10))])])) [.ret (.c (.bl false))] [], .set 10 (.call "_law_clamped" [.v (.pv (.s 6)), .v (.pv (.s 10))]), .wipe [6, 11]] : List S) (pk.map fun q => .tup [mk true q.1, mk2 q]) [.at true .fro (.lst xs), sA (.int (k : Int)), .at false .lst (dr s), sA cl, .no, sA ps, .no, sA kp, sA fo, sA (.int x), sA (.int d), .no, .no, .no, .no] = some (.nx [.at true .fro (.lst xs), sA (.int (k : Int)), .at false .lst (dr s), sA cl, .no, sA ps, .no, sA kp, sA fo, sA (.int x), sA (.int ((pk.map (·.1)).foldl (fun d c => madeI c d) d)), .no, .no, .no, .no])
  | [], d, _ => rfl
  | (c, b) :: pk, d, h => by
    have ok := h _ (List.mem_cons_self ..)
    have ih := zip_go (xs := xs) k s cl ps kp fo x pk (madeI c d) fun q hq => h q (List.mem_cons_of_mem _ hq)
    have m1 : T26.fn "clamped" = some F_clamped := by kernel_rfl
    have m2 : T26.fn "_law_clamped" = some (runF T22 2 N_l_clamped.length B_l_clamped) := by kernel_rfl
    have m3 : T26.fn "_law_same" = some (Fsame 4) := by kernel_rfl
    have e1 := f_clamped ok b d
    have e2 := e_lcl ok d
    have sm := same_eq (k := 4) (a := .int (madeI c d)) rfl
    have body : ebs (lev T26 21).s ([.ite (.not (.call "_law_same" [.v (.call "clamped" [.v (.pv (.s 11)), .v (.pv (.s 10))]), .v (.call "_law_clamped" [.v (.pv (.s 6)), .v (.pv (.s 10))])])) [.ret (.c (.bl false))] [], .set 10 (.call "_law_clamped" [.v (.pv (.s 6)), .v (.pv (.s 10))]), .wipe [6, 11]] : List S) [.at true .fro (.lst xs), sA (.int (k : Int)), .at false .lst (dr s), sA cl, .no, sA ps, sA (mk true c), sA kp, sA fo, sA (.int x), sA (.int d), sA (mk2 (c, b)), .no, .no, .no] = some (.nx [.at true .fro (.lst xs), sA (.int (k : Int)), .at false .lst (dr s), sA cl, .no, sA ps, .no, sA kp, sA fo, sA (.int x), sA (.int (madeI c d)), .no, .no, .no, .no]) := by
      unfold mk2
      refine ebs_nx (v' := [.at true .fro (.lst xs), sA (.int (k : Int)), .at false .lst (dr s), sA cl, .no, sA ps, sA (mk true c), sA kp, sA fo, sA (.int x), sA (.int d), sA (mk b c), .no, .no, .no]) ?_ (ebs_nx (v' := [.at true .fro (.lst xs), sA (.int (k : Int)), .at false .lst (dr s), sA cl, .no, sA ps, sA (mk true c), sA kp, sA fo, sA (.int x), sA (.int (madeI c d)), sA (mk b c), .no, .no, .no]) ?_ rfl)
      · simp only []
        generalize mk b c = z1 at e1 ⊢
        generalize mk true c = z2 at e2 ⊢
        generalize madeI c d = z3 at e1 e2 sm
        simp [Q.run, Q.start, ebs, lev_s, lev_e, stepS, stepE, getP, putP, recvOk, evv, evs, evss, evt, evAnd, evOr, evas, evo, evc, params, back, ioOf, setIo, setNs, setN_eq, fr_no, fr_at, asgT, asgTs, b_add, b_sub, c_eq, c_ne, c_lt, c_le, c_gt, c_ge, c_is, c_isn, c_eqo, isNon_oE, c_eqB, c_neB, c_eqNN, Q.slc, isNon_non, isNon_int, isNon_tup, isNon_lst, outs, leaf, mostLen, isiOne, tyOf, intsOf, boolsOf, Fs.sh', m1, m2, m3, e1, e2, sm]
      · show (lev T26 21).s _ [.at true .fro (.lst xs), sA (.int (k : Int)), .at false .lst (dr s), sA cl, .no, sA ps, sA (mk true c), sA kp, sA fo, sA (.int x), sA (.int d), sA (mk b c), .no, .no, .no] = some (.nx [.at true .fro (.lst xs), sA (.int (k : Int)), .at false .lst (dr s), sA cl, .no, sA ps, sA (mk true c), sA kp, sA fo, sA (.int x), sA (.int (madeI c d)), sA (mk b c), .no, .no, .no])
        generalize mk b c = z1 at e1 ⊢
        generalize mk true c = z2 at e2 ⊢
        generalize madeI c d = z3 at e1 e2 sm ⊢
        simp [Q.run, Q.start, ebs, lev_s, lev_e, stepS, stepE, getP, putP, recvOk, evv, evs, evss, evt, evAnd, evOr, evas, evo, evc, params, back, ioOf, setIo, setNs, setN_eq, fr_no, fr_at, asgT, asgTs, b_add, b_sub, c_eq, c_ne, c_lt, c_le, c_gt, c_ge, c_is, c_isn, c_eqo, isNon_oE, c_eqB, c_neB, c_eqNN, Q.slc, isNon_non, isNon_int, isNon_tup, isNon_lst, outs, leaf, mostLen, isiOne, tyOf, intsOf, boolsOf, Fs.sh', m2, e2]
    rw [List.map_cons, forGo, show asgT (.tp [(.nm 6), (.nm 11)]) (.tup [mk true (c, b).1, mk2 (c, b)]) [.at true .fro (.lst xs), sA (.int (k : Int)), .at false .lst (dr s), sA cl, .no, sA ps, .no, sA kp, sA fo, sA (.int x), sA (.int d), .no, .no, .no, .no] = some [.at true .fro (.lst xs), sA (.int (k : Int)), .at false .lst (dr s), sA cl, .no, sA ps, sA (mk true c), sA kp, sA fo, sA (.int x), sA (.int d), sA (mk2 (c, b)), .no, .no, .no] from rfl]
    simp only [body]
    exact ih
theorem end_one {xs : List D} (k : Nat) (s : Ds) (cl ps kp en : D) (x : Int) {X : C} (ok : okC X = true) {d : Int} (o : Option Int) (δ : Int) (h : ∀ a, o = some a → madeI X a = d ∧ madeI X (a + δ) ≠ d) : ebs (lev T26 21).s ([.ite (.and (.cmp .isn (.pv (.s 13)) (.c .non)) [.cmp .ne (.call "clamped" [.v (.pv (.s 8)), .v (.pv (.s 13))]) (.pv (.s 10))]) [.ret (.c (.bl false))] [], .ite (.and (.cmp .isn (.pv (.s 13)) (.c .non)) [.cmp .eq (.call "clamped" [.v (.pv (.s 8)), .v (.bin .add (.pv (.s 13)) (.pv (.s 14)))]) (.pv (.s 10))]) [.ret (.c (.bl false))] [], .wipe [13, 14]] : List S) [.at true .fro (.lst xs), sA (.int (k : Int)), .at false .lst (dr s), sA cl, .no, sA ps, .no, sA kp, sA (mk true X), sA (.int x), sA (.int d), .no, sA en, sA (oE o), sA (.int δ)] = some (.nx [.at true .fro (.lst xs), sA (.int (k : Int)), .at false .lst (dr s), sA cl, .no, sA ps, .no, sA kp, sA (mk true X), sA (.int x), sA (.int d), .no, sA en, .no, .no]) := by
  have m1 : T26.fn "clamped" = some F_clamped := by kernel_rfl
  cases o with
  | none =>
    generalize mk true X = mx
    refine ebs_nx (v' := [.at true .fro (.lst xs), sA (.int (k : Int)), .at false .lst (dr s), sA cl, .no, sA ps, .no, sA kp, sA mx, sA (.int x), sA (.int d), .no, sA en, sA .non, sA (.int δ)]) ?_ (ebs_nx (v' := [.at true .fro (.lst xs), sA (.int (k : Int)), .at false .lst (dr s), sA cl, .no, sA ps, .no, sA kp, sA mx, sA (.int x), sA (.int d), .no, sA en, sA .non, sA (.int δ)]) ?_ rfl)
    · simp [Q.run, Q.start, ebs, lev_s, lev_e, stepS, stepE, getP, putP, recvOk, evv, evs, evss, evt, evAnd, evOr, evas, evo, evc, params, back, ioOf, setIo, setNs, setN_eq, fr_no, fr_at, asgT, asgTs, b_add, b_sub, c_eq, c_ne, c_lt, c_le, c_gt, c_ge, c_is, c_isn, c_eqo, isNon_oE, c_eqB, c_neB, c_eqNN, Q.slc, isNon_non, isNon_int, isNon_tup, isNon_lst, outs, leaf, mostLen, isiOne, tyOf, intsOf, boolsOf, Fs.sh', oE]
    · simp [Q.run, Q.start, ebs, lev_s, lev_e, stepS, stepE, getP, putP, recvOk, evv, evs, evss, evt, evAnd, evOr, evas, evo, evc, params, back, ioOf, setIo, setNs, setN_eq, fr_no, fr_at, asgT, asgTs, b_add, b_sub, c_eq, c_ne, c_lt, c_le, c_gt, c_ge, c_is, c_isn, c_eqo, isNon_oE, c_eqB, c_neB, c_eqNN, Q.slc, isNon_non, isNon_int, isNon_tup, isNon_lst, outs, leaf, mostLen, isiOne, tyOf, intsOf, boolsOf, Fs.sh', oE]
  | some a =>
    obtain ⟨h1, h2⟩ := h a rfl
    have e1 := f_clamped ok true a
    have e2 := f_clamped ok true (a + δ)
    generalize mk true X = mx at e1 e2 ⊢
    rw [h1] at e1
    refine ebs_nx (v' := [.at true .fro (.lst xs), sA (.int (k : Int)), .at false .lst (dr s), sA cl, .no, sA ps, .no, sA kp, sA mx, sA (.int x), sA (.int d), .no, sA en, sA (.int a), sA (.int δ)]) ?_ (ebs_nx (v' := [.at true .fro (.lst xs), sA (.int (k : Int)), .at false .lst (dr s), sA cl, .no, sA ps, .no, sA kp, sA mx, sA (.int x), sA (.int d), .no, sA en, sA (.int a), sA (.int δ)]) ?_ rfl)
    · simp [Q.run, Q.start, ebs, lev_s, lev_e, stepS, stepE, getP, putP, recvOk, evv, evs, evss, evt, evAnd, evOr, evas, evo, evc, params, back, ioOf, setIo, setNs, setN_eq, fr_no, fr_at, asgT, asgTs, b_add, b_sub, c_eq, c_ne, c_lt, c_le, c_gt, c_ge, c_is, c_isn, c_eqo, isNon_oE, c_eqB, c_neB, c_eqNN, Q.slc, isNon_non, isNon_int, isNon_tup, isNon_lst, outs, leaf, mostLen, isiOne, tyOf, intsOf, boolsOf, Fs.sh', m1, oE, e1]
    · simp [Q.run, Q.start, ebs, lev_s, lev_e, stepS, stepE, getP, putP, recvOk, evv, evs, evss, evt, evAnd, evOr, evas, evo, evc, params, back, ioOf, setIo, setNs, setN_eq, fr_no, fr_at, asgT, asgTs, b_add, b_sub, c_eq, c_ne, c_lt, c_le, c_gt, c_ge, c_is, c_isn, c_eqo, isNon_oE, c_eqB, c_neB, c_eqNN, Q.slc, isNon_non, isNon_int, isNon_tup, isNon_lst, outs, leaf, mostLen, isiOne, tyOf, intsOf, boolsOf, Fs.sh', m1, oE, e2, h2]
theorem x_body {xs : List D} (k : Nat) (s : Ds) (kp : D) {pk : List (C × Bool)} (hb : ∀ q ∈ pk, okC q.1 = true) {cs : List C} (hcs : pk.map (·.1) = cs) (x : Int) : ebs (lev T26 22).s ([.set 10 (.pv (.s 9)), .for_ (.tp [(.nm 6), (.nm 11)]) (.zip (.pv (.s 3)) (.pv (.s 5))) [.ite (.not (.call "_law_same" [.v (.call "clamped" [.v (.pv (.s 11)), .v (.pv (.s 10))]), .v (.call "_law_clamped" [.v (.pv (.s 6)), .v (.pv (.s 10))])])) [.ret (.c (.bl false))] [], .set 10 (.call "_law_clamped" [.v (.pv (.s 6)), .v (.pv (.s 10))]), .wipe [6, 11]], .ite (.not (.call "_law_same" [.v (.call "clamped" [.v (.pv (.s 8)), .v (.pv (.s 9))]), .v (.pv (.s 10))])) [.ret (.c (.bl false))] [], .set 12 (.call "shown" [.v (.pv (.s 8)), .v (.pv (.s 10))]), .ite (.or (.not (.or (.cmp .is (.idx (.pv (.s 12)) (.c (.int 0))) (.c .non)) [.cmp .le (.idx (.pv (.s 12)) (.c (.int 0))) (.pv (.s 9))])) [.not (.or (.cmp .is (.idx (.pv (.s 12)) (.c (.int 1))) (.c .non)) [.cmp .le (.pv (.s 9)) (.idx (.pv (.s 12)) (.c (.int 1)))])]) [.ret (.c (.bl false))] [], .for_ (.tp [(.nm 13), (.nm 14)]) (.seq (.tup [.tup [.idx (.pv (.s 12)) (.c (.int 0)), .neg (.c (.int 1))], .tup [.idx (.pv (.s 12)) (.c (.int 1)), .c (.int 1)]])) [.ite (.and (.cmp .isn (.pv (.s 13)) (.c .non)) [.cmp .ne (.call "clamped" [.v (.pv (.s 8)), .v (.pv (.s 13))]) (.pv (.s 10))]) [.ret (.c (.bl false))] [], .ite (.and (.cmp .isn (.pv (.s 13)) (.c .non)) [.cmp .eq (.call "clamped" [.v (.pv (.s 8)), .v (.bin .add (.pv (.s 13)) (.pv (.s 14)))]) (.pv (.s 10))]) [.ret (.c (.bl false))] [], .wipe [13, 14]], .wipe [9, 10, 12]] : List S) [.at true .fro (.lst xs), sA (.int (k : Int)), .at false .lst (dr s), sA (.lst (cs.map (mk true))), .no, sA (.lst (pk.map mk2)), .no, sA kp, sA (mk true (joinI cs)), sA (.int x), .no, .no, .no, .no, .no] = some (.nx [.at true .fro (.lst xs), sA (.int (k : Int)), .at false .lst (dr s), sA (.lst (cs.map (mk true))), .no, sA (.lst (pk.map mk2)), .no, sA kp, sA (mk true (joinI cs)), .no, .no, .no, .no, .no, .no]) := by
  have hcs' : ∀ c ∈ cs, okC c = true := by
    intro c hc
    rw [← hcs] at hc
    obtain ⟨q, hq, rfl⟩ := List.mem_map.mp hc
    exact hb q hq
  obtain ⟨X, hX⟩ : ∃ X, X = joinI cs := ⟨_, rfl⟩
  rw [← hX]
  have okX : okC X = true := by rw [hX]; exact join_ok hcs'
  have fmX : formI X = X := by rw [hX]; exact join_form cs
  have zg := zip_go (xs := xs) k s (.lst (cs.map (mk true))) (.lst (pk.map mk2)) kp (mk true X) x pk x hb
  have jm : (pk.map (·.1)).foldl (fun d c => madeI c d) x = madeI X x := by rw [hX, hcs]; exact (join_made hcs' x).symm
  rw [jm] at zg
  obtain ⟨l, h, es, pl, ph⟩ := shown_law okX fmX x
  have ec := f_clamped okX true x
  have e1 := f_shown okX true (madeI X x)
  rw [es] at e1
  obtain ⟨d, hd⟩ : ∃ d, d = madeI X x := ⟨_, rfl⟩
  have E1 := end_one (xs := xs) k s (.lst (cs.map (mk true))) (.lst (pk.map mk2)) kp (.tup [oE l, oE h]) x okX (d := d) l (-1) (fun a ha => by rw [hd]; exact (pl a ha).2)
  have E2 := end_one (xs := xs) k s (.lst (cs.map (mk true))) (.lst (pk.map mk2)) kp (.tup [oE l, oE h]) x okX (d := d) h 1 (fun a ha => by rw [hd]; exact (ph a ha).2)
  have sm := same_eq (k := 4) (a := .int (madeI X x)) rfl
  rw [← hd] at zg ec e1 sm
  have m1 : T26.fn "clamped" = some F_clamped := by kernel_rfl
  have m2 : T26.fn "shown" = some F_shown := by kernel_rfl
  have m3 : T26.fn "_law_same" = some (Fsame 4) := by kernel_rfl
  have lx : ∀ a, l = some a → a ≤ x := fun a ha => (pl a ha).1
  have hx : ∀ a, h = some a → x ≤ a := fun a ha => (ph a ha).1
  have zw : List.zipWith (fun x y => D.tup [x, y]) (cs.map (mk true)) (pk.map mk2) = pk.map fun q => .tup [mk true q.1, mk2 q] := by
    rw [← hcs, List.map_map]
    clear zg jm hcs hb E1 E2
    induction pk with
    | nil => rfl
    | cons q pk ih => simp only [List.map_cons, List.zipWith_cons_cons, ih, Function.comp]
  refine ebs_nx (v' := [.at true .fro (.lst xs), sA (.int (k : Int)), .at false .lst (dr s), sA (.lst (cs.map (mk true))), .no, sA (.lst (pk.map mk2)), .no, sA kp, sA (mk true X), sA (.int x), sA (.int x), .no, .no, .no, .no]) rfl (ebs_nx (v' := [.at true .fro (.lst xs), sA (.int (k : Int)), .at false .lst (dr s), sA (.lst (cs.map (mk true))), .no, sA (.lst (pk.map mk2)), .no, sA kp, sA (mk true X), sA (.int x), sA (.int d), .no, .no, .no, .no]) ?_ (ebs_nx (v' := [.at true .fro (.lst xs), sA (.int (k : Int)), .at false .lst (dr s), sA (.lst (cs.map (mk true))), .no, sA (.lst (pk.map mk2)), .no, sA kp, sA (mk true X), sA (.int x), sA (.int d), .no, .no, .no, .no]) ?_ (ebs_nx (v' := [.at true .fro (.lst xs), sA (.int (k : Int)), .at false .lst (dr s), sA (.lst (cs.map (mk true))), .no, sA (.lst (pk.map mk2)), .no, sA kp, sA (mk true X), sA (.int x), sA (.int d), .no, sA (.tup [oE l, oE h]), .no, .no]) ?_ (ebs_nx (v' := [.at true .fro (.lst xs), sA (.int (k : Int)), .at false .lst (dr s), sA (.lst (cs.map (mk true))), .no, sA (.lst (pk.map mk2)), .no, sA kp, sA (mk true X), sA (.int x), sA (.int d), .no, sA (.tup [oE l, oE h]), .no, .no]) ?_ (ebs_nx (v' := [.at true .fro (.lst xs), sA (.int (k : Int)), .at false .lst (dr s), sA (.lst (cs.map (mk true))), .no, sA (.lst (pk.map mk2)), .no, sA kp, sA (mk true X), sA (.int x), sA (.int d), .no, sA (.tup [oE l, oE h]), .no, .no]) ?_ rfl)))))
  · rw [lev_s]
    simp only [stepS]
    rw [show evi (lev T26 21).e (.zip (.pv (.s 3)) (.pv (.s 5))) [.at true .fro (.lst xs), sA (.int (k : Int)), .at false .lst (dr s), sA (.lst (cs.map (mk true))), .no, sA (.lst (pk.map mk2)), .no, sA kp, sA (mk true X), sA (.int x), sA (.int x), .no, .no, .no, .no] = some (List.zipWith (fun x y => D.tup [x, y]) (cs.map (mk true)) (pk.map mk2), [.at true .fro (.lst xs), sA (.int (k : Int)), .at false .lst (dr s), sA (.lst (cs.map (mk true))), .no, sA (.lst (pk.map mk2)), .no, sA kp, sA (mk true X), sA (.int x), sA (.int x), .no, .no, .no, .no]) from rfl, zw]
    exact zg
  · generalize cs.map (mk true) = z1
    generalize pk.map mk2 = z2
    generalize mk true X = mx at ec ⊢
    simp [Q.run, Q.start, ebs, lev_s, lev_e, stepS, stepE, getP, putP, recvOk, evv, evs, evss, evt, evAnd, evOr, evas, evo, evc, params, back, ioOf, setIo, setNs, setN_eq, fr_no, fr_at, asgT, asgTs, b_add, b_sub, c_eq, c_ne, c_lt, c_le, c_gt, c_ge, c_is, c_isn, c_eqo, isNon_oE, c_eqB, c_neB, c_eqNN, Q.slc, isNon_non, isNon_int, isNon_tup, isNon_lst, outs, leaf, mostLen, isiOne, tyOf, intsOf, boolsOf, Fs.sh', m1, m3, ec, sm]
  · generalize cs.map (mk true) = z1
    generalize pk.map mk2 = z2
    generalize mk true X = mx at e1 ⊢
    simp [Q.run, Q.start, ebs, lev_s, lev_e, stepS, stepE, getP, putP, recvOk, evv, evs, evss, evt, evAnd, evOr, evas, evo, evc, params, back, ioOf, setIo, setNs, setN_eq, fr_no, fr_at, asgT, asgTs, b_add, b_sub, c_eq, c_ne, c_lt, c_le, c_gt, c_ge, c_is, c_isn, c_eqo, isNon_oE, c_eqB, c_neB, c_eqNN, Q.slc, isNon_non, isNon_int, isNon_tup, isNon_lst, outs, leaf, mostLen, isiOne, tyOf, intsOf, boolsOf, Fs.sh', m2, e1, oP]
  · generalize cs.map (mk true) = z1
    generalize pk.map mk2 = z2
    generalize mk true X = mx
    have i0 : Q.idx (.tup [oE l, oE h]) (.int 0) = some (oE l) := rfl
    have i1 : Q.idx (.tup [oE l, oE h]) (.int 1) = some (oE h) := rfl
    generalize D.tup [oE l, oE h] = en at i0 i1 ⊢
    cases l with
    | none =>
      cases h with
      | none => simp [Q.run, Q.start, ebs, lev_s, lev_e, stepS, stepE, getP, putP, recvOk, evv, evs, evss, evt, evAnd, evOr, evas, evo, evc, params, back, ioOf, setIo, setNs, setN_eq, fr_no, fr_at, asgT, asgTs, b_add, b_sub, c_eq, c_ne, c_lt, c_le, c_gt, c_ge, c_is, c_isn, c_eqo, isNon_oE, c_eqB, c_neB, c_eqNN, Q.slc, isNon_non, isNon_int, isNon_tup, isNon_lst, outs, leaf, mostLen, isiOne, tyOf, intsOf, boolsOf, Fs.sh', i0, i1, oE]
      | some h => simp [Q.run, Q.start, ebs, lev_s, lev_e, stepS, stepE, getP, putP, recvOk, evv, evs, evss, evt, evAnd, evOr, evas, evo, evc, params, back, ioOf, setIo, setNs, setN_eq, fr_no, fr_at, asgT, asgTs, b_add, b_sub, c_eq, c_ne, c_lt, c_le, c_gt, c_ge, c_is, c_isn, c_eqo, isNon_oE, c_eqB, c_neB, c_eqNN, Q.slc, isNon_non, isNon_int, isNon_tup, isNon_lst, outs, leaf, mostLen, isiOne, tyOf, intsOf, boolsOf, Fs.sh', i0, i1, oE, hx h rfl]
    | some l =>
      cases h with
      | none => simp [Q.run, Q.start, ebs, lev_s, lev_e, stepS, stepE, getP, putP, recvOk, evv, evs, evss, evt, evAnd, evOr, evas, evo, evc, params, back, ioOf, setIo, setNs, setN_eq, fr_no, fr_at, asgT, asgTs, b_add, b_sub, c_eq, c_ne, c_lt, c_le, c_gt, c_ge, c_is, c_isn, c_eqo, isNon_oE, c_eqB, c_neB, c_eqNN, Q.slc, isNon_non, isNon_int, isNon_tup, isNon_lst, outs, leaf, mostLen, isiOne, tyOf, intsOf, boolsOf, Fs.sh', i0, i1, oE, lx l rfl]
      | some h => simp [Q.run, Q.start, ebs, lev_s, lev_e, stepS, stepE, getP, putP, recvOk, evv, evs, evss, evt, evAnd, evOr, evas, evo, evc, params, back, ioOf, setIo, setNs, setN_eq, fr_no, fr_at, asgT, asgTs, b_add, b_sub, c_eq, c_ne, c_lt, c_le, c_gt, c_ge, c_is, c_isn, c_eqo, isNon_oE, c_eqB, c_neB, c_eqNN, Q.slc, isNon_non, isNon_int, isNon_tup, isNon_lst, outs, leaf, mostLen, isiOne, tyOf, intsOf, boolsOf, Fs.sh', i0, i1, oE, lx l rfl, hx h rfl]
  · rw [lev_s]
    simp only [stepS]
    rw [show evi (lev T26 21).e (.seq (.tup [.tup [.idx (.pv (.s 12)) (.c (.int 0)), .neg (.c (.int 1))], .tup [.idx (.pv (.s 12)) (.c (.int 1)), .c (.int 1)]])) [.at true .fro (.lst xs), sA (.int (k : Int)), .at false .lst (dr s), sA (.lst (cs.map (mk true))), .no, sA (.lst (pk.map mk2)), .no, sA kp, sA (mk true X), sA (.int x), sA (.int d), .no, sA (.tup [oE l, oE h]), .no, .no] = some ([.tup [oE l, .int (-1)], .tup [oE h, .int 1]], [.at true .fro (.lst xs), sA (.int (k : Int)), .at false .lst (dr s), sA (.lst (cs.map (mk true))), .no, sA (.lst (pk.map mk2)), .no, sA kp, sA (mk true X), sA (.int x), sA (.int d), .no, sA (.tup [oE l, oE h]), .no, .no]) from rfl]
    simp only []
    rw [forGo, show asgT (.tp [(.nm 13), (.nm 14)]) (.tup [oE l, .int (-1)]) [.at true .fro (.lst xs), sA (.int (k : Int)), .at false .lst (dr s), sA (.lst (cs.map (mk true))), .no, sA (.lst (pk.map mk2)), .no, sA kp, sA (mk true X), sA (.int x), sA (.int d), .no, sA (.tup [oE l, oE h]), .no, .no] = some [.at true .fro (.lst xs), sA (.int (k : Int)), .at false .lst (dr s), sA (.lst (cs.map (mk true))), .no, sA (.lst (pk.map mk2)), .no, sA kp, sA (mk true X), sA (.int x), sA (.int d), .no, sA (.tup [oE l, oE h]), sA (oE l), sA (.int (-1))] from rfl]
    simp only [E1]
    rw [forGo, show asgT (.tp [(.nm 13), (.nm 14)]) (.tup [oE h, .int 1]) [.at true .fro (.lst xs), sA (.int (k : Int)), .at false .lst (dr s), sA (.lst (cs.map (mk true))), .no, sA (.lst (pk.map mk2)), .no, sA kp, sA (mk true X), sA (.int x), sA (.int d), .no, sA (.tup [oE l, oE h]), .no, .no] = some [.at true .fro (.lst xs), sA (.int (k : Int)), .at false .lst (dr s), sA (.lst (cs.map (mk true))), .no, sA (.lst (pk.map mk2)), .no, sA kp, sA (mk true X), sA (.int x), sA (.int d), .no, sA (.tup [oE l, oE h]), sA (oE h), sA (.int 1)] from rfl]
    simp only [E2]
    rfl
theorem out_body (ns : List Int) {xs : List D} (exs : xs = ns.map .int) (k : Nat) : ebs (lev T26 23).s ([.set 2 (.call "_law_source" [.io 0, .v (.pv (.s 1))]), .set 3 (.lc [4] (.nm 4) (.rng [.call "_law_draw" [.io 2, .v (.c (.int 7))]]) none (.call "_law_clamp" [.io 2, .v (.c (.bl true))])), .fz 3, .set 5 (.lc [6] (.nm 6) (.seq (.pv (.s 3))) none (.call "_law_pick" [.io 2, .v (.lst [.pv (.s 6), .blt .list [.pv (.s 6)]])])), .fz 5, .set 7 (.call "repr" [.v (.pv (.s 5))]), .set 8 (.call "joined" [.v (.call "_law_pick" [.io 2, .v (.lst [.pv (.s 5), .blt .tuple [.pv (.s 5)]])])]), .ite (.or (.not (.call "_law_is_form" [.v (.pv (.s 8))])) [.cmp .ne (.call "repr" [.v (.pv (.s 5))]) (.pv (.s 7))]) [.ret (.c (.bl false))] [], .for_ (.nm 9) (.seq (.bin .add (.lrng [.neg (.c (.int 40)), .c (.int 41)]) (.lst [.bin .pow (.c (.int 10)) (.c (.int 11)), .bin .sub (.c (.int 0)) (.bin .pow (.c (.int 10)) (.c (.int 11))), .bin .add (.bin .pow (.c (.int 10)) (.c (.int 11))) (.c (.int 3)), .bin .sub (.c (.int 3)) (.bin .pow (.c (.int 10)) (.c (.int 11)))]))) [.set 10 (.pv (.s 9)), .for_ (.tp [(.nm 6), (.nm 11)]) (.zip (.pv (.s 3)) (.pv (.s 5))) [.ite (.not (.call "_law_same" [.v (.call "clamped" [.v (.pv (.s 11)), .v (.pv (.s 10))]), .v (.call "_law_clamped" [.v (.pv (.s 6)), .v (.pv (.s 10))])])) [.ret (.c (.bl false))] [], .set 10 (.call "_law_clamped" [.v (.pv (.s 6)), .v (.pv (.s 10))]), .wipe [6, 11]], .ite (.not (.call "_law_same" [.v (.call "clamped" [.v (.pv (.s 8)), .v (.pv (.s 9))]), .v (.pv (.s 10))])) [.ret (.c (.bl false))] [], .set 12 (.call "shown" [.v (.pv (.s 8)), .v (.pv (.s 10))]), .ite (.or (.not (.or (.cmp .is (.idx (.pv (.s 12)) (.c (.int 0))) (.c .non)) [.cmp .le (.idx (.pv (.s 12)) (.c (.int 0))) (.pv (.s 9))])) [.not (.or (.cmp .is (.idx (.pv (.s 12)) (.c (.int 1))) (.c .non)) [.cmp .le (.pv (.s 9)) (.idx (.pv (.s 12)) (.c (.int 1)))])]) [.ret (.c (.bl false))] [], .for_ (.tp [(.nm 13), (.nm 14)]) (.seq (.tup [.tup [.idx (.pv (.s 12)) (.c (.int 0)), .neg (.c (.int 1))], .tup [.idx (.pv (.s 12)) (.c (.int 1)), .c (.int 1)]])) [.ite (.and (.cmp .isn (.pv (.s 13)) (.c .non)) [.cmp .ne (.call "clamped" [.v (.pv (.s 8)), .v (.pv (.s 13))]) (.pv (.s 10))]) [.ret (.c (.bl false))] [], .ite (.and (.cmp .isn (.pv (.s 13)) (.c .non)) [.cmp .eq (.call "clamped" [.v (.pv (.s 8)), .v (.bin .add (.pv (.s 13)) (.pv (.s 14)))]) (.pv (.s 10))]) [.ret (.c (.bl false))] [], .wipe [13, 14]], .wipe [9, 10, 12]], .wipe [1, 2, 3, 5, 7, 8]] : List S) [.at true .fro (.lst xs), sA (.int (k : Int)), .no, .no, .no, .no, .no, .no, .no, .no, .no, .no, .no, .no, .no] = some (.nx [.at true .fro (.lst xs), .no, .no, .no, .no, .no, .no, .no, .no, .no, .no, .no, .no, .no, .no]) := by
  obtain ⟨s0, e0⟩ := sp_source ns k
  rw [← exs] at e0
  have m0 : T26.fn "_law_source" = some F_l_source := by kernel_rfl
  have m1 : T26.fn "_law_draw" = some F_l_draw := by kernel_rfl
  have m2 : T26.fn "_law_pick" = some F_l_pick := by kernel_rfl
  have m3 : T26.fn "repr" = some F_repr := by kernel_rfl
  have m4 : T26.fn "joined" = some (runF T11 1 N_joined.length B_joined) := by kernel_rfl
  have m5 : T26.fn "_law_is_form" = some (runF T23 1 N_l_is_form.length B_l_is_form) := by kernel_rfl
  obtain ⟨n, en, ln⟩ := nat_draw s0 (m := 7) (by omega)
  have d0 := f_draw s0 7 (by omega)
  rw [en] at d0
  obtain ⟨cs, s1, lcs, hcs, e1⟩ := cl_go (xs := xs) k (rngOf 0 n) [] (drawS s0 7)
  have lcs' : cs.length ≤ 6 := by rw [lcs]; simp [rngOf]; omega
  obtain ⟨pk, s2, hpk, e2⟩ := pk_go (xs := xs) k (.lst (cs.map (mk true))) cs [] s1
  have hb : ∀ q ∈ pk, bC q.1 := fun q hq => hcs _ (by rw [← hpk]; exact List.mem_map_of_mem hq)
  have hok : ∀ q ∈ pk, okC q.1 = true := fun q hq => (hb q hq).1
  have hok' : ∀ c ∈ cs, okC c = true := fun c hc => (hcs c hc).1
  have sh := sh_pk hb (by rw [show pk.length = cs.length by rw [← hpk, List.length_map]]; exact lcs')
  have e3 := e_repr sh (by omega) (by omega)
  have rs := repr_same sh
  obtain ⟨pd, s3, hpd, e4⟩ := pick_ok s2 (xs := [.lst (pk.map mk2), .tup (pk.map mk2)]) ⟨by simp, by simp⟩
  obtain ⟨kq, rfl⟩ : ∃ kq, pd = sqD kq (pk.map mk2) := by
    simp only [List.mem_cons, List.not_mem_nil, or_false] at hpd
    rcases hpd with rfl | rfl
    · exact ⟨true, rfl⟩
    · exact ⟨false, rfl⟩
  have e5 := e_joined kq pk hok
  rw [hpk] at e5
  have isf := sp_is_form T23 (join_ok hok') (join_form cs)
  have bt : Q.blt .tuple [.lst (pk.map mk2)] = some (.sh, .tup (pk.map mk2)) := rfl
  have lc1 : (lev T26 22).e (.lc [4] (.nm 4) (.rng [.call "_law_draw" [.io 2, .v (.c (.int 7))]]) none (.call "_law_clamp" [.io 2, .v (.c (.bl true))])) [.at true .fro (.lst xs), sA (.int (k : Int)), .at false .lst (dr s0), .no, .no, .no, .no, .no, .no, .no, .no, .no, .no, .no, .no] = some (.lst, .lst (cs.map (mk true)), [.at true .fro (.lst xs), sA (.int (k : Int)), .at false .lst (dr s1), .no, .no, .no, .no, .no, .no, .no, .no, .no, .no, .no, .no]) := by
    rw [lev_e]
    simp only [stepE]
    have ei : evi (lev T26 21).e (.rng [.call "_law_draw" [.io 2, .v (.c (.int 7))]]) [.at true .fro (.lst xs), sA (.int (k : Int)), .at false .lst (dr s0), .no, .no, .no, .no, .no, .no, .no, .no, .no, .no, .no, .no] = some (rngOf 0 n, [.at true .fro (.lst xs), sA (.int (k : Int)), .at false .lst (dr (drawS s0 7)), .no, .no, .no, .no, .no, .no, .no, .no, .no, .no, .no, .no]) := by
      have l1 : (n : Int) ≤ 16777216 := by omega
      have l2 : -(2 ^ 62) ≤ (n : Int) := by omega
      simp only [evi]
      simp [Q.run, Q.start, ebs, lev_s, lev_e, stepS, stepE, getP, putP, recvOk, evv, evs, evss, evt, evAnd, evOr, evas, evo, evc, params, back, ioOf, setIo, setNs, setN_eq, fr_no, fr_at, asgT, asgTs, b_add, b_sub, c_eq, c_ne, c_lt, c_le, c_gt, c_ge, c_is, c_isn, c_eqo, isNon_oE, c_eqB, c_neB, c_eqNN, Q.slc, isNon_non, isNon_int, isNon_tup, isNon_lst, outs, leaf, mostLen, isiOne, tyOf, intsOf, boolsOf, Fs.sh', m1, d0, l1, l2]
    rw [ei]
    simp only []
    rw [show wipeE [.at true .fro (.lst xs), sA (.int (k : Int)), .at false .lst (dr (drawS s0 7)), .no, .no, .no, .no, .no, .no, .no, .no, .no, .no, .no, .no] [4] = [.at true .fro (.lst xs), sA (.int (k : Int)), .at false .lst (dr (drawS s0 7)), .no, .no, .no, .no, .no, .no, .no, .no, .no, .no, .no, .no] from rfl, e1]
    simp
  have lc3 : (lev T26 22).e (.lc [6] (.nm 6) (.seq (.pv (.s 3))) none (.call "_law_pick" [.io 2, .v (.lst [.pv (.s 6), .blt .list [.pv (.s 6)]])])) [.at true .fro (.lst xs), sA (.int (k : Int)), .at false .lst (dr s1), sA (.lst (cs.map (mk true))), .no, .no, .no, .no, .no, .no, .no, .no, .no, .no, .no] = some (.lst, .lst (pk.map mk2), [.at true .fro (.lst xs), sA (.int (k : Int)), .at false .lst (dr s2), sA (.lst (cs.map (mk true))), .no, .no, .no, .no, .no, .no, .no, .no, .no, .no, .no]) := by
    rw [lev_e]
    simp only [stepE]
    rw [show evi (lev T26 21).e (.seq (.pv (.s 3))) [.at true .fro (.lst xs), sA (.int (k : Int)), .at false .lst (dr s1), sA (.lst (cs.map (mk true))), .no, .no, .no, .no, .no, .no, .no, .no, .no, .no, .no] = some (cs.map (mk true), [.at true .fro (.lst xs), sA (.int (k : Int)), .at false .lst (dr s1), sA (.lst (cs.map (mk true))), .no, .no, .no, .no, .no, .no, .no, .no, .no, .no, .no]) from rfl]
    simp only []
    rw [show wipeE [.at true .fro (.lst xs), sA (.int (k : Int)), .at false .lst (dr s1), sA (.lst (cs.map (mk true))), .no, .no, .no, .no, .no, .no, .no, .no, .no, .no, .no] [6] = [.at true .fro (.lst xs), sA (.int (k : Int)), .at false .lst (dr s1), sA (.lst (cs.map (mk true))), .no, .no, .no, .no, .no, .no, .no, .no, .no, .no, .no] from rfl, e2]
    simp
  obtain ⟨v', hv', rfl⟩ := for_go (LSt := (lev T26 22).s) (t := .nm 9) (b := ([.set 10 (.pv (.s 9)), .for_ (.tp [(.nm 6), (.nm 11)]) (.zip (.pv (.s 3)) (.pv (.s 5))) [.ite (.not (.call "_law_same" [.v (.call "clamped" [.v (.pv (.s 11)), .v (.pv (.s 10))]), .v (.call "_law_clamped" [.v (.pv (.s 6)), .v (.pv (.s 10))])])) [.ret (.c (.bl false))] [], .set 10 (.call "_law_clamped" [.v (.pv (.s 6)), .v (.pv (.s 10))]), .wipe [6, 11]], .ite (.not (.call "_law_same" [.v (.call "clamped" [.v (.pv (.s 8)), .v (.pv (.s 9))]), .v (.pv (.s 10))])) [.ret (.c (.bl false))] [], .set 12 (.call "shown" [.v (.pv (.s 8)), .v (.pv (.s 10))]), .ite (.or (.not (.or (.cmp .is (.idx (.pv (.s 12)) (.c (.int 0))) (.c .non)) [.cmp .le (.idx (.pv (.s 12)) (.c (.int 0))) (.pv (.s 9))])) [.not (.or (.cmp .is (.idx (.pv (.s 12)) (.c (.int 1))) (.c .non)) [.cmp .le (.pv (.s 9)) (.idx (.pv (.s 12)) (.c (.int 1)))])]) [.ret (.c (.bl false))] [], .for_ (.tp [(.nm 13), (.nm 14)]) (.seq (.tup [.tup [.idx (.pv (.s 12)) (.c (.int 0)), .neg (.c (.int 1))], .tup [.idx (.pv (.s 12)) (.c (.int 1)), .c (.int 1)]])) [.ite (.and (.cmp .isn (.pv (.s 13)) (.c .non)) [.cmp .ne (.call "clamped" [.v (.pv (.s 8)), .v (.pv (.s 13))]) (.pv (.s 10))]) [.ret (.c (.bl false))] [], .ite (.and (.cmp .isn (.pv (.s 13)) (.c .non)) [.cmp .eq (.call "clamped" [.v (.pv (.s 8)), .v (.bin .add (.pv (.s 13)) (.pv (.s 14)))]) (.pv (.s 10))]) [.ret (.c (.bl false))] [], .wipe [13, 14]], .wipe [9, 10, 12]] : List S)) (fun v => v = [.at true .fro (.lst xs), sA (.int (k : Int)), .at false .lst (dr s3), sA (.lst (cs.map (mk true))), .no, sA (.lst (pk.map mk2)), .no, sA (.str (D.lst (pk.map mk2)).py.shown), sA (mk true (joinI cs)), .no, .no, .no, .no, .no, .no]) (xs := rngOf (-40) 41 ++ [.int 100000000000, .int (-100000000000), .int 100000000003, .int (-99999999997)]) (v := [.at true .fro (.lst xs), sA (.int (k : Int)), .at false .lst (dr s3), sA (.lst (cs.map (mk true))), .no, sA (.lst (pk.map mk2)), .no, sA (.str (D.lst (pk.map mk2)).py.shown), sA (mk true (joinI cs)), .no, .no, .no, .no, .no, .no]) (by
    rintro y hy v rfl
    obtain ⟨x, rfl⟩ : ∃ x : Int, y = .int x := by
      rcases List.mem_append.mp hy with hy | hy
      · obtain ⟨i, _, rfl⟩ := List.mem_map.mp hy
        exact ⟨_, rfl⟩
      · simp only [List.mem_cons, List.not_mem_nil, or_false] at hy
        rcases hy with rfl | rfl | rfl | rfl <;> exact ⟨_, rfl⟩
    exact ⟨[.at true .fro (.lst xs), sA (.int (k : Int)), .at false .lst (dr s3), sA (.lst (cs.map (mk true))), .no, sA (.lst (pk.map mk2)), .no, sA (.str (D.lst (pk.map mk2)).py.shown), sA (mk true (joinI cs)), sA (.int x), .no, .no, .no, .no, .no], _, rfl, x_body k s3 (.str (D.lst (pk.map mk2)).py.shown) hok hpk x, rfl⟩) rfl
  refine ebs_nx (v' := [.at true .fro (.lst xs), sA (.int (k : Int)), .at false .lst (dr s0), .no, .no, .no, .no, .no, .no, .no, .no, .no, .no, .no, .no]) ?_ (ebs_nx (v' := [.at true .fro (.lst xs), sA (.int (k : Int)), .at false .lst (dr s1), .at false .lst (.lst (cs.map (mk true))), .no, .no, .no, .no, .no, .no, .no, .no, .no, .no, .no]) ?_ (ebs_nx (v' := [.at true .fro (.lst xs), sA (.int (k : Int)), .at false .lst (dr s1), sA (.lst (cs.map (mk true))), .no, .no, .no, .no, .no, .no, .no, .no, .no, .no, .no]) rfl (ebs_nx (v' := [.at true .fro (.lst xs), sA (.int (k : Int)), .at false .lst (dr s2), sA (.lst (cs.map (mk true))), .no, .at false .lst (.lst (pk.map mk2)), .no, .no, .no, .no, .no, .no, .no, .no, .no]) ?_ (ebs_nx (v' := [.at true .fro (.lst xs), sA (.int (k : Int)), .at false .lst (dr s2), sA (.lst (cs.map (mk true))), .no, sA (.lst (pk.map mk2)), .no, .no, .no, .no, .no, .no, .no, .no, .no]) rfl (ebs_nx (v' := [.at true .fro (.lst xs), sA (.int (k : Int)), .at false .lst (dr s2), sA (.lst (cs.map (mk true))), .no, sA (.lst (pk.map mk2)), .no, sA (.str (D.lst (pk.map mk2)).py.shown), .no, .no, .no, .no, .no, .no, .no]) ?_ (ebs_nx (v' := [.at true .fro (.lst xs), sA (.int (k : Int)), .at false .lst (dr s3), sA (.lst (cs.map (mk true))), .no, sA (.lst (pk.map mk2)), .no, sA (.str (D.lst (pk.map mk2)).py.shown), sA (mk true (joinI cs)), .no, .no, .no, .no, .no, .no]) ?_ (ebs_nx (v' := [.at true .fro (.lst xs), sA (.int (k : Int)), .at false .lst (dr s3), sA (.lst (cs.map (mk true))), .no, sA (.lst (pk.map mk2)), .no, sA (.str (D.lst (pk.map mk2)).py.shown), sA (mk true (joinI cs)), .no, .no, .no, .no, .no, .no]) ?_ (ebs_nx (v' := [.at true .fro (.lst xs), sA (.int (k : Int)), .at false .lst (dr s3), sA (.lst (cs.map (mk true))), .no, sA (.lst (pk.map mk2)), .no, sA (.str (D.lst (pk.map mk2)).py.shown), sA (mk true (joinI cs)), .no, .no, .no, .no, .no, .no]) ?_ rfl))))))))
  · simp [Q.run, Q.start, ebs, lev_s, lev_e, stepS, stepE, getP, putP, recvOk, evv, evs, evss, evt, evAnd, evOr, evas, evo, evc, params, back, ioOf, setIo, setNs, setN_eq, fr_no, fr_at, asgT, asgTs, b_add, b_sub, c_eq, c_ne, c_lt, c_le, c_gt, c_ge, c_is, c_isn, c_eqo, isNon_oE, c_eqB, c_neB, c_eqNN, Q.slc, isNon_non, isNon_int, isNon_tup, isNon_lst, outs, leaf, mostLen, isiOne, tyOf, intsOf, boolsOf, Fs.sh', m0, e0]
  · generalize cs.map (mk true) = z1 at lc1 ⊢
    simp [Q.run, Q.start, ebs, lev_s, lev_e, stepS, stepE, getP, putP, recvOk, evv, evs, evss, evt, evAnd, evOr, evas, evo, evc, params, back, ioOf, setIo, setNs, setN_eq, fr_no, fr_at, asgT, asgTs, b_add, b_sub, c_eq, c_ne, c_lt, c_le, c_gt, c_ge, c_is, c_isn, c_eqo, isNon_oE, c_eqB, c_neB, c_eqNN, Q.slc, isNon_non, isNon_int, isNon_tup, isNon_lst, outs, leaf, mostLen, isiOne, tyOf, intsOf, boolsOf, Fs.sh', ↓lc1]
  · generalize cs.map (mk true) = z1 at lc3 ⊢
    generalize pk.map mk2 = z2 at lc3 ⊢
    simp [Q.run, Q.start, ebs, lev_s, lev_e, stepS, stepE, getP, putP, recvOk, evv, evs, evss, evt, evAnd, evOr, evas, evo, evc, params, back, ioOf, setIo, setNs, setN_eq, fr_no, fr_at, asgT, asgTs, b_add, b_sub, c_eq, c_ne, c_lt, c_le, c_gt, c_ge, c_is, c_isn, c_eqo, isNon_oE, c_eqB, c_neB, c_eqNN, Q.slc, isNon_non, isNon_int, isNon_tup, isNon_lst, outs, leaf, mostLen, isiOne, tyOf, intsOf, boolsOf, Fs.sh', ↓lc3]
  · generalize cs.map (mk true) = z1
    generalize (D.lst (pk.map mk2)).py.shown = tx at e3 ⊢
    generalize pk.map mk2 = z2 at e3 ⊢
    simp [Q.run, Q.start, ebs, lev_s, lev_e, stepS, stepE, getP, putP, recvOk, evv, evs, evss, evt, evAnd, evOr, evas, evo, evc, params, back, ioOf, setIo, setNs, setN_eq, fr_no, fr_at, asgT, asgTs, b_add, b_sub, c_eq, c_ne, c_lt, c_le, c_gt, c_ge, c_is, c_isn, c_eqo, isNon_oE, c_eqB, c_neB, c_eqNN, Q.slc, isNon_non, isNon_int, isNon_tup, isNon_lst, outs, leaf, mostLen, isiOne, tyOf, intsOf, boolsOf, Fs.sh', m3, e3]
  · generalize cs.map (mk true) = z1
    generalize (D.lst (pk.map mk2)).py.shown = tx
    generalize sqD kq (pk.map mk2) = sq at e4 e5
    generalize pk.map mk2 = z2 at bt e4 ⊢
    generalize mk true (joinI cs) = mx at e5 ⊢
    simp [Q.run, Q.start, ebs, lev_s, lev_e, stepS, stepE, getP, putP, recvOk, evv, evs, evss, evt, evAnd, evOr, evas, evo, evc, params, back, ioOf, setIo, setNs, setN_eq, fr_no, fr_at, asgT, asgTs, b_add, b_sub, c_eq, c_ne, c_lt, c_le, c_gt, c_ge, c_is, c_isn, c_eqo, isNon_oE, c_eqB, c_neB, c_eqNN, Q.slc, isNon_non, isNon_int, isNon_tup, isNon_lst, outs, leaf, mostLen, isiOne, tyOf, intsOf, boolsOf, Fs.sh', m2, m4, bt, e4, e5]
  · generalize cs.map (mk true) = z1
    generalize (D.lst (pk.map mk2)).py.shown = tx at e3 rs ⊢
    generalize pk.map mk2 = z2 at e3 ⊢
    generalize mk true (joinI cs) = mx at isf ⊢
    simp [Q.run, Q.start, ebs, lev_s, lev_e, stepS, stepE, getP, putP, recvOk, evv, evs, evss, evt, evAnd, evOr, evas, evo, evc, params, back, ioOf, setIo, setNs, setN_eq, fr_no, fr_at, asgT, asgTs, b_add, b_sub, c_eq, c_ne, c_lt, c_le, c_gt, c_ge, c_is, c_isn, c_eqo, isNon_oE, c_eqB, c_neB, c_eqNN, Q.slc, isNon_non, isNon_int, isNon_tup, isNon_lst, outs, leaf, mostLen, isiOne, tyOf, intsOf, boolsOf, Fs.sh', m3, m5, e3, rs, isf]
  · rw [lev_s]
    simp only [stepS]
    have ei : evi (lev T26 22).e (.seq ((.bin .add (.lrng [.neg (.c (.int 40)), .c (.int 41)]) (.lst [.bin .pow (.c (.int 10)) (.c (.int 11)), .bin .sub (.c (.int 0)) (.bin .pow (.c (.int 10)) (.c (.int 11))), .bin .add (.bin .pow (.c (.int 10)) (.c (.int 11))) (.c (.int 3)), .bin .sub (.c (.int 3)) (.bin .pow (.c (.int 10)) (.c (.int 11)))])))) [.at true .fro (.lst xs), sA (.int (k : Int)), .at false .lst (dr s3), sA (.lst (cs.map (mk true))), .no, sA (.lst (pk.map mk2)), .no, sA (.str (D.lst (pk.map mk2)).py.shown), sA (mk true (joinI cs)), .no, .no, .no, .no, .no, .no] = some (rngOf (-40) 41 ++ [.int 100000000000, .int (-100000000000), .int 100000000003, .int (-99999999997)], [.at true .fro (.lst xs), sA (.int (k : Int)), .at false .lst (dr s3), sA (.lst (cs.map (mk true))), .no, sA (.lst (pk.map mk2)), .no, sA (.str (D.lst (pk.map mk2)).py.shown), sA (mk true (joinI cs)), .no, .no, .no, .no, .no, .no]) := by
      have bp : Q.bin .pow (.int 10) (.int 11) = some (.sh, .int 100000000000) := by kernel_rfl
      have ba : Q.bin .add (.lst (rngOf (-40) 41)) (.lst [.int 100000000000, .int (-100000000000), .int 100000000003, .int (-99999999997)]) = some (.lst, .lst (rngOf (-40) 41 ++ [.int 100000000000, .int (-100000000000), .int 100000000003, .int (-99999999997)])) := by
        simp only [Q.bin]
        rw [if_pos (by simp [rngOf, mostLen])]
      generalize cs.map (mk true) = z1
      generalize (D.lst (pk.map mk2)).py.shown = tx
      generalize pk.map mk2 = z2
      generalize mk true (joinI cs) = mx
      generalize rngOf (-40) 41 ++ [.int 100000000000, .int (-100000000000), .int 100000000003, .int (-99999999997)] = big at ba ⊢
      simp only [evi]
      simp [Q.run, Q.start, ebs, lev_s, lev_e, stepS, stepE, getP, putP, recvOk, evv, evs, evss, evt, evAnd, evOr, evas, evo, evc, params, back, ioOf, setIo, setNs, setN_eq, fr_no, fr_at, asgT, asgTs, b_add, b_sub, c_eq, c_ne, c_lt, c_le, c_gt, c_ge, c_is, c_isn, c_eqo, isNon_oE, c_eqB, c_neB, c_eqNN, Q.slc, isNon_non, isNon_int, isNon_tup, isNon_lst, outs, leaf, mostLen, isiOne, tyOf, intsOf, boolsOf, Fs.sh', bp, ba]
    rw [ei]
    exact hv'
theorem sp_law (ns : List Int) : Q.run T26 24 N_law.length B_law [(.fro, .lst (ns.map .int))] = some (.sh, .bl true, [(.fro, .lst (ns.map .int))]) := by
  obtain ⟨xs, exs⟩ : ∃ xs, xs = ns.map D.int := ⟨_, rfl⟩
  rw [← exs]
  obtain ⟨v', hv', rfl⟩ := for_go (LSt := (lev T26 23).s) (t := .nm 1) (b := ([.set 2 (.call "_law_source" [.io 0, .v (.pv (.s 1))]), .set 3 (.lc [4] (.nm 4) (.rng [.call "_law_draw" [.io 2, .v (.c (.int 7))]]) none (.call "_law_clamp" [.io 2, .v (.c (.bl true))])), .fz 3, .set 5 (.lc [6] (.nm 6) (.seq (.pv (.s 3))) none (.call "_law_pick" [.io 2, .v (.lst [.pv (.s 6), .blt .list [.pv (.s 6)]])])), .fz 5, .set 7 (.call "repr" [.v (.pv (.s 5))]), .set 8 (.call "joined" [.v (.call "_law_pick" [.io 2, .v (.lst [.pv (.s 5), .blt .tuple [.pv (.s 5)]])])]), .ite (.or (.not (.call "_law_is_form" [.v (.pv (.s 8))])) [.cmp .ne (.call "repr" [.v (.pv (.s 5))]) (.pv (.s 7))]) [.ret (.c (.bl false))] [], .for_ (.nm 9) (.seq (.bin .add (.lrng [.neg (.c (.int 40)), .c (.int 41)]) (.lst [.bin .pow (.c (.int 10)) (.c (.int 11)), .bin .sub (.c (.int 0)) (.bin .pow (.c (.int 10)) (.c (.int 11))), .bin .add (.bin .pow (.c (.int 10)) (.c (.int 11))) (.c (.int 3)), .bin .sub (.c (.int 3)) (.bin .pow (.c (.int 10)) (.c (.int 11)))]))) [.set 10 (.pv (.s 9)), .for_ (.tp [(.nm 6), (.nm 11)]) (.zip (.pv (.s 3)) (.pv (.s 5))) [.ite (.not (.call "_law_same" [.v (.call "clamped" [.v (.pv (.s 11)), .v (.pv (.s 10))]), .v (.call "_law_clamped" [.v (.pv (.s 6)), .v (.pv (.s 10))])])) [.ret (.c (.bl false))] [], .set 10 (.call "_law_clamped" [.v (.pv (.s 6)), .v (.pv (.s 10))]), .wipe [6, 11]], .ite (.not (.call "_law_same" [.v (.call "clamped" [.v (.pv (.s 8)), .v (.pv (.s 9))]), .v (.pv (.s 10))])) [.ret (.c (.bl false))] [], .set 12 (.call "shown" [.v (.pv (.s 8)), .v (.pv (.s 10))]), .ite (.or (.not (.or (.cmp .is (.idx (.pv (.s 12)) (.c (.int 0))) (.c .non)) [.cmp .le (.idx (.pv (.s 12)) (.c (.int 0))) (.pv (.s 9))])) [.not (.or (.cmp .is (.idx (.pv (.s 12)) (.c (.int 1))) (.c .non)) [.cmp .le (.pv (.s 9)) (.idx (.pv (.s 12)) (.c (.int 1)))])]) [.ret (.c (.bl false))] [], .for_ (.tp [(.nm 13), (.nm 14)]) (.seq (.tup [.tup [.idx (.pv (.s 12)) (.c (.int 0)), .neg (.c (.int 1))], .tup [.idx (.pv (.s 12)) (.c (.int 1)), .c (.int 1)]])) [.ite (.and (.cmp .isn (.pv (.s 13)) (.c .non)) [.cmp .ne (.call "clamped" [.v (.pv (.s 8)), .v (.pv (.s 13))]) (.pv (.s 10))]) [.ret (.c (.bl false))] [], .ite (.and (.cmp .isn (.pv (.s 13)) (.c .non)) [.cmp .eq (.call "clamped" [.v (.pv (.s 8)), .v (.bin .add (.pv (.s 13)) (.pv (.s 14)))]) (.pv (.s 10))]) [.ret (.c (.bl false))] [], .wipe [13, 14]], .wipe [9, 10, 12]], .wipe [1, 2, 3, 5, 7, 8]] : List S)) (fun v => v = [.at true .fro (.lst xs), .no, .no, .no, .no, .no, .no, .no, .no, .no, .no, .no, .no, .no, .no]) (xs := rngOf 0 (3 + min (xs.length : Int) 4)) (v := [.at true .fro (.lst xs), .no, .no, .no, .no, .no, .no, .no, .no, .no, .no, .no, .no, .no, .no]) (by
      rintro y hy v rfl
      obtain ⟨k, hk, rfl⟩ := List.mem_map.mp hy
      have e := out_body ns exs k
      refine ⟨[.at true .fro (.lst xs), sA (.int (k : Int)), .no, .no, .no, .no, .no, .no, .no, .no, .no, .no, .no, .no, .no], _, ?_, e, rfl⟩
      simp [Q.run, Q.start, ebs, lev_s, lev_e, stepS, stepE, getP, putP, recvOk, evv, evs, evss, evt, evAnd, evOr, evas, evo, evc, params, back, ioOf, setIo, setNs, setN_eq, fr_no, fr_at, asgT, asgTs, b_add, b_sub, c_eq, c_ne, c_lt, c_le, c_gt, c_ge, c_is, c_isn, c_eqo, isNon_oE, c_eqB, c_neB, c_eqNN, Q.slc, isNon_non, isNon_int, isNon_tup, isNon_lst, outs, leaf, mostLen, isiOne, tyOf, intsOf, boolsOf, Fs.sh']) rfl
  have m4 : T26.fn "joined" = some (runF T11 1 N_joined.length B_joined) := by kernel_rfl
  have m9 : T26.fn "_law_same" = some (Fsame 4) := by kernel_rfl
  have j1 := e_joined true [] (by simp)
  have j2 := e_joined false [] (by simp)
  have j3 := e_joined true [((some 2, 5, some 2), true)] (by simp [okC])
  have j1 : runF T11 1 N_joined.length B_joined [(.sh, .lst [])] = some (.sh, .tup [.non, .int 0, .non], []) := j1
  have j2 : runF T11 1 N_joined.length B_joined [(.sh, .tup [])] = some (.sh, .tup [.non, .int 0, .non], []) := j2
  have j3 : runF T11 1 N_joined.length B_joined [(.sh, .lst [.tup [.int 2, .int 5, .int 2]])] = some (.sh, .tup [.int 2, .int 0, .int 2], []) := j3
  have sm := same_eq (k := 4) (a := .lst [.tup [.non, .int 0, .non], .tup [.non, .int 0, .non], .tup [.int 2, .int 0, .int 2]]) rfl
  refine run_rt (v' := [.at true .fro (.lst xs), .no, .no, .no, .no, .no, .no, .no, .no, .no, .no, .no, .no, .no, .no]) ?_ rfl
  refine ebs_nx (v' := [.at true .fro (.lst xs), .no, .no, .no, .no, .no, .no, .no, .no, .no, .no, .no, .no, .no, .no]) ?_ (ebs_rt ?_)
  · rw [show Q.start N_law.length [(.fro, .lst xs)] = [.at true .fro (.lst xs), .no, .no, .no, .no, .no, .no, .no, .no, .no, .no, .no, .no, .no, .no] from rfl, lev_s]
    simp only [stepS]
    rw [show evi (lev T26 23).e (.rng [.bin .add (.c (.int 3)) (.blt .min [.olen (.s 0), .c (.int 4)])]) [.at true .fro (.lst xs), .no, .no, .no, .no, .no, .no, .no, .no, .no, .no, .no, .no, .no, .no] = some (rngOf 0 (3 + min (xs.length : Int) 4), [.at true .fro (.lst xs), .no, .no, .no, .no, .no, .no, .no, .no, .no, .no, .no, .no, .no, .no]) from ?_]
    · exact hv'
    · have hb : -(2 ^ 62) ≤ (3 + min (xs.length : Int) 4) ∧ (3 + min (xs.length : Int) 4) ≤ 16777216 := by omega
      simp only [evi]
      rw [show evs (lev T26 23).e [.bin .add (.c (.int 3)) (.blt .min [.olen (.s 0), .c (.int 4)])] [.at true .fro (.lst xs), .no, .no, .no, .no, .no, .no, .no, .no, .no, .no, .no, .no, .no, .no] = some ([.int (3 + min (xs.length : Int) 4)], [.at true .fro (.lst xs), .no, .no, .no, .no, .no, .no, .no, .no, .no, .no, .no, .no, .no, .no]) by simp [Q.run, Q.start, ebs, lev_s, lev_e, stepS, stepE, getP, putP, recvOk, evv, evs, evss, evt, evAnd, evOr, evas, evo, evc, params, back, ioOf, setIo, setNs, setN_eq, fr_no, fr_at, asgT, asgTs, b_add, b_sub, c_eq, c_ne, c_lt, c_le, c_gt, c_ge, c_is, c_isn, c_eqo, isNon_oE, c_eqB, c_neB, c_eqNN, Q.slc, isNon_non, isNon_int, isNon_tup, isNon_lst, outs, leaf, mostLen, isiOne, tyOf, intsOf, boolsOf, Fs.sh', b_min]]
      simp only []
      rw [if_pos hb]
  · simp [Q.run, Q.start, ebs, lev_s, lev_e, stepS, stepE, getP, putP, recvOk, evv, evs, evss, evt, evAnd, evOr, evas, evo, evc, params, back, ioOf, setIo, setNs, setN_eq, fr_no, fr_at, asgT, asgTs, b_add, b_sub, c_eq, c_ne, c_lt, c_le, c_gt, c_ge, c_is, c_isn, c_eqo, isNon_oE, c_eqB, c_neB, c_eqNN, Q.slc, isNon_non, isNon_int, isNon_tup, isNon_lst, outs, leaf, mostLen, isiOne, tyOf, intsOf, boolsOf, Fs.sh', m4, m9, j1, j2, j3, sm]
end K

set_option Elab.async false
set_option linter.all false
set_option maxRecDepth 100000
set_option maxHeartbeats 4000000
namespace K
open PySem Q L2
def clK (K : PySem.W.Frag) : Nat → Addr × List Str
  | _ => (0, [])
theorem rps_ints {M : Mw} {H : Hp} (ns : List Int) : Rps M H (ns.map V.int) (ns.map D.int) := by
  induction ns with
  | nil => exact .nil
  | cons n ns ih => exact .cons (.int n) ih
theorem sep_nil : Sep [[]] := by
  intro i j f g b hi _ hb
  have : f ∈ [([] : List Addr)] := List.mem_of_getElem? hi
  simp at this
  rw [this] at hb; cases hb
theorem mf_nil {H : Hp} : ∀ b, MF [[]] b → H b = none := by
  intro b h
  obtain ⟨f, hf, hb⟩ := h
  simp at hf
  rw [hf] at hb; cases hb
theorem rs_true {M : Mw} {H1 H : Hp} {u : V} {f : List Addr} (r : RS M H1 H .sh u (.bl true) f) : u = .bl true := by
  obtain ⟨r, _⟩ := r
  cases r
  rfl
section
variable {P : Program} {w : World} {K : PySem.W.Frag} {h : Heap} {mg : Str → Option Value} {f : Addr}
theorem gl_ok (X : K.In h) (G : h.Ns mainGlobals mg) (c : He.SaysD faL fnL K) (tb : exL K = true) : ∀ x d, T0.gl x = some d → ∃ v u, mg x = some u ∧ RelV v u ∧ ∀ H, Rp ⟨K, P, w, clK K⟩ H v d := by
  intro x d hx
  simp only [exL, Bool.and_eq_true] at tb
  have hx' : (if x = ("STAYING" : Str) then some (.tup [.non, .int (0), .non] : D) else none) = some d := hx
  split at hx'
  · rename_i e; subst e; cases hx'
    exact ⟨.ref (He.ga K "STAYING"), .ref (He.ga K "STAYING"), He.glo_ok X G (c.fact 21 (f := .glo "STAYING") rfl), rfl, fun H => .tup (He.tupB_ok tb H) (by decide) (.cons .non (.cons (.int _) (.cons .non .nil)))⟩
  · cases hx'
theorem fld_ok (X : K.In h) (G : h.Ns mainGlobals mg) (c : He.SaysD faL fnL K) : ∀ (k j : Nat) (f : Str), (T0.cl k).fs[j]? = some f → Cls K (clK K k).1 ∧ NoAttr K (clK K k).1 f := by
  intro k j f hj
  match k, hj with
  | n + 0, hj => exact absurd hj (by intro z; cases z)
theorem free_all (X : K.In h) (G : h.Ns mainGlobals mg) (c : He.SaysD faL fnL K) : ∀ y ∈ bltNames, mg y = none := by
  intro y hy
  simp only [bltNames, List.mem_cons, List.not_mem_nil, or_false] at hy
  rcases hy with rfl | rfl | rfl | rfl | rfl | rfl | rfl | rfl | rfl | rfl | rfl | rfl | rfl | rfl | rfl | rfl | rfl | rfl | rfl | rfl
  · exact He.free_ok X G (c.fact 22 (f := .free "len") rfl)
  · exact He.free_ok X G (c.fact 23 (f := .free "int") rfl)
  · exact He.free_ok X G (c.fact 24 (f := .free "min") rfl)
  · exact He.free_ok X G (c.fact 25 (f := .free "max") rfl)
  · exact He.free_ok X G (c.fact 26 (f := .free "abs") rfl)
  · exact He.free_ok X G (c.fact 27 (f := .free "list") rfl)
  · exact He.free_ok X G (c.fact 28 (f := .free "tuple") rfl)
  · exact He.free_ok X G (c.fact 29 (f := .free "all") rfl)
  · exact He.free_ok X G (c.fact 30 (f := .free "any") rfl)
  · exact He.free_ok X G (c.fact 31 (f := .free "sum") rfl)
  · exact He.free_ok X G (c.fact 32 (f := .free "sorted") rfl)
  · exact He.free_ok X G (c.fact 33 (f := .free "isinstance") rfl)
  · exact He.free_ok X G (c.fact 34 (f := .free "range") rfl)
  · exact He.free_ok X G (c.fact 35 (f := .free "zip") rfl)
  · exact He.free_ok X G (c.fact 36 (f := .free "enumerate") rfl)
  · exact He.free_ok X G (c.fact 37 (f := .free "bool") rfl)
  · exact He.free_ok X G (c.fact 38 (f := .free "str") rfl)
  · exact He.free_ok X G (c.fact 39 (f := .free "dict") rfl)
  · exact He.free_ok X G (c.fact 40 (f := .free "set") rfl)
  · exact He.free_ok X G (c.fact 41 (f := .free "repr") rfl)
theorem md0 {base : Heap} (X : K.In h) (G : h.Ns mainGlobals mg) (c : He.SaysD faL fnL K) (tb : exL K = true) : Md P w K mg base (clK K) T0 0 := by
  refine ⟨free_all X G c, gl_ok X G c tb, fun _ _ z => (by cases z), fun k => ?_, fun k => ?_, fld_ok X G c, fun _ _ _ z => (by cases z), fun _ _ _ _ _ z => (by cases z), fun _ _ z => (by cases z)⟩
  · match k with

    | n + 0 => rfl
  · match k with

    | n + 0 => exact ⟨List.nodup_nil, (by decide : (0 : Nat) < 1000)⟩
theorem facts (X : K.In h) (G : h.Ns mainGlobals mg) (hfa : mg ("law" : Str) = some (.ref f)) (c : He.SaysD faL fnL K) (tb : exL K = true) :
    ∃ fd : FuncData, (∀ (s : Shared) (v : Value), BindsTo s fd ⟨[v], []⟩ [("_law_script", v)]) ∧ ∀ base : Heap, K.In base → base.Ns mainGlobals mg → FnG true P w K mg base CX0 25 f fd ["_law_script"] (spOf ⟨K, P, w, clK K⟩ (runF T26 1 N_law.length B_law)) := by
  obtain ⟨fd_is_integer, F_dis_integer⟩ := c.def_ 0 (d := d_is_integer) rfl
  have b_is_integer : Binds K fd_is_integer _ [] := FunD.bindsN (ps := N_is_integer.take 1) F_dis_integer fun _ _ _ _ _ _ us hl => match us, hl with | [_], _ => rfl
  have g_is_integer := He.glo_ok X G (c.fact 0 (f := .glo "is_integer") rfl)
  obtain ⟨fd_is_list, F_dis_list⟩ := c.def_ 1 (d := d_is_list) rfl
  have b_is_list : Binds K fd_is_list _ [] := FunD.bindsN (ps := N_is_list.take 1) F_dis_list fun _ _ _ _ _ _ us hl => match us, hl with | [_], _ => rfl
  have g_is_list := He.glo_ok X G (c.fact 1 (f := .glo "is_list") rfl)
  obtain ⟨fd_is_end, F_dis_end⟩ := c.def_ 2 (d := d_is_end) rfl
  have b_is_end : Binds K fd_is_end _ [] := FunD.bindsN (ps := N_is_end.take 1) F_dis_end fun _ _ _ _ _ _ us hl => match us, hl with | [_], _ => rfl
  have g_is_end := He.glo_ok X G (c.fact 2 (f := .glo "is_end") rfl)
  obtain ⟨fd_is_clamp, F_dis_clamp⟩ := c.def_ 3 (d := d_is_clamp) rfl
  have b_is_clamp : Binds K fd_is_clamp _ [] := FunD.bindsN (ps := N_is_clamp.take 1) F_dis_clamp fun _ _ _ _ _ _ us hl => match us, hl with | [_], _ => rfl
  have g_is_clamp := He.glo_ok X G (c.fact 3 (f := .glo "is_clamp") rfl)
  obtain ⟨fd_check_clamp, F_dcheck_clamp⟩ := c.def_ 4 (d := d_check_clamp) rfl
  have b_check_clamp : Binds K fd_check_clamp _ [] := FunD.bindsN (ps := N_check_clamp.take 1) F_dcheck_clamp fun _ _ _ _ _ _ us hl => match us, hl with | [_], _ => rfl
  have g_check_clamp := He.glo_ok X G (c.fact 4 (f := .glo "check_clamp") rfl)
  obtain ⟨fd_check_number, F_dcheck_number⟩ := c.def_ 5 (d := d_check_number) rfl
  have b_check_number : Binds K fd_check_number _ [] := FunD.bindsN (ps := N_check_number.take 1) F_dcheck_number fun _ _ _ _ _ _ us hl => match us, hl with | [_], _ => rfl
  have g_check_number := He.glo_ok X G (c.fact 5 (f := .glo "check_number") rfl)
  obtain ⟨fd_made, F_dmade⟩ := c.def_ 6 (d := d_made) rfl
  have b_made : Binds K fd_made _ [] := FunD.bindsN (ps := N_made.take 2) F_dmade fun _ _ _ _ _ _ us hl => match us, hl with | [_, _], _ => rfl
  have g_made := He.glo_ok X G (c.fact 6 (f := .glo "made") rfl)
  obtain ⟨fd_form_of, F_dform_of⟩ := c.def_ 7 (d := d_form_of) rfl
  have b_form_of : Binds K fd_form_of _ [] := FunD.bindsN (ps := N_form_of.take 1) F_dform_of fun _ _ _ _ _ _ us hl => match us, hl with | [_], _ => rfl
  have g_form_of := He.glo_ok X G (c.fact 7 (f := .glo "form_of") rfl)
  obtain ⟨fd_clamp_behind, F_dclamp_behind⟩ := c.def_ 8 (d := d_clamp_behind) rfl
  have b_clamp_behind : Binds K fd_clamp_behind _ [] := FunD.bindsN (ps := N_clamp_behind.take 2) F_dclamp_behind fun _ _ _ _ _ _ us hl => match us, hl with | [_, _], _ => rfl
  have g_clamp_behind := He.glo_ok X G (c.fact 8 (f := .glo "clamp_behind") rfl)
  obtain ⟨fd_joined_of, F_djoined_of⟩ := c.def_ 9 (d := d_joined_of) rfl
  have b_joined_of : Binds K fd_joined_of _ [] := FunD.bindsN (ps := N_joined_of.take 1) F_djoined_of fun _ _ _ _ _ _ us hl => match us, hl with | [_], _ => rfl
  have g_joined_of := He.glo_ok X G (c.fact 9 (f := .glo "joined_of") rfl)
  obtain ⟨fd_clamped, F_dclamped⟩ := c.def_ 10 (d := d_clamped) rfl
  have b_clamped : Binds K fd_clamped _ [] := FunD.bindsN (ps := N_clamped.take 2) F_dclamped fun _ _ _ _ _ _ us hl => match us, hl with | [_, _], _ => rfl
  have g_clamped := He.glo_ok X G (c.fact 10 (f := .glo "clamped") rfl)
  obtain ⟨fd_joined, F_djoined⟩ := c.def_ 11 (d := d_joined) rfl
  have b_joined : Binds K fd_joined _ [] := FunD.bindsN (ps := N_joined.take 1) F_djoined fun _ _ _ _ _ _ us hl => match us, hl with | [_], _ => rfl
  have g_joined := He.glo_ok X G (c.fact 11 (f := .glo "joined") rfl)
  obtain ⟨fd_shown, F_dshown⟩ := c.def_ 12 (d := d_shown) rfl
  have b_shown : Binds K fd_shown _ [] := FunD.bindsN (ps := N_shown.take 2) F_dshown fun _ _ _ _ _ _ us hl => match us, hl with | [_, _], _ => rfl
  have g_shown := He.glo_ok X G (c.fact 12 (f := .glo "shown") rfl)
  obtain ⟨fd_l_source, F_dl_source⟩ := c.def_ 13 (d := d_l_source) rfl
  have b_l_source : Binds K fd_l_source _ [] := FunD.bindsN (ps := N_l_source.take 2) F_dl_source fun _ _ _ _ _ _ us hl => match us, hl with | [_, _], _ => rfl
  have g_l_source := He.glo_ok X G (c.fact 13 (f := .glo "_law_source") rfl)
  obtain ⟨fd_l_draw, F_dl_draw⟩ := c.def_ 14 (d := d_l_draw) rfl
  have b_l_draw : Binds K fd_l_draw _ [] := FunD.bindsN (ps := N_l_draw.take 2) F_dl_draw fun _ _ _ _ _ _ us hl => match us, hl with | [_, _], _ => rfl
  have g_l_draw := He.glo_ok X G (c.fact 14 (f := .glo "_law_draw") rfl)
  obtain ⟨fd_l_pick, F_dl_pick⟩ := c.def_ 15 (d := d_l_pick) rfl
  have b_l_pick : Binds K fd_l_pick _ [] := FunD.bindsN (ps := N_l_pick.take 2) F_dl_pick fun _ _ _ _ _ _ us hl => match us, hl with | [_, _], _ => rfl
  have g_l_pick := He.glo_ok X G (c.fact 15 (f := .glo "_law_pick") rfl)
  obtain ⟨fd_l_same, F_dl_same⟩ := c.def_ 16 (d := d_l_same) rfl
  have b_l_same : Binds K fd_l_same _ [] := FunD.bindsN (ps := N_l_same.take 2) F_dl_same fun _ _ _ _ _ _ us hl => match us, hl with | [_, _], _ => rfl
  have g_l_same := He.glo_ok X G (c.fact 16 (f := .glo "_law_same") rfl)
  obtain ⟨fd_l_clamp, F_dl_clamp⟩ := c.def_ 17 (d := d_l_clamp) rfl
  have b_l_clamp : Binds K fd_l_clamp _ [] := FunD.bindsN (ps := N_l_clamp.take 2) F_dl_clamp fun _ _ _ _ _ _ us hl => match us, hl with | [_, _], _ => rfl
  have g_l_clamp := He.glo_ok X G (c.fact 17 (f := .glo "_law_clamp") rfl)
  obtain ⟨fd_l_clamped, F_dl_clamped⟩ := c.def_ 18 (d := d_l_clamped) rfl
  have b_l_clamped : Binds K fd_l_clamped _ [] := FunD.bindsN (ps := N_l_clamped.take 2) F_dl_clamped fun _ _ _ _ _ _ us hl => match us, hl with | [_, _], _ => rfl
  have g_l_clamped := He.glo_ok X G (c.fact 18 (f := .glo "_law_clamped") rfl)
  obtain ⟨fd_l_is_form, F_dl_is_form⟩ := c.def_ 19 (d := d_l_is_form) rfl
  have b_l_is_form : Binds K fd_l_is_form _ [] := FunD.bindsN (ps := N_l_is_form.take 1) F_dl_is_form fun _ _ _ _ _ _ us hl => match us, hl with | [_], _ => rfl
  have g_l_is_form := He.glo_ok X G (c.fact 19 (f := .glo "_law_is_form") rfl)
  obtain ⟨fd_law, F_dlaw⟩ := c.def_ 20 (d := d_law) rfl
  have e := hfa.symm.trans (He.glo_ok X G (c.fact 20 (f := .glo "law") rfl))
  cases e
  have b := FunD.bindsA (ps := ["_law_script"]) F_dlaw fun _ _ _ _ _ _ us hl => match us, hl with | [_], _ => rfl
  refine ⟨fd_law, fun s v => b s [v] rfl, fun base _ _ => ?_⟩
  have m0 : Md P w K mg base (clK K) T0 0 := md0 X G c tb
  have m1 : Md P w K mg base (clK K) T1 1 := Md.add m0 (fn_ok m0 F_dis_integer sc_is_integer rfl ck_is_integer (r_is_integer T0) (by decide)) (Nat.le_refl _) g_is_integer F_dis_integer.kp b_is_integer
  have m2 : Md P w K mg base (clK K) T2 2 := Md.add m1 (fn_ok m1 F_dis_list sc_is_list rfl ck_is_list (r_is_list T1) (by decide)) (Nat.le_refl _) g_is_list F_dis_list.kp b_is_list
  have m3 : Md P w K mg base (clK K) T3 3 := Md.add m2 (fn_ok m2 F_dis_end sc_is_end rfl ck_is_end (r_is_end T2 rfl) (by decide)) (Nat.le_refl _) g_is_end F_dis_end.kp b_is_end
  have m4 : Md P w K mg base (clK K) T4 4 := Md.add m3 (fn_ok m3 F_dis_clamp sc_is_clamp rfl ck_is_clamp (r_is_clamp T3 rfl rfl rfl) (by decide)) (Nat.le_refl _) g_is_clamp F_dis_clamp.kp b_is_clamp
  have m5 : Md P w K mg base (clK K) T5 5 := Md.add m4 (fn_ok m4 F_dcheck_clamp sc_check_clamp rfl ck_check_clamp (r_check_clamp T4 rfl) (by decide)) (Nat.le_refl _) g_check_clamp F_dcheck_clamp.kp b_check_clamp
  have m6 : Md P w K mg base (clK K) T6 6 := Md.add m5 (fn_ok m5 F_dcheck_number sc_check_number rfl ck_check_number (r_check_number T5 rfl) (by decide)) (Nat.le_refl _) g_check_number F_dcheck_number.kp b_check_number
  have m7 : Md P w K mg base (clK K) T7 7 := Md.add m6 (fn_ok m6 F_dmade sc_made rfl ck_made (r_made T6) (by decide)) (Nat.le_refl _) g_made F_dmade.kp b_made
  have m8 : Md P w K mg base (clK K) T8 8 := Md.add m7 (fn_ok m7 F_dform_of sc_form_of rfl ck_form_of (r_form_of T7) (by decide)) (Nat.le_refl _) g_form_of F_dform_of.kp b_form_of
  have m9 : Md P w K mg base (clK K) T9 9 := Md.add m8 (fn_ok m8 F_dclamp_behind sc_clamp_behind rfl ck_clamp_behind (r_clamp_behind T8 rfl rfl) (by decide)) (Nat.le_refl _) g_clamp_behind F_dclamp_behind.kp b_clamp_behind
  have m10 : Md P w K mg base (clK K) T10 10 := Md.add m9 (fn_ok m9 F_djoined_of sc_joined_of rfl ck_joined_of (r_runF T9 1 N_joined_of.length B_joined_of) (by decide)) (Nat.le_refl _) g_joined_of F_djoined_of.kp b_joined_of
  have m11 : Md P w K mg base (clK K) T11 11 := Md.add m10 (fn_ok m10 F_dclamped sc_clamped rfl ck_clamped (r_clamped T10 rfl rfl rfl) (by decide)) (Nat.le_refl _) g_clamped F_dclamped.kp b_clamped
  have m12 : Md P w K mg base (clK K) T12 12 := Md.add m11 (fn_ok m11 F_djoined sc_joined rfl ck_joined (r_runF T11 1 N_joined.length B_joined) (by decide)) (Nat.le_refl _) g_joined F_djoined.kp b_joined
  have m13 : Md P w K mg base (clK K) T13 13 := Md.add m12 (fn_ok m12 F_dshown sc_shown rfl ck_shown (r_shown T12 rfl rfl rfl rfl) (by decide)) (Nat.le_refl _) g_shown F_dshown.kp b_shown
  have m14 : Md P w K mg base (clK K) T14 14 := Md.add m13 (fn_ok m13 F_dl_source sc_l_source rfl ck_l_source (r_l_source T13) (by decide)) (Nat.le_refl _) g_l_source F_dl_source.kp b_l_source
  have m15 : Md P w K mg base (clK K) T15 15 := Md.add m14 (fn_ok m14 F_dl_draw sc_l_draw rfl ck_l_draw (r_l_draw T14) (by decide)) (Nat.le_refl _) g_l_draw F_dl_draw.kp b_l_draw
  have m16 : Md P w K mg base (clK K) T16 16 := Md.add m15 (fn_ok m15 F_dl_pick sc_l_pick rfl ck_l_pick (r_l_pick T15 rfl) (by decide)) (Nat.le_refl _) g_l_pick F_dl_pick.kp b_l_pick
  have m17 : Md P w K mg base (clK K) T17 17 := Md.add m16 (fn_ok m16 F_dl_same sc_l_same rfl ck_l_same (r_l_same0 T16) (by decide)) (Nat.le_refl _) g_l_same F_dl_same.kp b_l_same
  have m18 : Md P w K mg base (clK K) T18 18 := Md.add m17 (fn_ok m17 F_dl_same sc_l_same rfl ck_l_same (r_l_same T17 0 rfl) (by decide)) (Nat.le_refl _) g_l_same F_dl_same.kp b_l_same
  have m19 : Md P w K mg base (clK K) T19 19 := Md.add m18 (fn_ok m18 F_dl_same sc_l_same rfl ck_l_same (r_l_same T18 1 rfl) (by decide)) (Nat.le_refl _) g_l_same F_dl_same.kp b_l_same
  have m20 : Md P w K mg base (clK K) T20 20 := Md.add m19 (fn_ok m19 F_dl_same sc_l_same rfl ck_l_same (r_l_same T19 2 rfl) (by decide)) (Nat.le_refl _) g_l_same F_dl_same.kp b_l_same
  have m21 : Md P w K mg base (clK K) T21 21 := Md.add m20 (fn_ok m20 F_dl_same sc_l_same rfl ck_l_same (r_l_same T20 3 rfl) (by decide)) (Nat.le_refl _) g_l_same F_dl_same.kp b_l_same
  have m22 : Md P w K mg base (clK K) T22 22 := Md.add m21 (fn_ok m21 F_dl_clamp sc_l_clamp rfl ck_l_clamp (r_runF T21 2 N_l_clamp.length B_l_clamp) (by decide)) (Nat.le_refl _) g_l_clamp F_dl_clamp.kp b_l_clamp
  have m23 : Md P w K mg base (clK K) T23 23 := Md.add m22 (fn_ok m22 F_dl_clamped sc_l_clamped rfl ck_l_clamped (r_runF T22 2 N_l_clamped.length B_l_clamped) (by decide)) (Nat.le_refl _) g_l_clamped F_dl_clamped.kp b_l_clamped
  have m24 : Md P w K mg base (clK K) T24 24 := Md.add m23 (fn_ok m23 F_dl_is_form sc_l_is_form rfl ck_l_is_form (r_runF T23 1 N_l_is_form.length B_l_is_form) (by decide)) (Nat.le_refl _) g_l_is_form F_dl_is_form.kp b_l_is_form
  have m25 : Md P w K mg base (clK K) T25 24 := Md.guard m24 rfl
  have m26 : Md P w K mg base (clK K) T26 24 := Md.addX m25 fun A gs rm => repr_ok (free_all X G c "repr" (by decide)) (gs rfl) (rm.mono (Nat.zero_le _))
  exact fn_ok m26 F_dlaw sc_law rfl ck_law (r_runF T26 1 N_law.length B_law) (by decide)
end
end K
open PySem PySem.W PySem.Calls PyProof.Rows
theorem PySem.Challenge.cw_heldnotes_k60_clamps_joined_holds : PySem.Challenge.rw_heldnotes_k60_clamps_joined.Holds := by
  w_on; o_law
  refine HandSHeadRun.head_any (r := OpenLaw.row PySem.Challenge.rw_heldnotes_k60_clamps_joined) (q := view (OpenLaw.row PySem.Challenge.rw_heldnotes_k60_clamps_joined).prog [28]) (H := K.hk) (ob := K.ob) (M := 6000) (loose := K.loose) (d := HandSHeadRun.topDef (OpenLaw.row PySem.Challenge.rw_heldnotes_k60_clamps_joined).prog 28) (kwd := []) K.ob_eq
    (by kernel_rfl) (fun s => by kernel_rfl) K.runT (by kernel_rfl) (by kernel_rfl) (by kernel_rfl) (by rfl) (by first | assumption | decide +kernel) (by decide +kernel) ⟨rfl, rfl, rfl, rfl, rfl, by decide +kernel⟩ ?hw ?hc
  case hw => w_witness2
  case hc =>
    refine Q.walk_ofG (l := PySem.Challenge.rw_heldnotes_k60_clamps_joined) (n := 63) (k := 25) (x := "_law_script") rfl (by decide) (by kernel_rfl) ⟨rfl, by decide, by decide⟩ ?F
    intro w mg fa h Y G hmg0
    obtain ⟨K, KX, c⟩ := Y
    have hmg : mg ("law" : PySem.Str) = some (.ref fa) := by
      have e : (HandSHeadRun.topDef (OpenLaw.row PySem.Challenge.rw_heldnotes_k60_clamps_joined).prog 28).name = ("law" : PySem.Str) := by kernel_rfl
      rw [← e]
      exact hmg0
    obtain ⟨fd, hb, hF⟩ := _root_.K.facts (P := (PySem.Challenge.rw_heldnotes_k60_clamps_joined).prog) (w := w) KX G hmg c.t.d c.more
    refine ⟨K, fd, Q.spOf ⟨K, (PySem.Challenge.rw_heldnotes_k60_clamps_joined).prog, w, _root_.K.clK K⟩ _, KX, hb, fun H a ns hl _ hS => ?_, hF⟩
    refine ⟨[(.fro, .lst (ns.map .int))], .sh, .bl true, [(.fro, .lst (ns.map .int))], H, [[]], fun _ _ z => z, .io (by intro z; cases z) ?_ .nil, ?_, ?_, ?_, ?_⟩
    · exact ⟨a, ns.map L2.V.int, ns.map Q.D.int, rfl, rfl, rfl, hS, _root_.K.rps_ints ns, by simp only [List.length_map]; exact Nat.le_trans hl (by decide)⟩
    · exact _root_.K.sep_nil
    · exact _root_.K.mf_nil
    · exact _root_.K.sp_law ns
    · intro u H1' H' fs' f _ _ _ r _ _ _
      exact _root_.K.rs_true r
