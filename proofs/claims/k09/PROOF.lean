import PyProof.Rows.All
import Wide.All
import OpenK.AllK
import Wide.FinOn
import PyProof.EqAt
import PyProof.EqKinds
import PyProof.TupleCall
import HandS.ForMost
import HandS.ForExc
import HandS.CallSlots
import HandS.TupAny
import HandS.Wide
import HandS.Deep
import HandS.IsInst
import HandS.Style
import HandS.Conv
import HandS.Walk
import HandS.More
import HandS.WordsExc
import HandS.ExcField
import HandS.TryMany
import HandS.RaiseMore
import HandS.ExcIs
import HandS.ExcSuper
import HandS.ExcInit
import KE.KExcSuper
import KE.KSuper
import HandS.Small
import HandS.Ends
import HandS.HeadEnd
import HandS.Head0
import HandS.Head1
import HandS.Head2
import HandS.HeadHook1
import HandS.HeadHook2
import HandS.Defaults
import PySem.Challenge.RW_mouldyard_k09_errors
section
set_option Elab.async false
set_option linter.all false
set_option maxRecDepth 100000
/-! Ev, part A: data, the small language, its evaluator. No program and no heap here. -/
namespace Ev
open PySem

/-! ### data -/
inductive D where
  | non | bl (b : Bool) | int (i : Int) | str (x : Str)
  | tup (l : List D) | lst (l : List D)
  | zst (l : List D)
  | dct (ks vs : List D)
  | ins (c : Nat) (vs : List D)
  | loc (n : Nat)
  | fn (n : Nat)
  deriving Inhabited
/-- a slot: nothing, a value, an object that this frame alone holds, one that is lent, an exception -/
inductive SL where
  | no | pu (d : D) | ow (d : D) | bo (d : D) | ex (c : Nat) (ds : List D)
  deriving Inhabited

mutual
/-- plain data to a depth -/
def D.ok : Nat → D → Bool
  | _, .non => true
  | _, .bl _ => true
  | _, .int _ => true
  | _, .str x => x.cps.all (· < 0x110000)
  | 0, .tup _ => false
  | n + 1, .tup l => D.okAll n l
  | 0, .lst _ => false
  | n + 1, .lst l => D.okAll n l
  | _, .zst _ => false
  | _, .dct _ _ => false
  | _, .ins _ _ => false
  | _, .loc _ => false
  | _, .fn _ => false
def D.okAll : Nat → List D → Bool
  | _, [] => true
  | n, d :: r => D.ok n d && D.okAll n r
end
mutual
/-- == of data (True is 1) -/
def D.eqb : D → D → Bool
  | .non, .non => true
  | .bl a, .bl b => a == b
  | .bl a, .int j => (if a then 1 else 0) == j
  | .int i, .bl b => i == (if b then 1 else 0)
  | .int i, .int j => i == j
  | .str x, .str y => x == y
  | .lst xs, .lst ys => D.eqbAll xs ys
  | .tup xs, .tup ys => D.eqbAll xs ys
  | _, _ => false
def D.eqbAll : List D → List D → Bool
  | [], [] => true
  | x :: xs, y :: ys => D.eqb x y && D.eqbAll xs ys
  | _, _ => false
end
mutual
def D.py : D → PyData
  | .non => .none
  | .bl b => .bool b
  | .int i => .int i
  | .str x => .str x
  | .tup l => .tuple (D.pyAll l)
  | .lst l => .list (D.pyAll l)
  | .zst _ => .dict []
  | .dct _ _ => .dict []
  | .ins _ _ => .dict []
  | .loc _ => .dict []
  | .fn _ => .dict []
def D.pyAll : List D → List PyData
  | [] => []
  | d :: r => D.py d :: D.pyAll r
end

/-! ### the language -/
inductive Bop where
  | add | sub | mul | fdiv | mod | pow
  deriving DecidableEq
inductive Cop where
  | eq | ne | lt | le | gt | ge | isN | notN | inn | nin
  deriving DecidableEq
/-- built-ins by values -/
inductive Bi where
  | len | tuple | list | sorted | sum | sum2 | max1 | min1 | max2 | min2 | abs | int | str | all | any | dict | repr | lenset | sortedset | sortedk (f : Nat)
  deriving DecidableEq
inductive Bm where
  | pop | index | get | count | join | split | values
  deriving DecidableEq
inductive Ty where
  | int | bool | str | list | tuple | cls (c : Nat) | exc (c : Nat) | bexc (x : String)
  deriving DecidableEq
inductive Tg where
  | name (i : Nat) | nil | cons (t : Tg) (r : Tg)
  deriving DecidableEq
mutual
inductive E where
  | var (i : Nat)
  | int (i : Int) | str (x : Str) | bl (b : Bool) | non
  | glob (k : Nat) | fnv (f : Nat)
  | bin (op : Bop) (a b : E)
  | cmp (op : Cop) (a b : E)
  | chain (o1 o2 : Cop) (a b c : E)
  | and (a b : E) | or (a b : E) | not (a : E) | neg (a : E)
  | ite (c a b : E)
  | tup (es : Es) | lst (es : Es)
  | ix (a i : E) | sl (a : E) (lo hi : Eo) | rev (a : E)
  | fld (a : E) (f : Nat) | xfld (i : Nat) (f : Nat)
  | call (f : Nat) (es : Es) | callv (i : Nat) (es : Es) | meth (a : E) (m : Nat) (es : Es) | mk (c : Nat) (es : Es)
  | bi (b : Bi) (es : Es) | bm (m : Bm) (a : E) (es : Es)
  | isi (a : E) (t : List Ty)
  | comp (g : Tg) (own : List Nat) (it : It) (c : Eo) (e : E)
  | dic (ks vs : Es)
  | fstr (es : Es)
  | rngl (t : Bool) (it : It)
  | isx (i : Nat) (t : Ty) | xkw (c : Nat) (es : Es) (pm : List Nat) (f : Nat)
inductive Es where
  | nil | cons (e : E) (r : Es)
inductive Eo where
  | none | some (e : E)
inductive It where
  | seq (e : E) | rng1 (a : E) | rng2 (a b : E) | rng3 (a b c : E) | enum (a : E) | zip (a b : E) | items (a : E)
end
mutual
/-- statements -/
inductive S where
  | asg (i : Nat) (e : E)
  | asgM (i : Nat) (e : E)
  | asgL (i : Nat) (e : E)
  | asgT (g : Tg) (e : E)
  | asgP (g : Tg) (es : Es)
  | aug (i : Nat) (op : Bop) (e : E)
  | sto (i : Nat) (k e : E)
  | stf (i : Nat) (f : Nat) (e : E)
  | exp (e : E)
  | app (i : Nat) (e : E) | ext (i : Nat) (e : E) | insr (i : Nat) (k e : E)
  | ifs (c : E) (t f : Ss)
  | whl (c : E) (b : Ss)
  | for (g : Tg) (it : It) (b : Ss)
  | ret (e : E) | retN | retM (i : Nat)
  | raise (c : Nat) (es : Es)
  | tryx (b : Ss) (hs : Hs)
  | pass
  | frz (i : Nat) (s : S)
inductive Ss where
  | nil | cons (s : S) (r : Ss)
inductive Hs where
  | nil | cons (c : Nat) (x : Option Nat) (b : Ss) (r : Hs)
end

/-! ### outcomes -/
inductive RE (α : Type) where
  | ok (a : α) (h : List D) | exc (c : Nat) (ds : List D) (h : List D) | bad
inductive RC where
  | ok (d : D) (fr : Bool) (h : List D) | exc (c : Nat) (ds : List D) (h : List D) | bad
inductive RS where
  | nx (a : List SL) (h : List D) | ret (d : D) (fr : Bool) (h : List D) | exc (c : Nat) (ds : List D) (a : List SL) (h : List D) | bad
def RE.bind {α β : Type} (x : RE α) (f : α → List D → RE β) : RE β := match x with
  | .ok a h => f a h
  | .exc c ds h => .exc c ds h
  | .bad => .bad
@[simp] theorem RE.bind_ok {α β : Type} (a : α) (h : List D) (f : α → List D → RE β) : (RE.ok a h).bind f = f a h := rfl
@[simp] theorem RE.bind_exc {α β : Type} (c : Nat) (ds h : List D) (f : α → List D → RE β) : (RE.exc c ds h : RE α).bind f = .exc c ds h := rfl
@[simp] theorem RE.bind_bad {α β : Type} (f : α → List D → RE β) : (RE.bad : RE α).bind f = .bad := rfl
def RE.lift {α : Type} (o : Option α) (h : List D) : RE α := match o with
  | some a => .ok a h
  | none => .bad
@[simp] theorem RE.lift_some {α : Type} (a : α) (h : List D) : RE.lift (some a) h = .ok a h := rfl
@[simp] theorem RE.lift_none {α : Type} (h : List D) : RE.lift (none : Option α) h = .bad := rfl
/-- behind an expression, in a statement with slots a -/
def RE.thenS {α : Type} (x : RE α) (a : List SL) (f : α → List D → RS) : RS := match x with
  | .ok d h => f d h
  | .exc c ds h => .exc c ds a h
  | .bad => .bad
@[simp] theorem RE.thenS_ok {α : Type} (d : α) (h : List D) (a : List SL) (f : α → List D → RS) : (RE.ok d h).thenS a f = f d h := rfl
@[simp] theorem RE.thenS_exc {α : Type} (c : Nat) (ds h : List D) (a : List SL) (f : α → List D → RS) : (RE.exc c ds h : RE α).thenS a f = .exc c ds a h := rfl
@[simp] theorem RE.thenS_bad {α : Type} (a : List SL) (f : α → List D → RS) : (RE.bad : RE α).thenS a f = .bad := rfl
def RS.seq (x : RS) (f : List SL → List D → RS) : RS := match x with
  | .nx a h => f a h
  | y => y
@[simp] theorem RS.seq_nx (a : List SL) (h : List D) (f : List SL → List D → RS) : (RS.nx a h).seq f = f a h := rfl
@[simp] theorem RS.seq_ret (d : D) (fr : Bool) (h : List D) (f : List SL → List D → RS) : (RS.ret d fr h).seq f = .ret d fr h := rfl
@[simp] theorem RS.seq_exc (c : Nat) (ds h : List D) (a : List SL) (f : List SL → List D → RS) : (RS.exc c ds a h).seq f = .exc c ds a h := rfl
@[simp] theorem RS.seq_bad (f : List SL → List D → RS) : RS.bad.seq f = .bad := rfl

/-! ### operations by values -/
def mulOk (i j : Int) : Bool := decide (i.natAbs.log2 + j.natAbs.log2 < 1000000)
def divOk (j : Int) : Bool := decide (0 < j) && decide (j.natAbs.log2 < 9000)
def szOk (n : Nat) : Bool := decide (n ≤ 16777216)
def opB : Bop → D → D → Option D
  | .add, .int i, .int j => some (.int (i + j))
  | .add, .str x, .str y => if szOk (x.length + y.length) then some (.str (x ++ y)) else none
  | .add, .tup x, .tup y => if szOk (x.length + y.length) then some (.tup (x ++ y)) else none
  | .add, .lst x, .lst y => if szOk (x.length + y.length) then some (.lst (x ++ y)) else none
  | .sub, .int i, .int j => some (.int (i - j))
  | .mul, .int i, .int j => if mulOk i j then some (.int (i * j)) else none
  | .mul, .lst x, .int j => if szOk (x.length * j.toNat) && decide (j < 16777217) && decide (-16777217 < j) then some (.lst (List.replicate j.toNat x).flatten) else none
  | .fdiv, .int i, .int j => if divOk j then some (.int (i / j)) else none
  | .mod, .int i, .int j => if decide (0 < j) then some (.int (i % j)) else none
  | .pow, .int i, .int j => if decide (0 ≤ j) && decide (j ≤ 1000000) && decide (i.natAbs < 2 ^ 64) then some (.int (i ^ j.toNat)) else none
  | _, _, _ => none
def DEPTH : Nat := 50
def eqD (x y : D) : Option Bool := if x.ok DEPTH && y.ok DEPTH then some (x.eqb y) else none
/-- an item's place -/
def ixI (n : Nat) (i : Int) : Option Nat := if 0 ≤ i then (if i < n then some i.toNat else none) else if -(n : Int) ≤ i then some (i + n).toNat else none
/-- a key's place in a dict -/
def keyOk (x : D) : Bool := match x with
  | .lst _ => false
  | _ => x.ok 8
def keyIx (ks : List D) (k : D) : Option Nat := ks.findIdx? fun y => y.eqb k
def cmpI (p : Int → Int → Bool) : D → D → Option Bool
  | .int i, .int j => some (p i j)
  | _, _ => none
def isNonD : D → D → Option Bool
  | .non, .non => some true
  | _, .non => some false
  | _, _ => none
def inD : D → D → Option Bool
  | x, .lst l => if x.ok DEPTH && D.okAll DEPTH l then some (l.any fun y => y.eqb x) else none
  | x, .tup l => if x.ok DEPTH && D.okAll DEPTH l then some (l.any fun y => y.eqb x) else none
  | x, .dct ks _ => if keyOk x then some (keyIx ks x).isSome else none
  | .str x, .str z => match x.cps.toList with
    | [c] => some (decide (c ∈ z.cps.toList))
    | _ => none
  | _, _ => none
def opC : Cop → D → D → Option Bool
  | .eq, x, y => eqD x y
  | .ne, x, y => (eqD x y).map (!·)
  | .lt, x, y => cmpI (fun i j => decide (i < j)) x y
  | .le, x, y => cmpI (fun i j => decide (i ≤ j)) x y
  | .gt, x, y => cmpI (fun i j => decide (j < i)) x y
  | .ge, x, y => cmpI (fun i j => decide (j ≤ i)) x y
  | .isN, x, y => isNonD x y
  | .notN, x, y => (isNonD x y).map (!·)
  | .inn, x, y => inD x y
  | .nin, x, y => (inD x y).map (!·)
def opIx : D → D → Option D
  | .lst l, .int i => (ixI l.length i).bind fun j => l[j]?
  | .tup l, .int i => (ixI l.length i).bind fun j => l[j]?
  | .zst l, .int i => (ixI l.length i).bind fun j => l[j]?
  | .str z, .int i => if szOk z.length then (ixI z.cps.toList.length i).bind fun j => (z.cps.toList[j]?).map fun c => .str ⟨#[c]⟩ else none
  | .dct ks vs, k => if keyOk k then (keyIx ks k).bind fun j => vs[j]? else none
  | _, _ => none
/-- a slice's ends -/
def slI (n dflt : Nat) : Option Int → Nat
  | none => dflt
  | some i => if i < 0 then (i + n).toNat else min i.toNat n
def cut {α : Type} (l : List α) (lo hi : Option Int) : List α := (l.drop (slI l.length 0 lo)).take (slI l.length l.length hi - slI l.length 0 lo)
def opSl : D → Option Int → Option Int → Option D
  | .lst l, lo, hi => some (.lst (cut l lo hi))
  | .tup l, lo, hi => some (.tup (cut l lo hi))
  | .str z, lo, hi => if szOk z.length then some (.str ⟨(cut z.cps.toList lo hi).toArray⟩) else none
  | _, _, _ => none
def opRev : D → Option D
  | .lst l => some (.lst l.reverse)
  | _ => none
def intsD : List D → Option (List Int)
  | [] => some []
  | .int i :: r => (intsD r).map (i :: ·)
  | _ => none
def boolsD : List D → Option (List Bool)
  | [] => some []
  | .bl b :: r => (boolsD r).map (b :: ·)
  | _ => none
def rowOf : D → Option (List D)
  | .lst l => some l
  | .tup l => some l
  | _ => none
def maxI : List Int → Option Int
  | [] => none
  | i :: r => some (r.foldl max i)
def minI : List Int → Option Int
  | [] => none
  | i :: r => some (r.foldl min i)
def opBi : Bi → List D → Option D
  | .len, [.lst l] => some (.int l.length)
  | .len, [.tup l] => some (.int l.length)
  | .len, [.zst l] => some (.int l.length)
  | .len, [.dct ks _] => some (.int ks.length)
  | .len, [.str x] => if szOk x.length then some (.int x.length) else none
  | .tuple, [.lst l] => some (.tup l)
  | .tuple, [.tup l] => some (.tup l)
  | .list, [.lst l] => some (.lst l)
  | .list, [.tup l] => some (.lst l)
  | .list, [.dct ks _] => some (.lst ks)
  | .sum, [.lst l] => (intsD l).map fun ns => .int ns.sum
  | .sum, [.tup l] => (intsD l).map fun ns => .int ns.sum
  | .max1, [.lst l] => ((intsD l).bind maxI).map .int
  | .min1, [.lst l] => ((intsD l).bind minI).map .int
  | .max2, [.int i, .int j] => some (.int (if j > i then j else i))
  | .min2, [.int i, .int j] => some (.int (if j < i then j else i))
  | .repr, [d] => if d.ok DEPTH && d.py.showable && szOk d.py.shown.length then some (.str d.py.shown) else none
  | .abs, [.int i] => some (.int (if i < 0 then -i else i))
  | .int, [.int i] => some (.int i)
  | .int, [.bl b] => some (.int (if b then 1 else 0))
  | .all, [.lst l] => (boolsD l).map fun bs => .bl (bs.all id)
  | .any, [.lst l] => (boolsD l).map fun bs => .bl (bs.any id)
  | _, _ => none
/-- isinstance -/
def isTy (sub : Nat → Nat → Bool) : D → Ty → Bool
  | .int _, .int => true
  | .bl _, .int => true
  | .bl _, .bool => true
  | .str _, .str => true
  | .lst _, .list => true
  | .zst _, .list => true
  | .tup _, .tuple => true
  | .ins c _, .cls k => c == k
  | _, _ => false

/-- how a parameter comes in -/
inductive Md where
  | pu | bo | ow
  deriving DecidableEq
/-- what isinstance is asked about -/
def tyOk (n : Nat) : D → Bool
  | .ins c _ => decide (c < n)
  | .loc _ => false
  | .fn _ => false
  | .dct _ _ => false
  | _ => true
def tyOk2 (n : Nat) : Ty → Bool
  | .cls c => decide (c < n)
  | .exc _ => false
  | .bexc _ => false
  | _ => true
/-- is an own exception of such a class -/
def xtyG (sub : Nat → Nat → Option Bool) (c : Nat) : Ty → Option Bool
  | .exc k => sub c k
  | .bexc x => if sub c c = some true then (if x = "ValueError" then some true else if x = "LookupError" then some false else if x = "RuntimeError" then some false else none) else none
  | _ => none
/-! ### the program around -/
structure G where
  run : Nat → List D → List D → RC
  meth : Nat → Nat → Option Nat
  fld : Nat → Nat → Option Nat
  init : Nat → Option Nat
  glob : Nat → Option D
  xfld : Nat → Nat → Option Nat
  sub : Nat → Nat → Option Bool
  w : Nat
  modes : Nat → List Md
  ncls : Nat

/-- what an operand stands for: a value, or what a slot holds -/
inductive RV where
  | val (d : D) | slot (i : Nat)
/-- an operand, whoever holds it -/
def ro (a : List SL) (e : E) (r : RE D) (h : List D) : RE RV := match e with
  | .var i => match a[i]? with
    | some (.pu d) => .ok (.val d) h
    | some (.ow _) => .ok (.slot i) h
    | some (.bo _) => .ok (.slot i) h
    | _ => .bad
  | _ => r.bind fun d h1 => .ok (.val d) h1
/-- .. or, for a loop's source, what stands still -/
def roK (k : Bool) (a : List SL) (e : E) (r : RE D) (h : List D) : RE RV := if k then ro a e r h else match e with
  | .var i => match a[i]? with
    | some (.pu d) => .ok (.val d) h
    | some (.bo _) => .ok (.slot i) h
    | _ => .bad
  | _ => r.bind fun d h1 => .ok (.val d) h1
def viewH (h : List D) : D → Option D
  | .loc n => h[n]?
  | d => some d
/-- what is read of an operand -/
def look (a : List SL) (h : List D) : RV → Option D
  | .val d => viewH h d
  | .slot i => match a[i]? with
    | some (.ow d) => some d
    | some (.bo d) => some d
    | _ => none
/-- .. where it is to stand still -/
def lookF (a : List SL) : RV → Option D
  | .val (.loc _) => none
  | .val d => some d
  | .slot i => match a[i]? with
    | some (.ow d) => some d
    | some (.bo d) => some d
    | _ => none
/-- what is handed to a parameter -/
def passOne (a : List SL) : Md → RV → Option D
  | .pu, .val d => some d
  | .bo, .val d => some d
  | .bo, .slot i => match a[i]? with
    | some (.ow d) => some d
    | some (.bo d) => some d
    | _ => none
  | _, _ => none
def passA (a : List SL) : List Md → List RV → Option (List D)
  | [], [] => some []
  | m :: ms, r :: rs => (passOne a m r).bind fun d => (passA a ms rs).bind fun ds => some (d :: ds)
  | _, _ => none
def ownFree (a : List SL) (own : List Nat) : Bool := own.all fun j => match a[j]? with
  | some (.ow _) => false
  | some (.bo _) => false
  | _ => true
def looks (a : List SL) (h : List D) : List RV → Option (List D)
  | [] => some []
  | r :: rs => (look a h r).bind fun d => (looks a h rs).bind fun ds => some (d :: ds)
mutual
def asgTg : Tg → D → List SL → Option (List SL)
  | .name i, d, a => some (a.set i (.pu d))
  | .nil, .tup [], a => some a
  | .cons t r, .tup (d :: ds), a => (asgTg t d a).bind (asgTgs r ds)
  | _, _, _ => none
def asgTgs : Tg → List D → List SL → Option (List SL)
  | .nil, [], a => some a
  | .cons t r, d :: ds, a => (asgTg t d a).bind (asgTgs r ds)
  | _, _, _ => none
end
def wipeS (a : List SL) : List Nat → List SL
  | [] => a
  | v :: vs => (wipeS a vs).set v .no
/-- a comprehension's turns -/
def compL (f : D → List D → RE (Option D)) : List D → List D → RE (List D)
  | [], h => .ok [] h
  | d :: r, h => match f d h with
    | .ok o h1 => (compL f r h1).bind fun l h2 => .ok (match o with | some x => x :: l | none => l) h2
    | _ => .bad
def tOf : RE D → RE Bool
  | .ok (.bl b) h => .ok b h
  | .exc c ds h => .exc c ds h
  | _ => .bad
def iOf : RE D → RE Int
  | .ok (.int b) h => .ok b h
  | .exc c ds h => .exc c ds h
  | _ => .bad
def rngD (lo : Int) (n : Nat) : List D := (List.range n).map fun (k : Nat) => .int (lo + k)
def rngOk (i : Int) : Bool := decide (-(2 ^ 62) ≤ i) && decide (i < 2 ^ 62)
def rngO (t : Bool) (i j : Int) (h : List D) : RE D := if rngOk i && rngOk j && szOk (j - i).toNat then .ok (if t then .tup (rngD i (j - i).toNat) else .lst (rngD i (j - i).toNat)) h else .bad
def enumD (l : List D) : List D := l.zipIdx.map fun p => .tup [.int (p.2 : Nat), p.1]
def zipD (l r : List D) : List D := (l.zip r).map fun p => .tup [p.1, p.2]
def chars (z : Str) : List D := z.cps.toList.map fun c => .str ⟨#[c]⟩
def walkOf : D → Option (List D)
  | .lst l => some l
  | .tup l => some l
  | .zst l => some l
  | .str z => some (chars z)
  | .dct ks _ => some ks
  | _ => none
def RC.reB : RC → RE (D × Bool)
  | .ok d fr h => .ok (d, fr) h
  | .exc c ds h => .exc c ds h
  | .bad => .bad
def RE.fst (r : RE (D × Bool)) : RE D := r.bind fun d h => .ok d.1 h
/-- f(..) with what is handed to it -/
def callG (g : G) (a : List SL) (f : Nat) (l : List RV) (h : List D) : RE (D × Bool) := match passA a (g.modes f) l with
  | some ds => (g.run f ds h).reB
  | none => .bad
def makeG (g : G) (a : List SL) (c f : Nat) (l : List RV) (h : List D) : RE D := match passA a ((g.modes f).drop 1) l with
  | some ds => (g.run f (.ins c [] :: ds) h).reB.fst
  | none => .bad
section
variable (g : G) (a : List SL)
mutual
def evE (a : List SL) : E → List D → RE D
  | .var i, h => match a[i]? with
    | some (.pu d) => .ok d h
    | _ => .bad
  | .int i, h => .ok (.int i) h
  | .str x, h => .ok (.str x) h
  | .bl b, h => .ok (.bl b) h
  | .non, h => .ok .non h
  | .glob k, h => RE.lift (g.glob k) h
  | .fnv f, h => .ok (.fn f) h
  | .bin op x y, h => (ro a x (evE a x h) h).bind fun r h1 => (ro a y (evE a y h1) h1).bind fun s h2 => RE.lift ((look a h2 r).bind fun d => (look a h2 s).bind fun e => opB op d e) h2
  | .cmp op x y, h => (ro a x (evE a x h) h).bind fun r h1 => (ro a y (evE a y h1) h1).bind fun s h2 => RE.lift ((look a h2 r).bind fun d => (look a h2 s).bind fun e => (opC op d e).map .bl) h2
  | .chain o1 o2 x y z, h => (evE a x h).bind fun d h1 => (evE a y h1).bind fun e h2 => (RE.lift (opC o1 d e) h2).bind fun b h3 =>
      if b then (evE a z h3).bind fun f h4 => RE.lift ((opC o2 e f).map .bl) h4 else .ok (.bl false) h3
  | .and x y, h => (tOf (evE a x h)).bind fun b h1 => if b then evE a y h1 else .ok (.bl false) h1
  | .or x y, h => (tOf (evE a x h)).bind fun b h1 => if b then .ok (.bl true) h1 else evE a y h1
  | .not x, h => (tOf (evE a x h)).bind fun b h1 => .ok (.bl (!b)) h1
  | .neg x, h => (iOf (evE a x h)).bind fun i h1 => .ok (.int (-i)) h1
  | .ite c x y, h => (tOf (evE a c h)).bind fun b h1 => if b then evE a x h1 else evE a y h1
  | .tup es, h => (evEs a es h).bind fun l h1 => if szOk l.length then .ok (.tup l) h1 else .bad
  | .lst es, h => (evEs a es h).bind fun l h1 => if szOk l.length then .ok (.lst l) h1 else .bad
  | .ix x i, h => (ro a x (evE a x h) h).bind fun r h1 => (evE a i h1).bind fun e h2 => RE.lift ((look a h2 r).bind fun d => opIx d e) h2
  | .sl x lo hi, h => (ro a x (evE a x h) h).bind fun r h1 => (evEo a lo h1).bind fun l h2 => (evEo a hi h2).bind fun u h3 => RE.lift ((look a h3 r).bind fun d => opSl d l u) h3
  | .rev x, h => (ro a x (evE a x h) h).bind fun r h1 => RE.lift ((look a h1 r).bind opRev) h1
  | .fld x f, h => (ro a x (evE a x h) h).bind fun r h1 => match look a h1 r with
    | some (.ins c vs) => RE.lift ((g.fld c f).bind fun j => vs[j]?) h1
    | _ => .bad
  | .xfld i f, h => match a[i]? with
    | some (.ex c ds) => RE.lift ((g.xfld c f).bind fun j => ds[j]?) h
    | _ => .bad
  | .call f es, h => ((evRs a es h).bind (callG g a f)).fst
  | .callv i es, h => match a[i]? with
    | some (.pu (.fn f)) => ((evRs a es h).bind (callG g a f)).fst
    | _ => .bad
  | .meth x m es, h => ((ro a x (evE a x h) h).bind fun r h1 => match look a h1 r with
    | some (.ins c _) => (match g.meth c m with
      | some f => (evRs a es h1).bind fun l h2 => callG g a f (r :: l) h2
      | none => .bad)
    | _ => .bad).fst
  | .mk c es, h => match g.init c with
    | some f => (evRs a es h).bind (makeG g a c f)
    | _ => .bad
  | .bi b es, h => (evRs a es h).bind fun l h1 => RE.lift ((looks a h1 l).bind (opBi b)) h1
  | .bm _ _ _, _ => .bad
  | .isi x ts, h => (ro a x (evE a x h) h).bind fun r h1 => RE.lift ((look a h1 r).bind fun d => if tyOk g.ncls d && ts.all (tyOk2 g.ncls) then some (.bl (ts.any (isTy (fun _ _ => false) d))) else none) h1
  | .comp t own it c e, h => if ownFree a own then (evIt a true it h).bind fun l h1 =>
      (compL (fun d h2 => match asgTg t d (wipeS a own) with
        | none => .bad
        | some a1 => (evC a1 c h2).bind fun b h3 => if b then (evE a1 e h3).bind fun x h4 => .ok (some x) h4 else .ok none h3) l h1).bind fun l h2 => if szOk l.length then .ok (.lst l) h2 else .bad
    else .bad
  | .dic _ _, _ => .bad
  | .fstr _, _ => .bad
  | .rngl t x, h => match x with
    | .rng1 x => (iOf (evE a x h)).bind fun i h1 => rngO t 0 i h1
    | .rng2 x y => (iOf (evE a x h)).bind fun i h1 => (iOf (evE a y h1)).bind fun j h2 => rngO t i j h2
    | _ => .bad
  | .isx i t, h => match a[i]? with
    | some (.ex c _) => RE.lift ((xtyG g.sub c t).map .bl) h
    | _ => .bad
  | .xkw c es pm f, h => (evEs a es h).bind fun l h1 => RE.lift ((g.xfld c f).bind fun j => (pm[j]?).bind fun i => l[i]?) h1
def evEs (a : List SL) : Es → List D → RE (List D)
  | .nil, h => .ok [] h
  | .cons e r, h => (evE a e h).bind fun d h1 => (evEs a r h1).bind fun l h2 => .ok (d :: l) h2
def evRs (a : List SL) : Es → List D → RE (List RV)
  | .nil, h => .ok [] h
  | .cons e r, h => (ro a e (evE a e h) h).bind fun d h1 => (evRs a r h1).bind fun l h2 => .ok (d :: l) h2
def evEo (a : List SL) : Eo → List D → RE (Option Int)
  | .none, h => .ok none h
  | .some e, h => (iOf (evE a e h)).bind fun i h1 => .ok (some i) h1
def evC (a : List SL) : Eo → List D → RE Bool
  | .none, h => .ok true h
  | .some e, h => tOf (evE a e h)
def evIt (a : List SL) (k : Bool) : It → List D → RE (List D)
  | .seq e, h => (roK k a e (evE a e h) h).bind fun r h1 => RE.lift ((lookF a r).bind walkOf) h1
  | .rng1 x, h => (iOf (evE a x h)).bind fun i h1 => if rngOk i then .ok (rngD 0 i.toNat) h1 else .bad
  | .rng2 x y, h => (iOf (evE a x h)).bind fun i h1 => (iOf (evE a y h1)).bind fun j h2 => if rngOk i && rngOk j then .ok (rngD i (j - i).toNat) h2 else .bad
  | .rng3 _ _ _, _ => .bad
  | .enum x, h => (roK k a x (evE a x h) h).bind fun r h1 => RE.lift ((lookF a r).bind fun d => (rowOf d).map enumD) h1
  | .zip x y, h => (roK k a x (evE a x h) h).bind fun r h1 => (roK k a y (evE a y h1) h1).bind fun s h2 => RE.lift ((lookF a r).bind fun d => (lookF a s).bind fun e => (rowOf d).bind fun l => (rowOf e).map fun r => zipD l r) h2
  | .items _, _ => .bad
end
end

/-! ### statements -/
def forL (f : D → List SL → List D → RS) : List D → List SL → List D → RS
  | [], a, h => .nx a h
  | d :: r, a, h => (f d a h).seq (forL f r)
def whlL (c : List SL → List D → RE Bool) (b : List SL → List D → RS) : Nat → List SL → List D → RS
  | 0, _, _ => .bad
  | n + 1, a, h => (c a h).thenS a fun t h1 => if t then (b a h1).seq (whlL c b n) else .nx a h1
/-- a store into the object behind a slot: f makes the new content and what else is wanted -/
def mutS (a : List SL) (h : List D) (i : Nat) (f : D → Option D) : RS := match a[i]? with
  | some (.ow d) => match f d with
    | some d' => .nx (a.set i (.ow d')) h
    | none => .bad
  | some (.pu (.loc n)) => match (h[n]?).bind f with
    | some d' => .nx a (h.set n d')
    | none => .bad
  | _ => .bad
/-- is it a list that the slot holds or names -/
def lstAt (a : List SL) (h : List D) (i : Nat) : Bool := match a[i]? with
  | some (.ow (.lst _)) => true
  | some (.pu (.loc n)) => (match h[n]? with
    | some (.lst _) => true
    | _ => false)
  | _ => false
def heldAt (a : List SL) (i : Nat) : Bool := match a[i]? with
  | some (.ow _) => true
  | some (.pu _) => true
  | _ => false
def setIx (k v : D) : D → Option D
  | .lst l => match k with
    | .int i => (ixI l.length i).map fun j => .lst (l.set j v)
    | _ => none
  | _ => none
def appD (v : D) : D → Option D
  | .lst l => if szOk (l.length + 1) then some (.lst (l ++ [v])) else none
  | _ => none
def extD (v : D) : D → Option D
  | .lst l => match v with
    | .lst r => if szOk (l.length + r.length) then some (.lst (l ++ r)) else none
    | _ => none
  | _ => none
def insD (k v : D) : D → Option D
  | .lst l => match k with
    | .int i => if szOk (l.length + 1) && decide (0 ≤ i) && decide (i ≤ l.length) then some (.lst (l.take i.toNat ++ [v] ++ l.drop i.toNat)) else none
    | _ => none
  | _ => none
def setF (g : G) (f : Nat) (v : D) : D → Option D
  | .ins c vs => match g.fld c f with
    | some j => if j < vs.length then some (.ins c (vs.set j v)) else if j = vs.length then some (.ins c (vs ++ [v])) else none
    | none => none
  | _ => none
/-- is the value of such an expression a new list, when it is a list -/
def fresh : E → Bool
  | .lst _ => true
  | .comp _ _ _ _ _ => true
  | .rngl false _ => true
  | .bi .list _ => true
  | .bi .sorted _ => true
  | .bin _ _ _ => true
  | .sl _ _ _ => true
  | .mk _ _ => true
  | _ => false
def isObj : D → Bool
  | .lst _ => true
  | .dct _ _ => true
  | .ins _ _ => true
  | _ => false
/-- an expression whose value is a new object -/
def evF (g : G) (a : List SL) : E → List D → RE D
  | .call f es, h => ((evRs g a es h).bind (callG g a f)).bind fun d h1 => if d.2 then .ok d.1 h1 else .bad
  | .meth x m es, h => ((ro a x (evE g a x h) h).bind fun r h1 => match look a h1 r with
    | some (.ins c _) => (match g.meth c m with
      | some f => (evRs g a es h1).bind fun l h2 => callG g a f (r :: l) h2
      | none => .bad)
    | _ => .bad : RE (D × Bool)).bind fun d h1 => if d.2 then .ok d.1 h1 else .bad
  | e, h => if fresh e then (evE g a e h).bind fun d h1 => if isObj d then .ok d h1 else .bad else .bad
/-- a suite's slots, ahead of it and behind it -/
def noEx (a : List SL) : List SL := a.map fun s => match s with
  | .ex _ _ => .no
  | s => s
def inX (x : Option Nat) (c : Nat) (ds : List D) (a : List SL) : List SL := match x with
  | some i => (noEx a).set i (.ex c ds)
  | none => noEx a
def outX (x : Option Nat) (a : List SL) : List SL := match x with
  | some i => (noEx a).set i .no
  | none => noEx a
section
variable (g : G)
mutual
def evS : S → List SL → List D → RS
  | .asg i e, a, h => (evE g a e h).thenS a fun d h1 => .nx (a.set i (.pu d)) h1
  | .asgM i e, a, h => (evF g a e h).thenS a fun d h1 => .nx (a.set i (.ow d)) h1
  | .asgL i e, a, h => (evF g a e h).thenS a fun d h1 => .nx (a.set i (.pu (.loc h1.length))) (h1 ++ [d])
  | .asgT t e, a, h => (evE g a e h).thenS a fun d h1 => match asgTg t d a with
    | some a1 => .nx a1 h1
    | none => .bad
  | .asgP t es, a, h => (evEs g a es h).thenS a fun l h1 => match asgTgs t l a with
    | some a1 => .nx a1 h1
    | none => .bad
  | .aug i op e, a, h => match a[i]? with
    | some (.pu (.int d)) => (evE g a e h).thenS a fun v h1 => match opB op (.int d) v with
      | some r => .nx (a.set i (.pu r)) h1
      | none => .bad
    | _ => .bad
  | .sto i k e, a, h => if heldAt a i then (evE g a e h).thenS a fun v h1 => (evE g a k h1).thenS a fun kv h2 => mutS a h2 i (setIx kv v) else .bad
  | .stf i f e, a, h => (evE g a e h).thenS a fun v h1 => mutS a h1 i (setF g f v)
  | .exp e, a, h => (evE g a e h).thenS a fun _ h1 => .nx a h1
  | .app i e, a, h => if lstAt a h i then (evE g a e h).thenS a fun v h1 => mutS a h1 i (appD v) else .bad
  | .ext i e, a, h => if lstAt a h i then (ro a e (evE g a e h) h).thenS a fun r h1 => (match look a h1 r with
    | some v => mutS a h1 i (extD v)
    | none => .bad) else .bad
  | .insr i k e, a, h => if lstAt a h i then (evE g a k h).thenS a fun kv h1 => (evE g a e h1).thenS a fun v h2 => mutS a h2 i (insD kv v) else .bad
  | .ifs c t f, a, h => (tOf (evE g a c h)).thenS a fun b h1 => if b then evSs t a h1 else evSs f a h1
  | .whl c b, a, h => whlL (fun a h => tOf (evE g a c h)) (fun a h => evSs b a h) g.w a h
  | .for t it b, a, h => (evIt g a false it h).thenS a fun l h1 => forL (fun d a h => match asgTg t d a with
    | some a1 => evSs b a1 h
    | none => .bad) l a h1
  | .ret e, a, h => (evE g a e h).thenS a fun d h1 => .ret d false h1
  | .retN, _, h => .ret .non false h
  | .retM i, a, h => match a[i]? with
    | some (.ow d) => .ret d true h
    | _ => .bad
  | .raise c es, a, h => (evEs g a es h).thenS a fun ds h1 => .exc c ds a h1
  | .tryx b hs, a, h => match evSs b a h with
    | .exc c ds a1 h1 => evHs hs c ds a1 h1
    | r => r
  | .pass, a, h => .nx a h
  | .frz i s, a, h => match a[i]? with
    | some (.ow d) => evS s (a.set i (.pu d)) h
    | _ => evS s a h
def evSs : Ss → List SL → List D → RS
  | .nil, a, h => .nx a h
  | .cons s r, a, h => (evS s a h).seq fun a h => evSs r a h
/-- the clauses, one after the other -/
def evHs : Hs → Nat → List D → List SL → List D → RS
  | .nil, c, ds, a, h => .exc c ds a h
  | .cons k x b r, c, ds, a, h => match g.sub c k with
    | some true => (match evSs b (inX x c ds a) h with
      | .exc _ _ _ _ => .bad
      | .nx a1 h1 => .nx (outX x a1) h1
      | q => q)
    | some false => evHs r c ds a h
    | none => .bad
end
end

/-! ### functions -/
structure Fd where
  nslots : Nat
  modes : List Md
  init : Bool
  body : Ss
def slotOf : Md → D → SL
  | .pu, d => .pu d
  | .bo, d => .bo d
  | .ow, d => .ow d
def endF (init : Bool) : RS → RC
  | .nx a h => if init then (match (a[0]? : Option SL) with
      | some (.ow d) => .ok d true h
      | _ => .bad) else .ok .non false h
  | .ret d fr h => if init then .bad else .ok d fr h
  | .exc c ds _ h => .exc c ds h
  | .bad => .bad
def slotsOf (fd : Fd) (ds : List D) : List SL := (List.zipWith slotOf fd.modes ds) ++ List.replicate (fd.nslots - ds.length) .no
/-- the program: a table of defs, run to a depth of calls -/
structure P where
  fns : List Fd
  meth : Nat → Nat → Option Nat
  fld : Nat → Nat → Option Nat
  init : Nat → Option Nat
  glob : Nat → Option D
  xfld : Nat → Nat → Option Nat
  sub : Nat → Nat → Option Bool
  w : Nat
  ncls : Nat
def P.run (p : P) : Nat → Nat → List D → List D → RC
  | 0, _, _, _ => .bad
  | n + 1, f, ds, h => match p.fns[f]? with
    | none => .bad
    | some fd => if ds.length = fd.modes.length then
        endF fd.init (evSs ⟨p.run n, p.meth, p.fld, p.init, p.glob, p.xfld, p.sub, p.w, fun f => match p.fns[f]? with | some fd => fd.modes | none => [], p.ncls⟩ fd.body (slotsOf fd ds) h)
      else .bad
def P.modes (p : P) (f : Nat) : List Md := match p.fns[f]? with | some fd => fd.modes | none => []
def P.g (p : P) (n : Nat) : G := ⟨p.run n, p.meth, p.fld, p.init, p.glob, p.xfld, p.sub, p.w, p.modes, p.ncls⟩
end Ev
end
section
set_option Elab.async false
set_option linter.all false
set_option maxRecDepth 100000
set_option maxHeartbeats 1000000
/-! Ev, part Ma: what a def computes, found by simp: loops held shut. -/
namespace Ev
def whlQ (g : G) (c : E) (b : Ss) (n : Nat) (a : List SL) (h : List D) : RS := whlL (fun a h => tOf (evE g a c h)) (fun a h => evSs g b a h) n a h
def turnQ (g : G) (t : Tg) (b : Ss) (d : D) (a : List SL) (h : List D) : RS := match asgTg t d a with
    | some a1 => evSs g b a1 h
    | none => .bad
def forQ (g : G) (t : Tg) (b : Ss) (l : List D) (a : List SL) (h : List D) : RS := forL (fun d a h => match asgTg t d a with
    | some a1 => evSs g b a1 h
    | none => .bad) l a h
def compQ (g : G) (a : List SL) (t : Tg) (own : List Nat) (c : Eo) (e : E) (l : List D) (h : List D) : RE (List D) := compL (fun d h2 => match asgTg t d (wipeS a own) with
        | none => .bad
        | some a1 => (evC g a1 c h2).bind fun b h3 => if b then (evE g a1 e h3).bind fun x h4 => .ok (some x) h4 else .ok none h3) l h
section
variable {g : G} {a : List SL} {h : List D}
theorem evS_whl {c : E} {b : Ss} : evS g (.whl c b) a h = whlQ g c b g.w a h := by rw [evS]; rfl
theorem evS_for {t : Tg} {it : It} {b : Ss} : evS g (.for t it b) a h = (evIt g a false it h).thenS a fun l h1 => forQ g t b l a h1 := by rw [evS]; rfl
theorem evE_comp {t : Tg} {own : List Nat} {it : It} {c : Eo} {e : E} : evE g a (.comp t own it c e) h = if ownFree a own then (evIt g a true it h).bind fun l h1 => (compQ g a t own c e l h1).bind fun l h2 => if szOk l.length then .ok (.lst l) h2 else .bad else .bad := by rw [evE]; rfl
theorem evE_rngl1 {t : Bool} {x : E} : evE g a (.rngl t (.rng1 x)) h = (iOf (evE g a x h)).bind fun i h1 => rngO t 0 i h1 := by rw [evE]
theorem evE_rngl2 {t : Bool} {x y : E} : evE g a (.rngl t (.rng2 x y)) h = (iOf (evE g a x h)).bind fun i h1 => (iOf (evE g a y h1)).bind fun j h2 => rngO t i j h2 := by rw [evE]
theorem evE_isx {i : Nat} {t : Ty} : evE g a (.isx i t) h = match a[i]? with
    | some (.ex c _) => RE.lift ((xtyG g.sub c t).map .bl) h
    | _ => .bad := by rw [evE] <;> rfl
theorem evE_xkw {c : Nat} {es : Es} {pm : List Nat} {f : Nat} : evE g a (.xkw c es pm f) h = (evEs g a es h).bind fun l h1 => RE.lift ((g.xfld c f).bind fun j => (pm[j]?).bind fun i => l[i]?) h1 := by rw [evE]
theorem whlQ_zero {c : E} {b : Ss} : whlQ g c b 0 a h = .bad := rfl
theorem whlQ_succ {c : E} {b : Ss} {n : Nat} : whlQ g c b (n + 1) a h = (tOf (evE g a c h)).thenS a fun t h1 => if t then (evSs g b a h1).seq (whlQ g c b n) else .nx a h1 := rfl
theorem forQ_nil {t : Tg} {b : Ss} : forQ g t b [] a h = .nx a h := rfl
theorem forQ_cons {t : Tg} {b : Ss} {d : D} {l : List D} : forQ g t b (d :: l) a h = (turnQ g t b d a h).seq (forQ g t b l) := rfl
theorem forQ_append {t : Tg} {b : Ss} : ∀ {l r : List D} {a : List SL} {h : List D}, forQ g t b (l ++ r) a h = (forQ g t b l a h).seq (forQ g t b r)
  | [], r, a, h => rfl
  | d :: l, r, a, h => by
    rw [List.cons_append, forQ_cons, forQ_cons]
    cases e : turnQ g t b d a h with
    | nx a1 h1 => exact forQ_append
    | ret d fr h1 => rfl
    | exc c ds a1 h1 => rfl
    | bad => rfl
theorem compQ_nil {t : Tg} {own : List Nat} {c : Eo} {e : E} : compQ g a t own c e [] h = .ok [] h := rfl
theorem compQ_cons {t : Tg} {own : List Nat} {c : Eo} {e : E} {d : D} {l : List D} : compQ g a t own c e (d :: l) h = (match (match asgTg t d (wipeS a own) with
        | none => .bad
        | some a1 => (evC g a1 c h).bind fun b h3 => if b then (evE g a1 e h3).bind fun x h4 => .ok (some x) h4 else .ok none h3 : RE (Option D)) with
    | .ok o h1 => (compQ g a t own c e l h1).bind fun l h2 => .ok (match o with | some x => x :: l | none => l) h2
    | _ => .bad) := rfl
/-- a comprehension whose turns leave the shared objects alone -/
theorem compQ_map {t : Tg} {own : List Nat} {c : Eo} {e : E} {f : D → Option D} : ∀ {l : List D}, (∀ d ∈ l, (match asgTg t d (wipeS a own) with
        | none => .bad
        | some a1 => (evC g a1 c h).bind fun b h3 => if b then (evE g a1 e h3).bind fun x h4 => .ok (some x) h4 else .ok none h3 : RE (Option D)) = .ok (f d) h) → compQ g a t own c e l h = .ok (l.filterMap f) h
  | [], _ => rfl
  | d :: l, k => by
    rw [compQ_cons, k d (List.mem_cons_self ..)]
    show (compQ g a t own c e l h).bind _ = _
    rw [compQ_map fun x hx => k x (List.mem_cons_of_mem _ hx)]
    cases e : f d with
    | none => simp [RE.bind, e]
    | some x => simp [RE.bind, e]
end
/-! ### one statement after the other -/
section
variable {g : G} {a a1 : List SL} {h h1 : List D} {s : S} {r t f : Ss} {d : D} {fr : Bool} {R : RS} {c : E}
theorem evSs_ret (e : evS g s a h = .ret d fr h1) : evSs g (.cons s r) a h = .ret d fr h1 := by rw [evSs, e]; rfl
theorem evSs_nx (e : evS g s a h = .nx a1 h1) (k : evSs g r a1 h1 = R) : evSs g (.cons s r) a h = R := by rw [evSs, e]; exact k
theorem ifs_t (e : tOf (evE g a c h) = .ok true h1) (k : evSs g t a h1 = R) : evS g (.ifs c t f) a h = R := by rw [evS, e]; exact k
theorem ifs_f (e : tOf (evE g a c h) = .ok false h1) (k : evSs g f a h1 = R) : evS g (.ifs c t f) a h = R := by rw [evS, e]; exact k
end
theorem run_eq {p : P} {n f : Nat} {ds h : List D} {fd : Fd} (hf : p.fns[f]? = some fd) (hl : ds.length = fd.modes.length) : p.run (n + 1) f ds h = endF fd.init (evSs (p.g n) fd.body (slotsOf fd ds) h) := by
  rw [P.run, hf]
  simp only [hl, if_true]
  rfl
theorem g_run {p : P} {n : Nat} : (p.g n).run = p.run n := rfl
theorem g_modes {p : P} {n : Nat} : (p.g n).modes = p.modes := rfl
theorem g_w {p : P} {n : Nat} : (p.g n).w = p.w := rfl
theorem g_sub {p : P} {n : Nat} : (p.g n).sub = p.sub := rfl
theorem g_ncls {p : P} {n : Nat} : (p.g n).ncls = p.ncls := rfl
theorem g_xfld {p : P} {n : Nat} : (p.g n).xfld = p.xfld := rfl
/-! ### sizes -/
theorem szOk_lit {n : Nat} (h : n ≤ 1000) : szOk n = true := decide_eq_true (Nat.le_trans h (by decide))

theorem log_lt {n k : Nat} (h : n < 2 ^ k) (hk : 0 < k) : n.log2 < k := by
  by_cases z : n = 0
  · subst z; simpa using hk
  · exact (Nat.log2_lt z).mpr h
theorem mok {i j : Int} (h1 : i.natAbs < 2 ^ 100) (h2 : j.natAbs < 2 ^ 100) : mulOk i j = true := by
  have a := log_lt h1 (by decide)
  have b := log_lt h2 (by decide)
  unfold mulOk
  exact decide_eq_true (by omega)
theorem dok {j : Int} (h0 : 0 < j) (h2 : j.natAbs < 2 ^ 100) : divOk j = true := by
  have b := log_lt h2 (by decide)
  unfold divOk
  rw [Bool.and_eq_true]
  exact ⟨decide_eq_true h0, decide_eq_true (by omega)⟩
end Ev
end
section
set_option Elab.async false
set_option linter.all false
set_option maxRecDepth 100000
set_option maxHeartbeats 1000000
namespace Ev
/-! ### what the laws have in common: the draw, alike, truth -/
def bTaken : Fd := ⟨4, [.pu, .pu], false, .cons (.ifs (.cmp .gt (.ix (.var 0) (.int 3)) (.int 0)) (.cons (.asg 3 (.bin .mod (.bi .int (.cons (.ix (.var 0) (.int 3)) (.nil))) (.var 1))) (.cons (.sto 0 (.int 3) (.bin .fdiv (.ix (.var 0) (.int 3)) (.var 1))) (.cons (.ret (.var 3)) (.nil)))) (.nil)) (.cons (.sto 0 (.int 1) (.bin .add (.ix (.var 0) (.int 1)) (.int 1))) (.cons (.ifs (.cmp .gt (.ix (.var 0) (.int 1)) (.bi .len (.cons (.ix (.var 0) (.int 0)) (.nil)))) (.cons (.sto 0 (.int 2) (.bin .mod (.bi .int (.cons (.bin .add (.bin .mul (.ix (.var 0) (.int 2)) (.int 48271)) (.int 11)) (.nil))) (.int 2147483647))) (.cons (.ret (.bin .mod (.bi .int (.cons (.bin .fdiv (.ix (.var 0) (.int 2)) (.int 7)) (.nil))) (.var 1))) (.nil))) (.nil)) (.cons (.asg 2 (.ix (.ix (.var 0) (.int 0)) (.bin .sub (.ix (.var 0) (.int 1)) (.int 1)))) (.cons (.sto 0 (.int 2) (.bin .mod (.bi .int (.cons (.bin .add (.bin .add (.bin .mul (.ix (.var 0) (.int 2)) (.int 48271)) (.var 2)) (.int 11)) (.nil))) (.int 2147483647))) (.cons (.ifs (.cmp .ge (.var 2) (.bin .pow (.int 10) (.int 18))) (.cons (.sto 0 (.int 3) (.bin .fdiv (.var 2) (.var 1))) (.nil)) (.nil)) (.cons (.ret (.bin .mod (.bi .int (.cons (.var 2) (.nil))) (.var 1))) (.nil)))))))⟩
def bAlike (f : Nat) : Fd := ⟨3, [.pu, .pu], false, .cons (.ifs (.isi (.var 1) [.tuple, .list]) (.cons (.ifs (.or (.not (.isi (.var 0) [.tuple, .list])) (.cmp .ne (.isi (.var 0) [.list]) (.isi (.var 1) [.list]))) (.cons (.ret (.bl false)) (.nil)) (.nil)) (.cons (.ifs (.cmp .ne (.bi .len (.cons (.var 0) (.nil))) (.bi .len (.cons (.var 1) (.nil)))) (.cons (.ret (.bl false)) (.nil)) (.nil)) (.cons (.ret (.cmp .eq (.comp (.name 2) [2] (.rng1 (.bi .len (.cons (.var 1) (.nil)))) (.some (.not (.call f (.cons (.ix (.var 0) (.var 2)) (.cons (.ix (.var 1) (.var 2)) (.nil)))))) (.var 2)) (.lst (.nil)))) (.nil)))) (.nil)) (.cons (.ifs (.or (.cmp .isN (.var 1) (.non)) (.isi (.var 1) [.str])) (.cons (.ret (.and (.cmp .eq (.var 0) (.var 1)) (.cmp .eq (.isi (.var 0) [.str]) (.isi (.var 1) [.str])))) (.nil)) (.nil)) (.cons (.ret (.and (.isi (.var 0) [.int]) (.and (.cmp .eq (.isi (.var 0) [.bool]) (.isi (.var 1) [.bool])) (.cmp .eq (.var 0) (.var 1))))) (.nil)))⟩
def bTruth : Fd := ⟨2, [.pu, .pu], false, .cons (.ret (.and (.isi (.var 0) [.bool]) (.cmp .eq (.var 0) (.var 1)))) (.nil)⟩
/-- the row of draws -/
def DrR (ns : List Int) (d : D) : Prop := ∃ i seed rest : Int, d = .lst [.zst (ns.map .int), .int i, .int seed, .int rest] ∧ 0 ≤ i ∧ 0 ≤ seed ∧ seed < 2147483647
theorem DrR.new {ns : List Int} {seed : Int} (h0 : 0 ≤ seed) (h1 : seed < 2147483647) : DrR ns (.lst [.zst (ns.map .int), .int 0, .int seed, .int 0]) := ⟨0, seed, 0, rfl, by decide, h0, h1⟩
section
variable {p : P} {n f : Nat} {h r : List D}
theorem taken {ns : List Int} {m : Int} {d : D} (hf : p.fns[f]? = some bTaken) (hm : 0 < m) (hM : m < 1000000000000) (s : DrR ns d) :
    ∃ (x : Int) (d' : D), p.run (n + 1) f [.loc 0, .int m] (d :: r) = .ok (.int x) false (d' :: r) ∧ 0 ≤ x ∧ x < m ∧ DrR ns d' := by
  obtain ⟨i, seed, rest, rfl, h0, h1, h2⟩ := s
  have q1 : divOk m = true := dok hm (by omega)
  have q2 : mulOk seed 48271 = true := mok (by omega) (by decide)
  have q7 : divOk 7 = true := dok (by decide) (by decide)
  have dm : divOk 7 = true := dok (by decide) (by decide)
  rw [run_eq hf rfl]
  unfold bTaken
  by_cases c1 : 0 < rest
  · refine ⟨rest % m, .lst [.zst (ns.map .int), .int i, .int seed, .int (rest / m)], ?_, Int.emod_nonneg _ (by omega), Int.emod_lt_of_pos _ hm, ⟨i, seed, rest / m, rfl, h0, h1, h2⟩⟩
    simp [evE.eq_1, evE.eq_2, evE.eq_3, evE.eq_4, evE.eq_5, evE.eq_6, evE.eq_7, evE.eq_8, evE.eq_9, evE.eq_10, evE.eq_11, evE.eq_12, evE.eq_13, evE.eq_14, evE.eq_15, evE.eq_16, evE.eq_17, evE.eq_18, evE.eq_19, evE.eq_20, evE.eq_21, evE.eq_22, evE.eq_23, evE.eq_24, evE.eq_25, evE.eq_26, evE.eq_27, evE.eq_28, evE.eq_29, evE_comp, evE_rngl1, evE_rngl2, evE_isx, evE_xkw, evS.eq_1, evS.eq_2, evS.eq_3, evS.eq_4, evS.eq_5, evS.eq_6, evS.eq_7, evS.eq_8, evS.eq_9, evS.eq_10, evS.eq_11, evS.eq_12, evS.eq_13, evS.eq_16, evS.eq_17, evS.eq_18, evS.eq_19, evS.eq_20, evS.eq_21, evS.eq_22, evS_whl, evS_for, evEs, evRs, evEo, evC, evIt, evSs, evHs, evF, ro, roK, look, looks, lookF, viewH, opB, opC, cmpI, opIx, ixI, opBi, tOf, iOf, slotsOf, slotOf, endF, RE.lift, RE.fst, RE.bind, RE.thenS, RS.seq, RC.reB, callG, passA, passOne, asgTg, asgTgs, g_run, g_modes, g_w, g_sub, g_ncls, g_xfld, szOk_lit, turnQ, List.zipWith, walkOf, heldAt, mutS, setIx, q1, hm, c1]
  · by_cases c2 : (ns.length : Int) < i + 1
    · have k0 := Int.emod_nonneg (seed * 48271 + 11) (b := 2147483647) (by decide)
      have k1 := Int.emod_lt_of_pos (seed * 48271 + 11) (b := 2147483647) (by decide)
      refine ⟨(seed * 48271 + 11) % 2147483647 / 7 % m, .lst [.zst (ns.map .int), .int (i + 1), .int ((seed * 48271 + 11) % 2147483647), .int rest], ?_, Int.emod_nonneg _ (by omega), Int.emod_lt_of_pos _ hm, ⟨i + 1, _, rest, rfl, by omega, k0, k1⟩⟩
      simp [evE.eq_1, evE.eq_2, evE.eq_3, evE.eq_4, evE.eq_5, evE.eq_6, evE.eq_7, evE.eq_8, evE.eq_9, evE.eq_10, evE.eq_11, evE.eq_12, evE.eq_13, evE.eq_14, evE.eq_15, evE.eq_16, evE.eq_17, evE.eq_18, evE.eq_19, evE.eq_20, evE.eq_21, evE.eq_22, evE.eq_23, evE.eq_24, evE.eq_25, evE.eq_26, evE.eq_27, evE.eq_28, evE.eq_29, evE_comp, evE_rngl1, evE_rngl2, evE_isx, evE_xkw, evS.eq_1, evS.eq_2, evS.eq_3, evS.eq_4, evS.eq_5, evS.eq_6, evS.eq_7, evS.eq_8, evS.eq_9, evS.eq_10, evS.eq_11, evS.eq_12, evS.eq_13, evS.eq_16, evS.eq_17, evS.eq_18, evS.eq_19, evS.eq_20, evS.eq_21, evS.eq_22, evS_whl, evS_for, evEs, evRs, evEo, evC, evIt, evSs, evHs, evF, ro, roK, look, looks, lookF, viewH, opB, opC, cmpI, opIx, ixI, opBi, tOf, iOf, slotsOf, slotOf, endF, RE.lift, RE.fst, RE.bind, RE.thenS, RS.seq, RC.reB, callG, passA, passOne, asgTg, asgTgs, g_run, g_modes, g_w, g_sub, g_ncls, g_xfld, szOk_lit, turnQ, List.zipWith, walkOf, heldAt, mutS, setIx, q2, q7, hm, c1, c2]
    · have hi : i.toNat < ns.length := by omega
      have g : ns[i.toNat]? = some ns[i.toNat] := List.getElem?_eq_getElem hi
      have e1 : i + 1 - 1 = i := by omega
      have e2 : i < (ns.length : Int) := by omega
      have k0 := Int.emod_nonneg (seed * 48271 + ns[i.toNat] + 11) (b := 2147483647) (by decide)
      have k1 := Int.emod_lt_of_pos (seed * 48271 + ns[i.toNat] + 11) (b := 2147483647) (by decide)
      by_cases c3 : (1000000000000000000 : Int) ≤ ns[i.toNat]
      · refine ⟨ns[i.toNat] % m, .lst [.zst (ns.map .int), .int (i + 1), .int ((seed * 48271 + ns[i.toNat] + 11) % 2147483647), .int (ns[i.toNat] / m)], ?_, Int.emod_nonneg _ (by omega), Int.emod_lt_of_pos _ hm, ⟨i + 1, _, _, rfl, by omega, k0, k1⟩⟩
        simp [evE.eq_1, evE.eq_2, evE.eq_3, evE.eq_4, evE.eq_5, evE.eq_6, evE.eq_7, evE.eq_8, evE.eq_9, evE.eq_10, evE.eq_11, evE.eq_12, evE.eq_13, evE.eq_14, evE.eq_15, evE.eq_16, evE.eq_17, evE.eq_18, evE.eq_19, evE.eq_20, evE.eq_21, evE.eq_22, evE.eq_23, evE.eq_24, evE.eq_25, evE.eq_26, evE.eq_27, evE.eq_28, evE.eq_29, evE_comp, evE_rngl1, evE_rngl2, evE_isx, evE_xkw, evS.eq_1, evS.eq_2, evS.eq_3, evS.eq_4, evS.eq_5, evS.eq_6, evS.eq_7, evS.eq_8, evS.eq_9, evS.eq_10, evS.eq_11, evS.eq_12, evS.eq_13, evS.eq_16, evS.eq_17, evS.eq_18, evS.eq_19, evS.eq_20, evS.eq_21, evS.eq_22, evS_whl, evS_for, evEs, evRs, evEo, evC, evIt, evSs, evHs, evF, ro, roK, look, looks, lookF, viewH, opB, opC, cmpI, opIx, ixI, opBi, tOf, iOf, slotsOf, slotOf, endF, RE.lift, RE.fst, RE.bind, RE.thenS, RS.seq, RC.reB, callG, passA, passOne, asgTg, asgTgs, g_run, g_modes, g_w, g_sub, g_ncls, g_xfld, szOk_lit, turnQ, List.zipWith, walkOf, heldAt, mutS, setIx, q1, q2, q7, hm, c1, c2, e1, e2, h0, g, c3]
      · refine ⟨ns[i.toNat] % m, .lst [.zst (ns.map .int), .int (i + 1), .int ((seed * 48271 + ns[i.toNat] + 11) % 2147483647), .int rest], ?_, Int.emod_nonneg _ (by omega), Int.emod_lt_of_pos _ hm, ⟨i + 1, _, _, rfl, by omega, k0, k1⟩⟩
        simp [evE.eq_1, evE.eq_2, evE.eq_3, evE.eq_4, evE.eq_5, evE.eq_6, evE.eq_7, evE.eq_8, evE.eq_9, evE.eq_10, evE.eq_11, evE.eq_12, evE.eq_13, evE.eq_14, evE.eq_15, evE.eq_16, evE.eq_17, evE.eq_18, evE.eq_19, evE.eq_20, evE.eq_21, evE.eq_22, evE.eq_23, evE.eq_24, evE.eq_25, evE.eq_26, evE.eq_27, evE.eq_28, evE.eq_29, evE_comp, evE_rngl1, evE_rngl2, evE_isx, evE_xkw, evS.eq_1, evS.eq_2, evS.eq_3, evS.eq_4, evS.eq_5, evS.eq_6, evS.eq_7, evS.eq_8, evS.eq_9, evS.eq_10, evS.eq_11, evS.eq_12, evS.eq_13, evS.eq_16, evS.eq_17, evS.eq_18, evS.eq_19, evS.eq_20, evS.eq_21, evS.eq_22, evS_whl, evS_for, evEs, evRs, evEo, evC, evIt, evSs, evHs, evF, ro, roK, look, looks, lookF, viewH, opB, opC, cmpI, opIx, ixI, opBi, tOf, iOf, slotsOf, slotOf, endF, RE.lift, RE.fst, RE.bind, RE.thenS, RS.seq, RC.reB, callG, passA, passOne, asgTg, asgTgs, g_run, g_modes, g_w, g_sub, g_ncls, g_xfld, szOk_lit, turnQ, List.zipWith, walkOf, heldAt, mutS, setIx, q1, q2, q7, hm, c1, c2, e1, e2, h0, g, c3]
end
end Ev
end
section
set_option Elab.async false
set_option linter.all false
set_option maxRecDepth 100000
set_option maxHeartbeats 1000000
namespace Ev
/-! ### forward steps -/
section
variable {g : G} {a a1 : List SL} {h h1 h2 : List D} {t : Tg} {own : List Nat} {it : It} {c : Eo} {e : E} {l r : List D}
theorem comp_ok (ho : ownFree a own = true) (hi : evIt g a true it h = .ok l h1) (hc : compQ g a t own c e l h1 = .ok r h2) (hz : szOk r.length = true) : evE g a (.comp t own it c e) h = .ok (.lst r) h2 := by
  rw [evE_comp, ho, hi]
  simp only [if_true, RE.bind_ok, hc, hz]
theorem compQ_fil {T : Type} {F : T → D} {P : T → Bool} {f : T → D} : ∀ {l : List T}, (∀ d ∈ l, ∃ a1, asgTg t (F d) (wipeS a own) = some a1 ∧ evC g a1 c h = .ok (P d) h ∧ (P d = true → evE g a1 e h = .ok (f d) h)) → compQ g a t own c e (l.map F) h = .ok ((l.filter P).map f) h
  | [], _ => rfl
  | d :: l, k => by
    obtain ⟨a1, e1, e2, e3⟩ := k d (List.mem_cons_self ..)
    have ih := compQ_fil (P := P) (f := f) (l := l) fun x hx => k x (List.mem_cons_of_mem _ hx)
    rw [List.map_cons, compQ_cons, e1]
    show (match (evC g a1 c h).bind fun b h3 => if b then (evE g a1 e h3).bind fun x h4 => .ok (some x) h4 else .ok none h3 with
    | .ok o h1 => (compQ g a t own c e (l.map F) h1).bind fun l h2 => .ok (match o with | some x => x :: l | none => l) h2
    | _ => .bad) = _
    rw [e2]
    cases q : P d with
    | true =>
      rw [List.filter_cons, q]
      simp [e3 q, ih]
    | false =>
      rw [List.filter_cons, q]
      simp [ih]
theorem szOk_of {n : Nat} (h : n ≤ 16777216) : szOk n = true := decide_eq_true h
theorem rngD_get {lo : Int} {n : Nat} {d : D} (hd : d ∈ rngD lo n) : ∃ k : Nat, k < n ∧ d = .int (lo + k) := by
  unfold rngD at hd
  obtain ⟨k, hk, rfl⟩ := List.mem_map.mp hd
  exact ⟨k, List.mem_range.mp hk, rfl⟩
end
section
variable {g : G} {a : List SL} {h h1 : List D} {x : E} {i : Int} {k : Bool}
theorem it_rng1 (e : evE g a x h = .ok (.int i) h1) (r : rngOk i = true) : evIt g a k (.rng1 x) h = .ok (rngD 0 i.toNat) h1 := by
  rw [evIt, e]
  simp only [iOf, RE.bind, r, if_true]
theorem bi_comp {t : Tg} {own : List Nat} {it : It} {c : Eo} {b : Bi} {l : List D} {r : D} (e : evE g a (.comp t own it c x) h = .ok (.lst l) h1) (k : opBi b [.lst l] = some r) : evE g a (.bi b (.cons (.comp t own it c x) (.nil))) h = .ok r h1 := by
  have r1 : ro a (.comp t own it c x) (.ok (.lst l) h1) h = .ok (.val (.lst l)) h1 := rfl
  rw [evE, evRs, e, r1, RE.bind_ok, evRs]
  simp only [RE.bind_ok, looks, look, viewH, Option.bind_some, k, RE.lift_some]
theorem ix_ow {v : Nat} {d k r : D} {j : E} (ha : a[v]? = some (.ow d)) (e : evE g a j h = .ok k h1) (o : opIx d k = some r) : evE g a (.ix (.var v) j) h = .ok r h1 := by
  have r1 : ro a (.var v) (evE g a (.var v) h) h = .ok (.slot v) h := by
    show (match a[v]? with
      | some (.pu d) => .ok (.val d) h
      | some (.ow _) => .ok (.slot v) h
      | some (.bo _) => .ok (.slot v) h
      | _ => .bad : RE RV) = _
    rw [ha]
  rw [evE, r1, RE.bind_ok, e, RE.bind_ok]
  simp only [look, ha, Option.bind_some, o, RE.lift_some]
theorem bin_ok {op : Bop} {y : E} {r s : RV} {d e v : D} {h2 : List D} (e1 : ro a x (evE g a x h) h = .ok r h1) (e2 : ro a y (evE g a y h1) h1 = .ok s h2) (l1 : look a h2 r = some d) (l2 : look a h2 s = some e) (o : opB op d e = some v) : evE g a (.bin op x y) h = .ok v h2 := by
  rw [evE, e1, RE.bind_ok, e2, RE.bind_ok, l1, Option.bind_some, l2, Option.bind_some, o, RE.lift_some]
theorem compQ_one {t : Tg} {own : List Nat} {c : Eo} {d v : D} {l r : List D} {a1 : List SL} {h2 h3 h4 : List D} (e1 : asgTg t d (wipeS a own) = some a1) (e2 : evC g a1 c h = .ok true h2) (e3 : evE g a1 x h2 = .ok v h3) (e4 : compQ g a t own c x l h3 = .ok r h4) : compQ g a t own c x (d :: l) h = .ok (v :: r) h4 := by
  rw [compQ_cons, e1]
  show (match (evC g a1 c h).bind fun b h3 => if b then (evE g a1 x h3).bind fun x h4 => .ok (some x) h4 else .ok none h3 with
    | .ok o h1 => (compQ g a t own c x l h1).bind fun l h2 => .ok (match o with | some x => x :: l | none => l) h2
    | _ => .bad) = _
  rw [e2]
  simp [e3, e4]
theorem it_seq {v : Nat} {d : D} {l : List D} (ha : a[v]? = some (.pu d)) (hl : ∀ n, d ≠ .loc n) (w : walkOf d = some l) : evIt g a k (.seq (.var v)) h = .ok l h := by
  have r : roK k a (.var v) (evE g a (.var v) h) h = .ok (.val d) h := by
    cases k
    · show (match a[v]? with
      | some (.pu d) => .ok (.val d) h
      | some (.bo _) => .ok (.slot v) h
      | _ => .bad : RE RV) = _
      rw [ha]
    · show (match a[v]? with
      | some (.pu d) => .ok (.val d) h
      | some (.ow _) => .ok (.slot v) h
      | some (.bo _) => .ok (.slot v) h
      | _ => .bad : RE RV) = _
      rw [ha]
  have f : lookF a (.val d) = some d := by
    cases d <;> first | rfl | exact absurd rfl (hl _)
  rw [evIt, r, RE.bind_ok, f, Option.bind_some, w, RE.lift_some]
theorem bi_var {v : Nat} {d d1 r : D} {b : Bi} (ha : a[v]? = some (.pu d)) (vh : viewH h d = some d1) (o : opBi b [d1] = some r) : evE g a (.bi b (.cons (.var v) (.nil))) h = .ok r h := by
  have r1 : ro a (.var v) (evE g a (.var v) h) h = .ok (.val d) h := by
    show (match a[v]? with
      | some (.pu d) => .ok (.val d) h
      | some (.ow _) => .ok (.slot v) h
      | some (.bo _) => .ok (.slot v) h
      | _ => .bad : RE RV) = _
    rw [ha]
  have l1 : look a h (.val d) = some d1 := vh
  rw [evE, evRs, r1, RE.bind_ok, evRs]
  simp only [RE.bind_ok, looks, l1, Option.bind_some, o, RE.lift_some]
theorem bi_xf {i f c j : Nat} {ds : List D} {d d1 r : D} {b : Bi} (ha : a[i]? = some (.ex c ds)) (hx : g.xfld c f = some j) (hd : ds[j]? = some d) (vh : viewH h d = some d1) (o : opBi b [d1] = some r) : evE g a (.bi b (.cons (.xfld i f) (.nil))) h = .ok r h := by
  have e : evE g a (.xfld i f) h = .ok d h := by
    rw [evE, ha]
    show RE.lift ((g.xfld c f).bind fun j => ds[j]?) h = _
    rw [hx, Option.bind_some, hd, RE.lift_some]
  have r1 : ro a (.xfld i f) (evE g a (.xfld i f) h) h = .ok (.val d) h := by
    rw [e]
    rfl
  have l1 : look a h (.val d) = some d1 := vh
  rw [evE, evRs, r1, RE.bind_ok, evRs]
  simp only [RE.bind_ok, looks, l1, Option.bind_some, o, RE.lift_some]
theorem cmp_ok {op : Cop} {y : E} {d e : D} {v : Bool} {h2 : List D} (e1 : ro a x (evE g a x h) h = .ok (.val d) h1) (e2 : ro a y (evE g a y h1) h1 = .ok (.val e) h2) (l1 : viewH h2 d = some d) (l2 : viewH h2 e = some e) (o : opC op d e = some v) : evE g a (.cmp op x y) h = .ok (.bl v) h2 := by
  have q1 : look a h2 (.val d) = some d := l1
  have q2 : look a h2 (.val e) = some e := l2
  rw [evE, e1, RE.bind_ok, e2, RE.bind_ok, q1, Option.bind_some, q2, Option.bind_some, o, Option.map_some, RE.lift_some]
theorem or_f {y : E} {r : RE Bool} (e1 : tOf (evE g a x h) = .ok false h1) (e2 : tOf (evE g a y h1) = r) : tOf (evE g a (.or x y) h) = r := by
  rw [evE, e1]
  exact e2
theorem and_t {y : E} {r : RE Bool} (e1 : tOf (evE g a x h) = .ok true h1) (e2 : tOf (evE g a y h1) = r) : tOf (evE g a (.and x y) h) = r := by
  rw [evE, e1]
  exact e2
theorem and_f {y : E} (e1 : tOf (evE g a x h) = .ok false h1) : tOf (evE g a (.and x y) h) = .ok false h1 := by
  rw [evE, e1]
  rfl
end
/-! ### lists of numbers -/
theorem intsD_map {T : Type} {f : T → Int} : ∀ l : List T, intsD (l.map fun x => .int (f x)) = some (l.map f)
  | [] => rfl
  | x :: l => by
    rw [List.map_cons, List.map_cons, intsD, intsD_map l]
    rfl
theorem foldl_max : ∀ (r : List Int) (i m : Int), m ∈ i :: r → (∀ x ∈ i :: r, x ≤ m) → r.foldl max i = m
  | [], i, m, hm, _ => by
    rcases List.mem_cons.mp hm with rfl | h
    · rfl
    · cases h
  | j :: r, i, m, hm, hall => by
    have hi := hall i (List.mem_cons_self ..)
    have hj := hall j (List.mem_cons_of_mem _ (List.mem_cons_self ..))
    rw [List.foldl_cons]
    refine foldl_max r (max i j) m ?_ ?_
    · rcases List.mem_cons.mp hm with rfl | h
      · have : max m j = m := by omega
        rw [this]
        exact List.mem_cons_self ..
      · rcases List.mem_cons.mp h with rfl | h
        · have : max i m = m := by omega
          rw [this]
          exact List.mem_cons_self ..
        · exact List.mem_cons_of_mem _ h
    · intro x hx
      rcases List.mem_cons.mp hx with rfl | h
      · omega
      · exact hall x (List.mem_cons_of_mem _ (List.mem_cons_of_mem _ h))
theorem maxI_of {l : List Int} {m : Int} (hm : m ∈ l) (hall : ∀ x ∈ l, x ≤ m) : maxI l = some m := by
  cases l with
  | nil => cases hm
  | cons i r => exact congrArg some (foldl_max r i m hm hall)
theorem foldl_min : ∀ (r : List Int) (i m : Int), m ∈ i :: r → (∀ x ∈ i :: r, m ≤ x) → r.foldl min i = m
  | [], i, m, hm, _ => by
    rcases List.mem_cons.mp hm with rfl | h
    · rfl
    · cases h
  | j :: r, i, m, hm, hall => by
    have hi := hall i (List.mem_cons_self ..)
    have hj := hall j (List.mem_cons_of_mem _ (List.mem_cons_self ..))
    rw [List.foldl_cons]
    refine foldl_min r (min i j) m ?_ ?_
    · rcases List.mem_cons.mp hm with rfl | h
      · have : min m j = m := by omega
        rw [this]
        exact List.mem_cons_self ..
      · rcases List.mem_cons.mp h with rfl | h
        · have : min i m = m := by omega
          rw [this]
          exact List.mem_cons_self ..
        · exact List.mem_cons_of_mem _ h
    · intro x hx
      rcases List.mem_cons.mp hx with rfl | h
      · omega
      · exact hall x (List.mem_cons_of_mem _ (List.mem_cons_of_mem _ h))
theorem minI_of {l : List Int} {m : Int} (hm : m ∈ l) (hall : ∀ x ∈ l, m ≤ x) : minI l = some m := by
  cases l with
  | nil => cases hm
  | cons i r => exact congrArg some (foldl_min r i m hm hall)
/-! ### equal to itself -/
mutual
theorem eqb_refl : ∀ (n : Nat) (d : D), D.ok n d = true → D.eqb d d = true
  | _, .non, _ => rfl
  | _, .bl b, _ => by cases b <;> rfl
  | _, .int i, _ => by show (i == i) = true; exact beq_self_eq_true i
  | _, .str x, _ => by show (x == x) = true; exact beq_self_eq_true x
  | n + 1, .tup l, h => eqbAll_refl n l h
  | n + 1, .lst l, h => eqbAll_refl n l h
  | 0, .tup l, h => by cases h
  | 0, .lst l, h => by cases h
  | 0, .zst _, h => by cases h
  | _ + 1, .zst _, h => by cases h
  | 0, .dct _ _, h => by cases h
  | _ + 1, .dct _ _, h => by cases h
  | 0, .ins _ _, h => by cases h
  | _ + 1, .ins _ _, h => by cases h
  | 0, .loc _, h => by cases h
  | _ + 1, .loc _, h => by cases h
  | 0, .fn _, h => by cases h
  | _ + 1, .fn _, h => by cases h
theorem eqbAll_refl : ∀ (n : Nat) (l : List D), D.okAll n l = true → D.eqbAll l l = true
  | _, [], _ => rfl
  | n, d :: l, h => by
    have h : (D.ok n d && D.okAll n l) = true := h
    rw [Bool.and_eq_true] at h
    show (D.eqb d d && D.eqbAll l l) = true
    rw [eqb_refl n d h.1, eqbAll_refl n l h.2]
    rfl
end
theorem eq_self {d : D} (h : d.ok DEPTH = true) : eqD d d = some true := by
  unfold eqD
  rw [h, eqb_refl _ _ h]
  rfl
/-! ### alike -/
def D.al : Nat → D → Bool
  | _, .non => true
  | _, .bl _ => true
  | _, .int _ => true
  | _, .str x => x.cps.all (· < 0x110000)
  | k + 1, .tup l => decide (l.length < 1000) && l.all (D.al k)
  | k + 1, .lst l => decide (l.length < 1000) && l.all (D.al k)
  | _, _ => false
section
variable {p : P} {f : Nat}
theorem eq_nil : eqD (.lst []) (.lst []) = some true := by rfl
theorem eq_bl : ∀ b : Bool, eqD (.bl b) (.bl b) = some true := fun b => by cases b <;> rfl
theorem eq_in {i : Int} : eqD (.int i) (.int i) = some true := by
  have : eqD (.int i) (.int i) = some (i == i) := rfl
  rw [this, beq_self_eq_true]
theorem eq_st {x : PySem.Str} (h : x.cps.all (· < 0x110000) = true) : eqD (.str x) (.str x) = some true := by
  have : eqD (.str x) (.str x) = if x.cps.all (· < 0x110000) && x.cps.all (· < 0x110000) then some (x == x) else none := rfl
  rw [this, h, beq_self_eq_true]
  rfl
theorem md_al (hf : p.fns[f]? = some (bAlike f)) : p.modes f = [.pu, .pu] := by unfold P.modes; rw [hf]; rfl
theorem rng1000 {k : Nat} (hl : k < 1000) : rngOk (k : Int) = true := by
  unfold rngOk
  rw [Bool.and_eq_true]
  exact ⟨decide_eq_true (by omega), decide_eq_true (by omega)⟩
abbrev alE (f : Nat) : E := .call f (.cons (.ix (.var 0) (.var 2)) (.cons (.ix (.var 1) (.var 2)) (.nil)))
theorem al_comp {n : Nat} {l h : List D} {D1 : D} (hf : p.fns[f]? = some (bAlike f)) (hD : D1 = .tup l ∨ D1 = .lst l) (k : ∀ d ∈ l, p.run n f [d, d] h = .ok (.bl true) false h) : compQ (p.g n) [.pu D1, .pu D1, .no] (.name 2) [2] (.some (.not (alE f))) (.var 2) (rngD 0 l.length) h = .ok [] h := by
  have q : compQ (p.g n) [.pu D1, .pu D1, .no] (.name 2) [2] (.some (.not (alE f))) (.var 2) (rngD 0 l.length) h = .ok (((List.range l.length).filter fun _ => false).map fun k : Nat => .int (0 + k)) h := by
    refine compQ_fil (F := fun k : Nat => D.int (0 + k)) (P := fun _ => false) fun j hj => ?_
    refine ⟨[.pu D1, .pu D1, .pu (.int (0 + j))], rfl, ?_, fun z => by cases z⟩
    have hj := List.mem_range.mp hj
    have e := k l[j] (List.getElem_mem hj)
    have g : l[j]? = some l[j] := List.getElem?_eq_getElem hj
    have z : (0 : Int) + j = j := by omega
    rw [z]
    rcases hD with rfl | rfl <;> simp [evE.eq_1, evE.eq_2, evE.eq_3, evE.eq_4, evE.eq_5, evE.eq_6, evE.eq_7, evE.eq_8, evE.eq_9, evE.eq_10, evE.eq_11, evE.eq_12, evE.eq_13, evE.eq_14, evE.eq_15, evE.eq_16, evE.eq_17, evE.eq_18, evE.eq_19, evE.eq_20, evE.eq_21, evE.eq_22, evE.eq_23, evE.eq_24, evE.eq_25, evE.eq_26, evE.eq_27, evE.eq_28, evE.eq_29, evE_comp, evE_rngl1, evE_rngl2, evE_isx, evE_xkw, evS.eq_1, evS.eq_2, evS.eq_3, evS.eq_4, evS.eq_5, evS.eq_6, evS.eq_7, evS.eq_8, evS.eq_9, evS.eq_10, evS.eq_11, evS.eq_12, evS.eq_13, evS.eq_16, evS.eq_17, evS.eq_18, evS.eq_19, evS.eq_20, evS.eq_21, evS.eq_22, evS_whl, evS_for, evEs, evRs, evEo, evC, evIt, evSs, evHs, evF, ro, roK, look, looks, lookF, viewH, opB, opC, cmpI, opIx, ixI, opBi, tOf, iOf, slotsOf, slotOf, endF, RE.lift, RE.fst, RE.bind, RE.thenS, RS.seq, RC.reB, callG, passA, passOne, asgTg, asgTgs, g_run, g_modes, g_w, g_sub, g_ncls, g_xfld, szOk_lit, turnQ, List.zipWith, walkOf, md_al hf, g, hj, e]
  rw [q]
  simp
theorem al_row {n : Nat} {l h : List D} {D1 : D} (hf : p.fns[f]? = some (bAlike f)) (hD : D1 = .tup l ∨ D1 = .lst l) (hl : l.length < 1000) (k : ∀ d ∈ l, p.run n f [d, d] h = .ok (.bl true) false h) : p.run (n + 1) f [D1, D1] h = .ok (.bl true) false h := by
  rw [run_eq hf rfl]
  have r1 := rng1000 hl
  have c := al_comp (n := n) hf hD k
  have c2 : evE (p.g n) [.pu D1, .pu D1, .no] (.comp (.name 2) [2] (.rng1 (.bi .len (.cons (.var 1) (.nil)))) (.some (.not (alE f))) (.var 2)) h = .ok (.lst []) h := by
    refine comp_ok rfl (l := rngD 0 l.length) (h1 := h) (it_rng1 ?_ r1) c (szOk_of (Nat.zero_le _))
    rcases hD with rfl | rfl <;> simp [evE.eq_1, evE.eq_2, evE.eq_3, evE.eq_4, evE.eq_5, evE.eq_6, evE.eq_7, evE.eq_8, evE.eq_9, evE.eq_10, evE.eq_11, evE.eq_12, evE.eq_13, evE.eq_14, evE.eq_15, evE.eq_16, evE.eq_17, evE.eq_18, evE.eq_19, evE.eq_20, evE.eq_21, evE.eq_22, evE.eq_23, evE.eq_24, evE.eq_25, evE.eq_26, evE.eq_27, evE.eq_28, evE.eq_29, evE_comp, evE_rngl1, evE_rngl2, evE_isx, evE_xkw, evS.eq_1, evS.eq_2, evS.eq_3, evS.eq_4, evS.eq_5, evS.eq_6, evS.eq_7, evS.eq_8, evS.eq_9, evS.eq_10, evS.eq_11, evS.eq_12, evS.eq_13, evS.eq_16, evS.eq_17, evS.eq_18, evS.eq_19, evS.eq_20, evS.eq_21, evS.eq_22, evS_whl, evS_for, evEs, evRs, evEo, evC, evIt, evSs, evHs, evF, ro, roK, look, looks, lookF, viewH, opB, opC, cmpI, opIx, ixI, opBi, tOf, iOf, slotsOf, slotOf, endF, RE.lift, RE.fst, RE.bind, RE.thenS, RS.seq, RC.reB, callG, passA, passOne, asgTg, asgTgs, g_run, g_modes, g_w, g_sub, g_ncls, g_xfld, szOk_lit, turnQ, List.zipWith, walkOf]
  unfold bAlike
  refine congrArg (endF false) (evSs_ret (d := .bl true) (fr := false) (h1 := h) (ifs_t (h1 := h) ?_ (evSs_nx (a1 := [.pu D1, .pu D1, .no]) (h1 := h) (ifs_f (h1 := h) ?_ rfl) (evSs_nx (a1 := [.pu D1, .pu D1, .no]) (h1 := h) (ifs_f (h1 := h) ?_ rfl) (evSs_ret ?_)))))
  · rcases hD with rfl | rfl <;> simp [evE.eq_1, evE.eq_2, evE.eq_3, evE.eq_4, evE.eq_5, evE.eq_6, evE.eq_7, evE.eq_8, evE.eq_9, evE.eq_10, evE.eq_11, evE.eq_12, evE.eq_13, evE.eq_14, evE.eq_15, evE.eq_16, evE.eq_17, evE.eq_18, evE.eq_19, evE.eq_20, evE.eq_21, evE.eq_22, evE.eq_23, evE.eq_24, evE.eq_25, evE.eq_26, evE.eq_27, evE.eq_28, evE.eq_29, evE_comp, evE_rngl1, evE_rngl2, evE_isx, evE_xkw, evS.eq_1, evS.eq_2, evS.eq_3, evS.eq_4, evS.eq_5, evS.eq_6, evS.eq_7, evS.eq_8, evS.eq_9, evS.eq_10, evS.eq_11, evS.eq_12, evS.eq_13, evS.eq_16, evS.eq_17, evS.eq_18, evS.eq_19, evS.eq_20, evS.eq_21, evS.eq_22, evS_whl, evS_for, evEs, evRs, evEo, evC, evIt, evSs, evHs, evF, ro, roK, look, looks, lookF, viewH, opB, opC, cmpI, opIx, ixI, opBi, tOf, iOf, slotsOf, slotOf, endF, RE.lift, RE.fst, RE.bind, RE.thenS, RS.seq, RC.reB, callG, passA, passOne, asgTg, asgTgs, g_run, g_modes, g_w, g_sub, g_ncls, g_xfld, szOk_lit, turnQ, List.zipWith, walkOf, isTy, tyOk, tyOk2]
  · rcases hD with rfl | rfl <;> simp [evE.eq_1, evE.eq_2, evE.eq_3, evE.eq_4, evE.eq_5, evE.eq_6, evE.eq_7, evE.eq_8, evE.eq_9, evE.eq_10, evE.eq_11, evE.eq_12, evE.eq_13, evE.eq_14, evE.eq_15, evE.eq_16, evE.eq_17, evE.eq_18, evE.eq_19, evE.eq_20, evE.eq_21, evE.eq_22, evE.eq_23, evE.eq_24, evE.eq_25, evE.eq_26, evE.eq_27, evE.eq_28, evE.eq_29, evE_comp, evE_rngl1, evE_rngl2, evE_isx, evE_xkw, evS.eq_1, evS.eq_2, evS.eq_3, evS.eq_4, evS.eq_5, evS.eq_6, evS.eq_7, evS.eq_8, evS.eq_9, evS.eq_10, evS.eq_11, evS.eq_12, evS.eq_13, evS.eq_16, evS.eq_17, evS.eq_18, evS.eq_19, evS.eq_20, evS.eq_21, evS.eq_22, evS_whl, evS_for, evEs, evRs, evEo, evC, evIt, evSs, evHs, evF, ro, roK, look, looks, lookF, viewH, opB, opC, cmpI, opIx, ixI, opBi, tOf, iOf, slotsOf, slotOf, endF, RE.lift, RE.fst, RE.bind, RE.thenS, RS.seq, RC.reB, callG, passA, passOne, asgTg, asgTgs, g_run, g_modes, g_w, g_sub, g_ncls, g_xfld, szOk_lit, turnQ, List.zipWith, walkOf, isTy, tyOk, tyOk2, eq_bl]
  · rcases hD with rfl | rfl <;> simp [evE.eq_1, evE.eq_2, evE.eq_3, evE.eq_4, evE.eq_5, evE.eq_6, evE.eq_7, evE.eq_8, evE.eq_9, evE.eq_10, evE.eq_11, evE.eq_12, evE.eq_13, evE.eq_14, evE.eq_15, evE.eq_16, evE.eq_17, evE.eq_18, evE.eq_19, evE.eq_20, evE.eq_21, evE.eq_22, evE.eq_23, evE.eq_24, evE.eq_25, evE.eq_26, evE.eq_27, evE.eq_28, evE.eq_29, evE_comp, evE_rngl1, evE_rngl2, evE_isx, evE_xkw, evS.eq_1, evS.eq_2, evS.eq_3, evS.eq_4, evS.eq_5, evS.eq_6, evS.eq_7, evS.eq_8, evS.eq_9, evS.eq_10, evS.eq_11, evS.eq_12, evS.eq_13, evS.eq_16, evS.eq_17, evS.eq_18, evS.eq_19, evS.eq_20, evS.eq_21, evS.eq_22, evS_whl, evS_for, evEs, evRs, evEo, evC, evIt, evSs, evHs, evF, ro, roK, look, looks, lookF, viewH, opB, opC, cmpI, opIx, ixI, opBi, tOf, iOf, slotsOf, slotOf, endF, RE.lift, RE.fst, RE.bind, RE.thenS, RS.seq, RC.reB, callG, passA, passOne, asgTg, asgTgs, g_run, g_modes, g_w, g_sub, g_ncls, g_xfld, szOk_lit, turnQ, List.zipWith, walkOf, eq_in]
  · rw [evS, evE.eq_9]
    have c3 : ro [.pu D1, .pu D1, .no] (.comp (.name 2) [2] (.rng1 (.bi .len (.cons (.var 1) (.nil)))) (.some (.not (alE f))) (.var 2)) (.ok (.lst []) h) h = .ok (.val (.lst [])) h := rfl
    show RE.thenS ((ro [.pu D1, .pu D1, .no] (.comp (.name 2) [2] (.rng1 (.bi .len (.cons (.var 1) (.nil)))) (.some (.not (alE f))) (.var 2)) (evE (p.g n) [.pu D1, .pu D1, .no] (.comp (.name 2) [2] (.rng1 (.bi .len (.cons (.var 1) (.nil)))) (.some (.not (alE f))) (.var 2)) h) h).bind _) _ _ = _
    rw [c2, c3]
    simp [evE.eq_1, evE.eq_2, evE.eq_3, evE.eq_4, evE.eq_5, evE.eq_6, evE.eq_7, evE.eq_8, evE.eq_9, evE.eq_10, evE.eq_11, evE.eq_12, evE.eq_13, evE.eq_14, evE.eq_15, evE.eq_16, evE.eq_17, evE.eq_18, evE.eq_19, evE.eq_20, evE.eq_21, evE.eq_22, evE.eq_23, evE.eq_24, evE.eq_25, evE.eq_26, evE.eq_27, evE.eq_28, evE.eq_29, evE_comp, evE_rngl1, evE_rngl2, evE_isx, evE_xkw, evS.eq_1, evS.eq_2, evS.eq_3, evS.eq_4, evS.eq_5, evS.eq_6, evS.eq_7, evS.eq_8, evS.eq_9, evS.eq_10, evS.eq_11, evS.eq_12, evS.eq_13, evS.eq_16, evS.eq_17, evS.eq_18, evS.eq_19, evS.eq_20, evS.eq_21, evS.eq_22, evS_whl, evS_for, evEs, evRs, evEo, evC, evIt, evSs, evHs, evF, ro, roK, look, looks, lookF, viewH, opB, opC, cmpI, opIx, ixI, opBi, tOf, iOf, slotsOf, slotOf, endF, RE.lift, RE.fst, RE.bind, RE.thenS, RS.seq, RC.reB, callG, passA, passOne, asgTg, asgTgs, g_run, g_modes, g_w, g_sub, g_ncls, g_xfld, szOk_lit, turnQ, List.zipWith, walkOf, eq_nil]
theorem al_leaf {n : Nat} {d : D} {h : List D} (hf : p.fns[f]? = some (bAlike f)) (hd : d = .non ∨ (∃ b, d = .bl b) ∨ (∃ i, d = .int i) ∨ ∃ x : PySem.Str, d = .str x ∧ x.cps.all (· < 0x110000) = true) : p.run (n + 1) f [d, d] h = .ok (.bl true) false h := by
  rw [run_eq hf rfl]
  unfold bAlike
  have en : eqD .non .non = some true := rfl
  rcases hd with rfl | ⟨b, rfl⟩ | ⟨i, rfl⟩ | ⟨x, rfl, hx⟩
  · simp [evE.eq_1, evE.eq_2, evE.eq_3, evE.eq_4, evE.eq_5, evE.eq_6, evE.eq_7, evE.eq_8, evE.eq_9, evE.eq_10, evE.eq_11, evE.eq_12, evE.eq_13, evE.eq_14, evE.eq_15, evE.eq_16, evE.eq_17, evE.eq_18, evE.eq_19, evE.eq_20, evE.eq_21, evE.eq_22, evE.eq_23, evE.eq_24, evE.eq_25, evE.eq_26, evE.eq_27, evE.eq_28, evE.eq_29, evE_comp, evE_rngl1, evE_rngl2, evE_isx, evE_xkw, evS.eq_1, evS.eq_2, evS.eq_3, evS.eq_4, evS.eq_5, evS.eq_6, evS.eq_7, evS.eq_8, evS.eq_9, evS.eq_10, evS.eq_11, evS.eq_12, evS.eq_13, evS.eq_16, evS.eq_17, evS.eq_18, evS.eq_19, evS.eq_20, evS.eq_21, evS.eq_22, evS_whl, evS_for, evEs, evRs, evEo, evC, evIt, evSs, evHs, evF, ro, roK, look, looks, lookF, viewH, opB, opC, cmpI, opIx, ixI, opBi, tOf, iOf, slotsOf, slotOf, endF, RE.lift, RE.fst, RE.bind, RE.thenS, RS.seq, RC.reB, callG, passA, passOne, asgTg, asgTgs, g_run, g_modes, g_w, g_sub, g_ncls, g_xfld, szOk_lit, turnQ, List.zipWith, walkOf, isTy, tyOk, tyOk2, eq_bl, isNonD, en]
  · simp [evE.eq_1, evE.eq_2, evE.eq_3, evE.eq_4, evE.eq_5, evE.eq_6, evE.eq_7, evE.eq_8, evE.eq_9, evE.eq_10, evE.eq_11, evE.eq_12, evE.eq_13, evE.eq_14, evE.eq_15, evE.eq_16, evE.eq_17, evE.eq_18, evE.eq_19, evE.eq_20, evE.eq_21, evE.eq_22, evE.eq_23, evE.eq_24, evE.eq_25, evE.eq_26, evE.eq_27, evE.eq_28, evE.eq_29, evE_comp, evE_rngl1, evE_rngl2, evE_isx, evE_xkw, evS.eq_1, evS.eq_2, evS.eq_3, evS.eq_4, evS.eq_5, evS.eq_6, evS.eq_7, evS.eq_8, evS.eq_9, evS.eq_10, evS.eq_11, evS.eq_12, evS.eq_13, evS.eq_16, evS.eq_17, evS.eq_18, evS.eq_19, evS.eq_20, evS.eq_21, evS.eq_22, evS_whl, evS_for, evEs, evRs, evEo, evC, evIt, evSs, evHs, evF, ro, roK, look, looks, lookF, viewH, opB, opC, cmpI, opIx, ixI, opBi, tOf, iOf, slotsOf, slotOf, endF, RE.lift, RE.fst, RE.bind, RE.thenS, RS.seq, RC.reB, callG, passA, passOne, asgTg, asgTgs, g_run, g_modes, g_w, g_sub, g_ncls, g_xfld, szOk_lit, turnQ, List.zipWith, walkOf, isTy, tyOk, tyOk2, eq_bl, isNonD]
  · simp [evE.eq_1, evE.eq_2, evE.eq_3, evE.eq_4, evE.eq_5, evE.eq_6, evE.eq_7, evE.eq_8, evE.eq_9, evE.eq_10, evE.eq_11, evE.eq_12, evE.eq_13, evE.eq_14, evE.eq_15, evE.eq_16, evE.eq_17, evE.eq_18, evE.eq_19, evE.eq_20, evE.eq_21, evE.eq_22, evE.eq_23, evE.eq_24, evE.eq_25, evE.eq_26, evE.eq_27, evE.eq_28, evE.eq_29, evE_comp, evE_rngl1, evE_rngl2, evE_isx, evE_xkw, evS.eq_1, evS.eq_2, evS.eq_3, evS.eq_4, evS.eq_5, evS.eq_6, evS.eq_7, evS.eq_8, evS.eq_9, evS.eq_10, evS.eq_11, evS.eq_12, evS.eq_13, evS.eq_16, evS.eq_17, evS.eq_18, evS.eq_19, evS.eq_20, evS.eq_21, evS.eq_22, evS_whl, evS_for, evEs, evRs, evEo, evC, evIt, evSs, evHs, evF, ro, roK, look, looks, lookF, viewH, opB, opC, cmpI, opIx, ixI, opBi, tOf, iOf, slotsOf, slotOf, endF, RE.lift, RE.fst, RE.bind, RE.thenS, RS.seq, RC.reB, callG, passA, passOne, asgTg, asgTgs, g_run, g_modes, g_w, g_sub, g_ncls, g_xfld, szOk_lit, turnQ, List.zipWith, walkOf, isTy, tyOk, tyOk2, eq_bl, isNonD, eq_in]
  · simp [evE.eq_1, evE.eq_2, evE.eq_3, evE.eq_4, evE.eq_5, evE.eq_6, evE.eq_7, evE.eq_8, evE.eq_9, evE.eq_10, evE.eq_11, evE.eq_12, evE.eq_13, evE.eq_14, evE.eq_15, evE.eq_16, evE.eq_17, evE.eq_18, evE.eq_19, evE.eq_20, evE.eq_21, evE.eq_22, evE.eq_23, evE.eq_24, evE.eq_25, evE.eq_26, evE.eq_27, evE.eq_28, evE.eq_29, evE_comp, evE_rngl1, evE_rngl2, evE_isx, evE_xkw, evS.eq_1, evS.eq_2, evS.eq_3, evS.eq_4, evS.eq_5, evS.eq_6, evS.eq_7, evS.eq_8, evS.eq_9, evS.eq_10, evS.eq_11, evS.eq_12, evS.eq_13, evS.eq_16, evS.eq_17, evS.eq_18, evS.eq_19, evS.eq_20, evS.eq_21, evS.eq_22, evS_whl, evS_for, evEs, evRs, evEo, evC, evIt, evSs, evHs, evF, ro, roK, look, looks, lookF, viewH, opB, opC, cmpI, opIx, ixI, opBi, tOf, iOf, slotsOf, slotOf, endF, RE.lift, RE.fst, RE.bind, RE.thenS, RS.seq, RC.reB, callG, passA, passOne, asgTg, asgTgs, g_run, g_modes, g_w, g_sub, g_ncls, g_xfld, szOk_lit, turnQ, List.zipWith, walkOf, isTy, tyOk, tyOk2, eq_bl, isNonD, eq_st hx]
theorem al_same (hf : p.fns[f]? = some (bAlike f)) {n : Nat} {h : List D} : ∀ (k : Nat) (d : D), d.al k = true → p.run (n + k + 1) f [d, d] h = .ok (.bl true) false h
  | _, .non, _ => al_leaf hf (.inl rfl)
  | _, .bl b, _ => al_leaf hf (.inr (.inl ⟨b, rfl⟩))
  | _, .int b, _ => al_leaf hf (.inr (.inr (.inl ⟨b, rfl⟩)))
  | k, .str b, e => al_leaf hf (.inr (.inr (.inr ⟨b, rfl, by cases k <;> exact e⟩)))
  | k + 1, .tup l, e => by
    have e : (decide (l.length < 1000) && l.all (D.al k)) = true := e
    rw [Bool.and_eq_true, List.all_eq_true] at e
    exact al_row hf (.inl rfl) (of_decide_eq_true e.1) fun d hd => al_same hf k d (e.2 d hd)
  | k + 1, .lst l, e => by
    have e : (decide (l.length < 1000) && l.all (D.al k)) = true := e
    rw [Bool.and_eq_true, List.all_eq_true] at e
    exact al_row hf (.inr rfl) (of_decide_eq_true e.1) fun d hd => al_same hf k d (e.2 d hd)
  | 0, .tup _, e => by cases e
  | 0, .lst _, e => by cases e
  | 0, .zst _, e => by cases e
  | _ + 1, .zst _, e => by cases e
  | 0, .dct _ _, e => by cases e
  | _ + 1, .dct _ _, e => by cases e
  | 0, .ins _ _, e => by cases e
  | _ + 1, .ins _ _, e => by cases e
  | 0, .loc _, e => by cases e
  | _ + 1, .loc _, e => by cases e
  | 0, .fn _, e => by cases e
  | _ + 1, .fn _, e => by cases e
/-! ### truth -/
theorem truth {n : Nat} {h : List D} (hf : p.fns[f]? = some bTruth) {b : Bool} : p.run (n + 1) f [.bl b, .bl b] h = .ok (.bl true) false h := by
  rw [run_eq hf rfl]
  unfold bTruth
  simp [evE.eq_1, evE.eq_2, evE.eq_3, evE.eq_4, evE.eq_5, evE.eq_6, evE.eq_7, evE.eq_8, evE.eq_9, evE.eq_10, evE.eq_11, evE.eq_12, evE.eq_13, evE.eq_14, evE.eq_15, evE.eq_16, evE.eq_17, evE.eq_18, evE.eq_19, evE.eq_20, evE.eq_21, evE.eq_22, evE.eq_23, evE.eq_24, evE.eq_25, evE.eq_26, evE.eq_27, evE.eq_28, evE.eq_29, evE_comp, evE_rngl1, evE_rngl2, evE_isx, evE_xkw, evS.eq_1, evS.eq_2, evS.eq_3, evS.eq_4, evS.eq_5, evS.eq_6, evS.eq_7, evS.eq_8, evS.eq_9, evS.eq_10, evS.eq_11, evS.eq_12, evS.eq_13, evS.eq_16, evS.eq_17, evS.eq_18, evS.eq_19, evS.eq_20, evS.eq_21, evS.eq_22, evS_whl, evS_for, evEs, evRs, evEo, evC, evIt, evSs, evHs, evF, ro, roK, look, looks, lookF, viewH, opB, opC, cmpI, opIx, ixI, opBi, tOf, iOf, slotsOf, slotOf, endF, RE.lift, RE.fst, RE.bind, RE.thenS, RS.seq, RC.reB, callG, passA, passOne, asgTg, asgTgs, g_run, g_modes, g_w, g_sub, g_ncls, g_xfld, szOk_lit, turnQ, List.zipWith, walkOf, isTy, tyOk, tyOk2, eq_bl]
end
end Ev
end
section
set_option Elab.async false
set_option linter.all false
set_option maxRecDepth 100000
set_option maxHeartbeats 1000000
/-! Ev, part B: what stands for data in the tracked heap. -/
namespace Ev
open PySem PySem.Spec PyProof.Rows L2
abbrev St := L2.St

/-- where the program's things stand: classes, functions, fields' names -/
structure Tb where
  K : PySem.W.Frag
  cls : Nat → Addr
  flds : Nat → List Str
  fnA : Nat → Addr
  xcls : Nat → Addr
  xflds : Nat → List Str
  xa : Option (Addr × Nat × Option Addr)
/-- a world: what is kept for the callers (Pr), frozen at the entry (F0), frozen now (F), the heap, the shared objects -/
structure Wo where
  Pr : Hp
  F0 : Hp
  F : Hp
  H : Hp
  m : List Addr
  hh : List D
  me : Option Addr
structure Wo.le (w w' : Wo) : Prop where
  pr : w'.Pr = w.Pr
  f0 : w'.F0 = w.F0
  f : ∀ p o, w.F p = some o → w'.F p = some o
  m : ∀ (n : Nat) (p : Addr), w.m[n]? = some p → w'.m[n]? = some p
  me : w'.me = w.me
theorem Wo.le.refl (w : Wo) : w.le w := ⟨rfl, rfl, fun _ _ h => h, fun _ _ h => h, rfl⟩
theorem Wo.le.trans {a b c : Wo} (h : a.le b) (k : b.le c) : a.le c := ⟨k.pr.trans h.pr, k.f0.trans h.f0, fun p o e => k.f p o (h.f p o e), fun n p e => k.m n p (h.m n p e), k.me.trans h.me⟩

/-- the value v stands for d, for ever -/
inductive Fz (T : Tb) (m : List Addr) (F : Hp) : V → D → Prop where
  | non : Fz T m F .non .non
  | bl (b : Bool) : Fz T m F (.bl b) (.bl b)
  | int (i : Int) : Fz T m F (.int i) (.int i)
  | str (x : Str) : Fz T m F (.str x) (.str x)
  | tup {a : Addr} {xs : List V} {ds : List D} : SqT T.K F a xs → xs.length = ds.length → (∀ (i : Nat) (x : V) (d : D), xs[i]? = some x → ds[i]? = some d → Fz T m F x d) → Fz T m F (.ref a) (.tup ds)
  | lst {a : Addr} {xs : List V} {ds : List D} : F a = some (.lst xs) → xs.length = ds.length → (∀ (i : Nat) (x : V) (d : D), xs[i]? = some x → ds[i]? = some d → Fz T m F x d) → Fz T m F (.ref a) (.lst ds)
  | zst {a : Addr} {xs : List V} {ds : List D} : SqL T.K F a xs → xs.length = ds.length → (∀ (i : Nat) (x : V) (d : D), xs[i]? = some x → ds[i]? = some d → Fz T m F x d) → Fz T m F (.ref a) (.zst ds)
  | ins {a dx : Addr} {c : Nat} {xs : List V} {ds : List D} : F a = some (.ins (T.cls c) dx ((T.flds c).zip xs)) → xs.length ≤ (T.flds c).length → xs.length = ds.length →
      (∀ (i : Nat) (x : V) (d : D), xs[i]? = some x → ds[i]? = some d → Fz T m F x d) → Fz T m F (.ref a) (.ins c ds)
  | loc {a : Addr} {n : Nat} : m[n]? = some a → Fz T m F (.ref a) (.loc n)
  | fn (n : Nat) : Fz T m F (.ref (T.fnA n)) (.fn n)
/-- a row of values stands for a row of data -/
def FzL (T : Tb) (m : List Addr) (F : Hp) (xs : List V) (ds : List D) : Prop := xs.length = ds.length ∧ ∀ (i : Nat) (x : V) (d : D), xs[i]? = some x → ds[i]? = some d → Fz T m F x d
section
variable {T : Tb} {m m' : List Addr} {F F' : Hp} {H H' : Hp}
theorem rd_mono {a : Addr} {u : HO} (hf : ∀ p o, F p = some o → F' p = some o) (h : Rd F a u) : Rd F' a u := by
  rcases h with h | ⟨o, h⟩
  · exact .inl (hf _ _ h)
  · exact .inr ⟨o, hf _ _ h⟩
theorem sqT_mono {K : PySem.W.Frag} {a : Addr} {xs : List V} (hf : ∀ p o, F p = some o → F' p = some o) (h : SqT K F a xs) : SqT K F' a xs := h.imp (rd_mono hf) fun z => z
theorem sqL_mono {K : PySem.W.Frag} {a : Addr} {xs : List V} (hf : ∀ p o, F p = some o → F' p = some o) (h : SqL K F a xs) : SqL K F' a xs := h.imp (rd_mono hf) fun z => z
theorem Fz.mono (hf : ∀ p o, F p = some o → F' p = some o) (hm : ∀ (n : Nat) (p : Addr), m[n]? = some p → m'[n]? = some p) {v : V} {d : D} (h : Fz T m F v d) : Fz T m' F' v d := by
  induction h with
  | non => exact .non
  | bl b => exact .bl b
  | int i => exact .int i
  | str x => exact .str x
  | tup h1 h2 _ ih => exact .tup (sqT_mono hf h1) h2 ih
  | lst h1 h2 _ ih => exact .lst (hf _ _ h1) h2 ih
  | zst h1 h2 _ ih => exact .zst (sqL_mono hf h1) h2 ih
  | ins h1 h2 h3 _ ih => exact .ins (hf _ _ h1) h2 h3 ih
  | loc h => exact .loc (hm _ _ h)
  | fn n => exact .fn n
theorem FzL.mono (hf : ∀ p o, F p = some o → F' p = some o) (hm : ∀ (n : Nat) (p : Addr), m[n]? = some p → m'[n]? = some p) {xs : List V} {ds : List D} (h : FzL T m F xs ds) : FzL T m' F' xs ds :=
  ⟨h.1, fun i x d e1 e2 => (h.2 i x d e1 e2).mono hf hm⟩
theorem FzL.nil : FzL T m F [] [] := ⟨rfl, fun i x d e => by simp at e⟩
theorem FzL.cons {x : V} {d : D} {xs : List V} {ds : List D} (h : Fz T m F x d) (r : FzL T m F xs ds) : FzL T m F (x :: xs) (d :: ds) := by
  refine ⟨by simp [r.1], fun i y e e1 e2 => ?_⟩
  cases i with
  | zero => simp at e1 e2; subst e1 e2; exact h
  | succ i => exact r.2 i y e (by simpa using e1) (by simpa using e2)
theorem FzL.append {xs ys : List V} {ds es : List D} (h : FzL T m F xs ds) (r : FzL T m F ys es) : FzL T m F (xs ++ ys) (ds ++ es) := by
  refine ⟨by simp [h.1, r.1], fun i y e e1 e2 => ?_⟩
  by_cases hi : i < xs.length
  · rw [List.getElem?_append_left hi] at e1
    rw [List.getElem?_append_left (by rw [← h.1]; exact hi)] at e2
    exact h.2 i y e e1 e2
  · rw [List.getElem?_append_right (by omega)] at e1
    rw [List.getElem?_append_right (by rw [← h.1]; omega), ← h.1] at e2
    exact r.2 _ y e e1 e2
theorem FzL.take {xs : List V} {ds : List D} (n : Nat) (h : FzL T m F xs ds) : FzL T m F (xs.take n) (ds.take n) := by
  refine ⟨by simp [h.1], fun i y e e1 e2 => ?_⟩
  rw [List.getElem?_take] at e1 e2
  split at e1
  · rename_i hn
    rw [if_pos hn] at e2
    exact h.2 i y e e1 e2
  · cases e1
theorem FzL.drop {xs : List V} {ds : List D} (n : Nat) (h : FzL T m F xs ds) : FzL T m F (xs.drop n) (ds.drop n) := by
  refine ⟨by simp [h.1], fun i y e e1 e2 => ?_⟩
  rw [List.getElem?_drop] at e1 e2
  exact h.2 _ y e e1 e2
theorem FzL.set {xs : List V} {ds : List D} {x : V} {d : D} (j : Nat) (h : FzL T m F xs ds) (r : Fz T m F x d) : FzL T m F (xs.set j x) (ds.set j d) := by
  refine ⟨by simp [h.1], fun i y e e1 e2 => ?_⟩
  rw [List.getElem?_set] at e1 e2
  split at e1
  · rename_i hj
    subst hj
    rw [if_pos rfl] at e2
    split at e1
    · rename_i hl
      rw [if_pos (by rw [← h.1]; exact hl)] at e2
      cases e1; cases e2; exact r
    · cases e1
  · rename_i hj
    rw [if_neg hj] at e2
    exact h.2 i y e e1 e2
theorem FzL.at {xs : List V} {ds : List D} {j : Nat} {d : D} (h : FzL T m F xs ds) (e : ds[j]? = some d) : ∃ x, xs[j]? = some x ∧ Fz T m F x d := by
  obtain ⟨hl, _⟩ := List.getElem?_eq_some_iff.mp e
  have hx : j < xs.length := by rw [h.1]; exact hl
  exact ⟨xs[j], by simp [hx], h.2 j _ d (by simp [hx]) e⟩
theorem FzL.at' {xs : List V} {ds : List D} {j : Nat} {x : V} (h : FzL T m F xs ds) (e : xs[j]? = some x) : ∃ d, ds[j]? = some d ∧ Fz T m F x d := by
  obtain ⟨hl, _⟩ := List.getElem?_eq_some_iff.mp e
  have hx : j < ds.length := by rw [← h.1]; exact hl
  exact ⟨ds[j], by simp [hx], h.2 j x _ e (by simp [hx])⟩
theorem FzL.uncons {xs : List V} {d : D} {ds : List D} (h : FzL T m F xs (d :: ds)) : ∃ x r, xs = x :: r ∧ Fz T m F x d ∧ FzL T m F r ds := by
  cases xs with
  | nil => exact absurd h.1 (by simp)
  | cons x r => exact ⟨x, r, rfl, h.2 0 x d rfl rfl, by simpa using h.1, fun i y e e1 e2 => h.2 (i + 1) y e (by simpa using e1) (by simpa using e2)⟩
theorem FzL.unnil {xs : List V} (h : FzL T m F xs []) : xs = [] := List.length_eq_zero_iff.mp h.1
theorem FzL.map {α : Type} {f : α → V} {g : α → D} (h : ∀ a, Fz T m F (f a) (g a)) (l : List α) : FzL T m F (l.map f) (l.map g) := by
  refine ⟨by simp, fun i x d e1 e2 => ?_⟩
  rw [List.getElem?_map] at e1 e2
  cases q : l[i]? with
  | none => rw [q] at e1; cases e1
  | some a => rw [q] at e1 e2; cases e1; cases e2; exact h a
end

/-- the object at a holds d (it may change later) -/
def Ob (T : Tb) (m : List Addr) (F : Hp) (H : Hp) (a : Addr) : D → Prop
  | .lst ds => ∃ xs, H a = some (.lst xs) ∧ FzL T m F xs ds
  | .ins c ds => ∃ dx xs, H a = some (.ins (T.cls c) dx ((T.flds c).zip xs)) ∧ xs.length ≤ (T.flds c).length ∧ FzL T m F xs ds
  | _ => False
theorem Ob.mono {T : Tb} {m m' : List Addr} {F F' H H' : Hp} {a : Addr} {d : D} (hf : ∀ p o, F p = some o → F' p = some o) (hm : ∀ (n : Nat) (p : Addr), m[n]? = some p → m'[n]? = some p) (hh : H' a = H a) (h : Ob T m F H a d) : Ob T m' F' H' a d := by
  cases d with
  | lst ds => obtain ⟨xs, e, r⟩ := h; exact ⟨xs, hh.trans e, r.mono hf hm⟩
  | ins c ds => obtain ⟨dx, xs, e, hl, r⟩ := h; exact ⟨dx, xs, hh.trans e, hl, r.mono hf hm⟩
  | _ => exact h.elim
theorem Ob.there {T : Tb} {m : List Addr} {F H : Hp} {a : Addr} {d : D} (h : Ob T m F H a d) : ∃ o, H a = some o := by
  cases d with
  | lst ds => obtain ⟨xs, e, r⟩ := h; exact ⟨_, e⟩
  | ins c ds => obtain ⟨dx, xs, e, r⟩ := h; exact ⟨_, e⟩
  | _ => exact h.elim
/-- to be read now -/
def Vw (T : Tb) (w : Wo) (v : V) (d : D) : Prop := Fz T w.m w.F v d ∨ ∃ a, v = .ref a ∧ Ob T w.m w.F w.H a d
/-- the heap's part -/
structure RepH (T : Tb) (w : Wo) : Prop where
  sub : ∀ p o, w.F p = some o → w.H p = some o
  pr : ∀ p o, w.Pr p = some o → w.H p = some o
  fp : ∀ p o, w.F p = some o → w.F0 p = some o ∨ w.Pr p = none
  f0 : ∀ p o, w.F0 p = some o → w.F p = some o
  mp : ∀ p, p ∈ w.m → w.Pr p = none
  ml : w.m.length = w.hh.length
  nd : w.m.Nodup
  lo : ∀ (n : Nat) (p : Addr) (d : D), w.m[n]? = some p → w.hh[n]? = some d → w.F p = none ∧ Ob T w.m w.F w.H p d
/-- an exception's own dict -/
def XAt (T : Tb) (w : Wo) (d : Option Addr) (c : Nat) (ds : List D) : Prop := (d = none ∧ ds = []) ∨ ∃ dA xs, d = some dA ∧ w.F dA = some (.xd ((T.xflds c).zip xs)) ∧ xs.length ≤ (T.xflds c).length ∧ FzL T w.m w.F xs ds
theorem XAt.mono {T : Tb} {w w' : Wo} {d : Option Addr} {c : Nat} {ds : List D} (hf : ∀ p o, w.F p = some o → w'.F p = some o) (hm : ∀ (n : Nat) (p : Addr), w.m[n]? = some p → w'.m[n]? = some p) (h : XAt T w d c ds) : XAt T w' d c ds := by
  rcases h with h | ⟨dA, xs, e, h1, h2, h3⟩
  · exact .inl h
  · exact .inr ⟨dA, xs, e, hf _ _ h1, h2, h3.mono hf hm⟩
/-- one slot -/
def SlOk (T : Tb) (w : Wo) (s : SL) (o : Option (Option V)) : Prop := match s with
  | .no => True
  | .pu d => ∃ v, o = some (some v) ∧ Fz T w.m w.F v d
  | .ow d => ∃ p, o = some (some (.ref p)) ∧ w.F p = none ∧ w.Pr p = none ∧ p ∉ w.m ∧ Ob T w.m w.F w.H p d
  | .bo d => ∃ v, o = some (some v) ∧ (Fz T w.m w.F v d ∨ ∃ p, v = .ref p ∧ Ob T w.m w.F w.Pr p d)
  | .ex c ds => ∃ a d, T.xa = some (a, c, d) ∧ o = some (some (.ref a)) ∧ XAt T w d c ds
structure RepS (T : Tb) (w : Wo) (a : List SL) (σ : Ev.St) : Prop where
  ln : a.length = σ.length
  sl : ∀ (i : Nat) (s : SL), a[i]? = some s → SlOk T w s σ[i]?
  oo : ∀ (i j : Nat) (d e : D) (p : Addr), a[i]? = some (.ow d) → a[j]? = some (.ow e) → σ[i]? = some (some (.ref p)) → σ[j]? = some (some (.ref p)) → i = j
  me : ∀ (d : D) (x : Addr), w.me = some x → a[0]? = some (.ow d) → σ[0]? = some (some (.ref x))
/-- a slot's own object -/
def Own (a : List SL) (σ : Ev.St) (p : Addr) : Prop := ∃ (i : Nat) (d : D), a[i]? = some (.ow d) ∧ σ[i]? = some (some (.ref p))
section
variable {T : Tb} {w w' : Wo} {a : List SL} {σ : Ev.St}
theorem SlOk.mono {s : SL} {o : Option (Option V)} (le : w.le w') (h : SlOk T w s o) (hk : ∀ d p, s = .ow d → o = some (some (.ref p)) → w'.H p = w.H p ∧ w'.F p = none ∧ p ∉ w'.m) : SlOk T w' s o := by
  cases s with
  | no => trivial
  | pu d => obtain ⟨v, e, f⟩ := h; exact ⟨v, e, f.mono le.f le.m⟩
  | ow d =>
    obtain ⟨p, e, _, h2, _, h4⟩ := h
    obtain ⟨k1, k2, k3⟩ := hk d p rfl e
    exact ⟨p, e, k2, by rw [le.pr]; exact h2, k3, h4.mono le.f le.m k1⟩
  | bo d =>
    obtain ⟨v, e, f | ⟨p, ev, f⟩⟩ := h
    · exact ⟨v, e, .inl (f.mono le.f le.m)⟩
    · exact ⟨v, e, .inr ⟨p, ev, f.mono le.f le.m (by rw [le.pr])⟩⟩
  | ex c ds =>
    obtain ⟨a, d, e1, e2, e3⟩ := h
    exact ⟨a, d, e1, e2, e3.mono le.f le.m⟩
theorem RepS.mono (le : w.le w') (R : RepS T w a σ) (hk : ∀ p, Own a σ p → w'.H p = w.H p ∧ w'.F p = none ∧ p ∉ w'.m) : RepS T w' a σ :=
  ⟨R.ln, fun i s e => (R.sl i s e).mono le fun d p es eo => hk p ⟨i, d, by rw [e, es], eo⟩, R.oo, fun d x e => R.me d x (by rw [← le.me]; exact e)⟩
theorem RepS.own (R : RepS T w a σ) {p : Addr} (h : Own a σ p) : w.F p = none ∧ w.Pr p = none ∧ p ∉ w.m ∧ ∃ o, w.H p = some o := by
  obtain ⟨i, d, e1, e2⟩ := h
  obtain ⟨q, eq, h1, h2, h3, h4⟩ := R.sl i _ e1
  rw [e2] at eq
  cases eq
  exact ⟨h1, h2, h3, h4.there⟩
/-! ### new objects -/
/-- a new object, frozen -/
def Wo.newF (w : Wo) (p : Addr) (o : HO) : Wo := { w with F := upd w.F p o, H := upd w.H p o }
theorem newF_le {p : Addr} {o : HO} (R : RepH T w) (hp : w.H p = none) : w.le (w.newF p o) :=
  ⟨rfl, rfl, fun q u e => by
    show upd w.F p o q = some u
    rw [upd_ne (fun z => by rw [z] at e; rw [R.sub _ _ e] at hp; cases hp)]; exact e, fun _ _ h => h, rfl⟩
theorem newF_H {p : Addr} {o : HO} (R : RepH T w) (hp : w.H p = none) : RepH T (w.newF p o) := by
  have le := newF_le (o := o) R hp
  refine ⟨fun q u e => ?_, fun q u e => ?_, fun q u e => ?_, fun q u e => le.f _ _ (R.f0 _ _ e), R.mp, R.ml, R.nd, fun n q d e1 e2 => ?_⟩
  · show upd w.H p o q = some u
    have e : upd w.F p o q = some u := e
    by_cases h : q = p
    · subst h; rw [upd_same] at e ⊢; exact e
    · rw [upd_ne h] at e ⊢; exact R.sub _ _ e
  · show upd w.H p o q = some u
    rw [upd_ne (fun z => by rw [z] at e; rw [R.pr _ _ e] at hp; cases hp)]
    exact R.pr _ _ e
  · have e : upd w.F p o q = some u := e
    by_cases h : q = p
    · subst h
      right
      cases z : w.Pr q with
      | none => exact z
      | some y => rw [R.pr _ _ z] at hp; cases hp
    · rw [upd_ne h] at e; exact R.fp _ _ e
  · obtain ⟨h1, h2⟩ := R.lo n q d e1 e2
    obtain ⟨y, hy⟩ := h2.there
    have hq : q ≠ p := fun z => by rw [z, hp] at hy; cases hy
    refine ⟨?_, h2.mono le.f le.m (upd_ne hq)⟩
    show upd w.F p o q = none
    rw [upd_ne hq]; exact h1
theorem newF_S {p : Addr} {o : HO} (R : RepH T w) (S : RepS T w a σ) (hp : w.H p = none) : RepS T (w.newF p o) a σ :=
  S.mono (newF_le R hp) fun q hq => by
    obtain ⟨h1, h2, h3, y, hy⟩ := S.own hq
    have hne : q ≠ p := fun z => by rw [z, hp] at hy; cases hy
    exact ⟨upd_ne hne, by show upd w.F p o q = none; rw [upd_ne hne]; exact h1, h3⟩
/-- a new object that is not frozen -/
def Wo.newO (w : Wo) (p : Addr) (o : HO) : Wo := { w with H := upd w.H p o }
theorem newO_le {p : Addr} {o : HO} : w.le (w.newO p o) := ⟨rfl, rfl, fun _ _ e => e, fun _ _ h => h, rfl⟩
theorem newO_H {p : Addr} {o : HO} (R : RepH T w) (hp : w.H p = none) : RepH T (w.newO p o) := by
  refine ⟨fun q u e => ?_, fun q u e => ?_, R.fp, R.f0, R.mp, R.ml, R.nd, fun n q d e1 e2 => ?_⟩
  · show upd w.H p o q = some u
    rw [upd_ne (fun z => by rw [z] at e; rw [R.sub _ _ e] at hp; cases hp)]
    exact R.sub _ _ e
  · show upd w.H p o q = some u
    rw [upd_ne (fun z => by rw [z] at e; rw [R.pr _ _ e] at hp; cases hp)]
    exact R.pr _ _ e
  · obtain ⟨h1, h2⟩ := R.lo n q d e1 e2
    obtain ⟨y, hy⟩ := h2.there
    have hq : q ≠ p := fun z => by rw [z, hp] at hy; cases hy
    exact ⟨h1, h2.mono (fun _ _ e => e) (fun _ _ e => e) (upd_ne hq)⟩
theorem newO_S {p : Addr} {o : HO} (S : RepS T w a σ) (hp : w.H p = none) : RepS T (w.newO p o) a σ :=
  S.mono newO_le fun q hq => by
    obtain ⟨h1, h2, h3, y, hy⟩ := S.own hq
    have hne : q ≠ p := fun z => by rw [z, hp] at hy; cases hy
    exact ⟨upd_ne hne, h1, h3⟩
theorem free_of {p : Addr} (R : RepH T w) (hp : w.H p = none) : w.F p = none ∧ w.Pr p = none ∧ p ∉ w.m := by
  refine ⟨?_, ?_, fun h => ?_⟩
  · cases z : w.F p with
    | none => rfl
    | some y => rw [R.sub _ _ z] at hp; cases hp
  · cases z : w.Pr p with
    | none => rfl
    | some y => rw [R.pr _ _ z] at hp; cases hp
  · obtain ⟨n, hn⟩ := List.getElem?_of_mem h
    have hl : n < w.hh.length := by rw [← R.ml]; exact (List.getElem?_eq_some_iff.mp hn).1
    obtain ⟨_, h2⟩ := R.lo n p w.hh[n] hn (by simp [hl])
    obtain ⟨y, hy⟩ := h2.there
    rw [hp] at hy; cases hy
end
end Ev
end
section
set_option Elab.async false
set_option linter.all false
set_option maxRecDepth 100000
set_option maxHeartbeats 1000000
/-! Ev, part C: readings by the evaluator, and how they are put together. -/
namespace Ev
open PySem PySem.Spec PyProof.Rows L2
abbrev TE := L2.TE
theorem pe_imp {X : Cx} {e : Expr} {t t' : L2.TE} (h : PE X e t) (k : ∀ σ H Q, t' σ H Q → t σ H Q) : PE X e t' := ⟨fun pins s σ H Q I q => h.run pins s σ H Q I (k σ H Q q)⟩
theorem pt_imp {X : Cx} {e : Expr} {t t' : TT} (h : PT X e t) (k : ∀ σ H Q, t' σ H Q → t σ H Q) : PT X e t' := ⟨fun pins s σ H Q I q => h.run pins s σ H Q I (k σ H Q q)⟩
theorem pa_imp {X : Cx} {e : List Expr} {t t' : TA} (h : PA X e t) (k : ∀ σ H Q, t' σ H Q → t σ H Q) : PA X e t' := ⟨fun pos pins s σ H Q I q => h.run pos pins s σ H Q I (k σ H Q q)⟩
theorem ps_imp {X : Cx} {e : Stmt} {t t' : TS} (h : PS X e t) (k : ∀ D σ H, t' D σ H → t D σ H) : PS X e t' := ⟨fun pins s σ H D I q => h.run pins s σ H D I (k D σ H q)⟩
theorem pss_imp {X : Cx} {e : List Stmt} {t t' : TS} (h : PSs X e t) (k : ∀ D σ H, t' D σ H → t D σ H) : PSs X e t' := ⟨fun pins s σ H D I q => h.run pins s σ H D I (k D σ H q)⟩
/-- what is wanted behind an evaluation -/
def Post {α β : Type} (T : Tb) (Wx : WX) (a : List SL) (σ : Ev.St) (w : Wo) (Rel : Wo → β → α → Prop) (Q : β → Hp → Prop) : RE α → Prop
  | .ok d hh' => ∀ v w', w.le w' → w'.hh = hh' → RepH T w' → RepS T w' a σ → Rel w' v d → Q v w'.H
  | .exc c ds hh' => ∀ dA w', w.le w' → w'.hh = hh' → RepH T w' → RepS T w' a σ → XAt T w' dA c ds → Wx (.ref (T.xcls c)) dA σ w'.H
  | .bad => False
section
variable {α β α' β' : Type} {T : Tb} {Wx : WX} {a : List SL} {σ : Ev.St} {w w' : Wo} {Rel : Wo → β → α → Prop} {Rel' : Wo → β' → α' → Prop} {Q Q' : β → Hp → Prop} {R : β' → Hp → Prop}
theorem Post.mono {r : RE α} (le : w.le w') (h : Post T Wx a σ w Rel Q r) : Post T Wx a σ w' Rel Q r := by
  cases r with
  | ok d hh => exact fun v w2 l => h v w2 (le.trans l)
  | exc c ds hh => exact fun v w2 l => h v w2 (le.trans l)
  | bad => exact h
theorem Post.imp {r : RE α} (h : Post T Wx a σ w Rel Q r) (k : ∀ v H, Q v H → Q' v H) : Post T Wx a σ w Rel Q' r := by
  cases r with
  | ok d hh => exact fun v w2 l e1 e2 e3 e4 => k _ _ (h v w2 l e1 e2 e3 e4)
  | exc c ds hh => exact h
  | bad => exact h
/-- a world behind the first of two evaluations -/
def Mid (T : Tb) (a : List SL) (σ : Ev.St) (w : Wo) (Rel : Wo → β → α → Prop) (P : Wo → β → α → Prop) (v : β) (H : Hp) : Prop :=
  ∃ w1 d, w.le w1 ∧ w1.H = H ∧ RepH T w1 ∧ RepS T w1 a σ ∧ Rel w1 v d ∧ P w1 v d
theorem Post.bind {r : RE α} {f : α → List D → RE α'} (h : Post T Wx a σ w Rel' R (r.bind f)) :
    Post T Wx a σ w Rel (Mid T a σ w Rel fun w1 _ d => Post T Wx a σ w1 Rel' R (f d w1.hh)) r := by
  cases r with
  | ok d hh => exact fun v w2 l e1 e2 e3 e4 => ⟨w2, d, l, rfl, e2, e3, e4, by subst e1; exact Post.mono l h⟩
  | exc c ds hh => exact h
  | bad => exact h
theorem Post.lift {o : Option α} {h : List D} (p : Post T Wx a σ w Rel Q (RE.lift o h)) : ∃ d, o = some d ∧ Post T Wx a σ w Rel Q (.ok d h) := by
  cases o with
  | none => exact p.elim
  | some d => exact ⟨d, rfl, p⟩
end
/-- an evaluation as a reading -/
def tG {α β : Type} (T : Tb) (Wx : WX) (Rel : List SL → Ev.St → Wo → β → α → Prop) (Φ : List SL → List D → RE α) : Ev.St → Hp → (β → Hp → Prop) → Prop := fun σ H Q =>
  ∃ w a, w.H = H ∧ RepH T w ∧ RepS T w a σ ∧ Post T Wx a σ w (Rel a σ) Q (Φ a w.hh)
/-- what an operand's value is -/
def Hd (T : Tb) (a : List SL) (σ : Ev.St) (w : Wo) (v : V) (r : RV) : Prop := match r with
  | .val d => Fz T w.m w.F v d
  | .slot i => σ[i]? = some (some v) ∧ ((∃ d, a[i]? = some (.ow d)) ∨ ∃ d, a[i]? = some (.bo d))
def HdL (T : Tb) (a : List SL) (σ : Ev.St) (w : Wo) (vs : List V) (rs : List RV) : Prop := vs.length = rs.length ∧ ∀ (i : Nat) v r, vs[i]? = some v → rs[i]? = some r → Hd T a σ w v r
theorem Hd.mono {T : Tb} {a : List SL} {σ : Ev.St} {w w' : Wo} {v : V} {r : RV} (le : w.le w') (h : Hd T a σ w v r) : Hd T a σ w' v r := by
  cases r with
  | val d => exact Fz.mono le.f le.m h
  | slot i => exact h
theorem look_ok {T : Tb} {a : List SL} {σ : Ev.St} {w : Wo} {v : V} {r : RV} {d : D} (RH : RepH T w) (RS : RepS T w a σ) (h : Hd T a σ w v r) (e : look a w.hh r = some d) : Vw T w v d := by
  cases r with
  | val d' =>
    unfold look viewH at e
    have h : Fz T w.m w.F v d' := h
    cases d' with
    | loc n =>
      have e : w.hh[n]? = some d := e
      cases h with
      | loc hn => exact .inr ⟨_, rfl, (RH.lo _ _ _ hn e).2⟩
    | _ => cases e; exact .inl h
  | slot i =>
    obtain ⟨e1, ⟨d', e2⟩ | ⟨d', e2⟩⟩ := h
    · simp only [look, e2] at e
      cases e
      obtain ⟨p, e3, _, _, _, e4⟩ := RS.sl i _ e2
      rw [e1] at e3
      cases e3
      exact .inr ⟨p, rfl, e4⟩
    · simp only [look, e2] at e
      cases e
      obtain ⟨v', e3, e4⟩ := RS.sl i _ e2
      rw [e1] at e3
      cases e3
      rcases e4 with e4 | ⟨p, rfl, e4⟩
      · exact .inl e4
      · obtain ⟨o, ho⟩ := e4.there
        exact .inr ⟨p, rfl, e4.mono (fun _ _ z => z) (fun _ _ z => z) (by rw [ho]; exact RH.pr _ _ ho)⟩
section
variable {T : Tb} {w : Wo} {v : V}
/-! ### what is seen of a view -/
theorem Vw.non (h : Vw T w v .non) : v = .non := by
  rcases h with h | ⟨a, _, h⟩
  · cases h; rfl
  · exact h.elim
theorem Vw.bl {b : Bool} (h : Vw T w v (.bl b)) : v = .bl b := by
  rcases h with h | ⟨a, _, h⟩
  · cases h; rfl
  · exact h.elim
theorem Vw.int {i : Int} (h : Vw T w v (.int i)) : v = .int i := by
  rcases h with h | ⟨a, _, h⟩
  · cases h; rfl
  · exact h.elim
theorem Vw.str {x : PySem.Str} (h : Vw T w v (.str x)) : v = .str x := by
  rcases h with h | ⟨a, _, h⟩
  · cases h; rfl
  · exact h.elim
theorem Vw.tup {ds : List D} (h : Vw T w v (.tup ds)) : ∃ a xs, v = .ref a ∧ SqT T.K w.F a xs ∧ FzL T w.m w.F xs ds := by
  rcases h with h | ⟨a, _, h⟩
  · cases h with
    | tup h1 h2 h3 => exact ⟨_, _, rfl, h1, h2, h3⟩
  · exact h.elim
theorem Vw.lst {ds : List D} (R : RepH T w) (h : Vw T w v (.lst ds)) : ∃ a xs, v = .ref a ∧ w.H a = some (.lst xs) ∧ FzL T w.m w.F xs ds := by
  rcases h with h | ⟨a, e, h⟩
  · cases h with
    | lst h1 h2 h3 => exact ⟨_, _, rfl, R.sub _ _ h1, h2, h3⟩
  · obtain ⟨xs, e1, r⟩ := h
    exact ⟨a, xs, e, e1, r⟩
theorem Vw.zst {ds : List D} (R : RepH T w) (h : Vw T w v (.zst ds)) : ∃ a xs, v = .ref a ∧ SqL T.K w.H a xs ∧ FzL T w.m w.F xs ds := by
  rcases h with h | ⟨a, _, h⟩
  · cases h with
    | zst h1 h2 h3 => exact ⟨_, _, rfl, sqL_mono R.sub h1, h2, h3⟩
  · exact h.elim
theorem Vw.ins {c : Nat} {ds : List D} (R : RepH T w) (h : Vw T w v (.ins c ds)) : ∃ a dx xs, v = .ref a ∧ w.H a = some (.ins (T.cls c) dx ((T.flds c).zip xs)) ∧ xs.length ≤ (T.flds c).length ∧ FzL T w.m w.F xs ds := by
  rcases h with h | ⟨a, e, h⟩
  · cases h with
    | ins h1 h2 h3 h4 => exact ⟨_, _, _, rfl, R.sub _ _ h1, h2, h3, h4⟩
  · obtain ⟨dx, xs, e1, h2, r⟩ := h
    exact ⟨a, dx, xs, e, e1, h2, r⟩
theorem Vw.sqT {ds : List D} (R : RepH T w) (h : Vw T w v (.tup ds)) : ∃ a xs, v = .ref a ∧ SqT T.K w.H a xs ∧ FzL T w.m w.F xs ds := by
  obtain ⟨a, xs, e, h1, h2⟩ := h.tup
  exact ⟨a, xs, e, sqT_mono R.sub h1, h2⟩
end
section
variable {T : Tb} {Wx : WX} {X : Cx} {Φ Ψ : List SL → List D → RE D} {x y : Expr} {pos : Pos}
abbrev rF (T : Tb) : List SL → Ev.St → Wo → V → D → Prop := fun _ _ w v d => Fz T w.m w.F v d
/-- an object of ours that no slot holds yet -/
def Fr (T : Tb) (a : List SL) (σ : Ev.St) (w : Wo) (v : V) (d : D) : Prop := ∃ p, v = .ref p ∧ w.F p = none ∧ w.Pr p = none ∧ p ∉ w.m ∧ (∀ q, Own a σ q → q ≠ p) ∧ Ob T w.m w.F w.H p d
/-- what is made: a new object, or a plain value -/
abbrev rP (T : Tb) : List SL → Ev.St → Wo → V → D → Prop := fun a σ w v d => if isObj d then Fr T a σ w v d else Fz T w.m w.F v d
abbrev rFL (T : Tb) : List SL → Ev.St → Wo → List V → List D → Prop := fun _ _ w v d => FzL T w.m w.F v d
abbrev rHd (T : Tb) : List SL → Ev.St → Wo → V → RV → Prop := fun a σ w v d => Hd T a σ w v d
abbrev rHdL (T : Tb) : List SL → Ev.St → Wo → List V → List RV → Prop := fun a σ w v d => HdL T a σ w v d
/-- the judgement: a value; an operand; a truth; a row; a row of operands -/
abbrev DE (T : Tb) (Wx : WX) (X : Cx) (e : Expr) (Φ : List SL → List D → RE D) : Prop := PE X e (tG T Wx (rF T) Φ)
abbrev DP (T : Tb) (Wx : WX) (X : Cx) (e : Expr) (Φ : List SL → List D → RE D) : Prop := PE X e (tG T Wx (rP T) Φ)
abbrev DF (T : Tb) (Wx : WX) (X : Cx) (e : Expr) (Φ : List SL → List D → RE D) : Prop := PE X e (tG T Wx (Fr T) Φ)
abbrev DR (T : Tb) (Wx : WX) (X : Cx) (e : Expr) (Φ : List SL → List D → RE RV) : Prop := PE X e (tG T Wx (rHd T) Φ)
abbrev DT (T : Tb) (Wx : WX) (X : Cx) (e : Expr) (Φ : List SL → List D → RE Bool) : Prop := PT X e (tG T Wx (fun _ _ _ (b : Bool) (c : Bool) => b = c) Φ)
abbrev DA (T : Tb) (Wx : WX) (X : Cx) (es : List Expr) (Φ : List SL → List D → RE (List D)) : Prop := PA X es (tG T Wx (rFL T) Φ)
abbrev DAR (T : Tb) (Wx : WX) (X : Cx) (es : List Expr) (Φ : List SL → List D → RE (List RV)) : Prop := PA X es (tG T Wx (rHdL T) Φ)

/-! ### operands -/
theorem dr_of (h : DE T Wx X x Φ) : DR T Wx X x (fun a hh => (Φ a hh).bind fun d h1 => .ok (.val d) h1) := by
  refine pe_imp h fun σ H Q ⟨w, a, e, RH, RS, p⟩ => ⟨w, a, e, RH, RS, ?_⟩
  refine (p.bind (Rel := rF T a σ)).imp fun v H' ⟨w1, d, le, eH, RH1, RS1, f, q⟩ => ?_
  rw [← eH]
  exact q v w1 (Wo.le.refl _) rfl RH1 RS1 f
theorem dr_var {i : Nat} {z : PySem.Str} (hN : X.N[i]? = some z) (hv : Vis X.env.scope z) (hd : (z == ("__debug__" : PySem.Str)) = false) (hcd : (z == ("__classdict__" : PySem.Str)) = false) (r : RE D) :
    DR T Wx X (.Name z pos) (fun a hh => ro a (.var i) r hh) := by
  refine pe_imp (pe_var hN hv hd hcd) fun σ H Q ⟨w, a, e, RH, RS, p⟩ => ?_
  unfold ro at p
  dsimp only at p
  cases q : a[i]? with
  | none => rw [q] at p; exact p.elim
  | some s =>
    rw [q] at p
    have so := RS.sl i s q
    cases s with
    | no => exact p.elim
    | pu d =>
      obtain ⟨v, ev, f⟩ := so
      exact ⟨v, ev, by rw [← e]; exact p v w (Wo.le.refl _) rfl RH RS f⟩
    | ow d =>
      obtain ⟨v, ev, f⟩ := so
      exact ⟨_, ev, by rw [← e]; exact p _ w (Wo.le.refl _) rfl RH RS ⟨ev, .inl ⟨d, q⟩⟩⟩
    | bo d =>
      obtain ⟨v, ev, f⟩ := so
      exact ⟨_, ev, by rw [← e]; exact p _ w (Wo.le.refl _) rfl RH RS ⟨ev, .inr ⟨d, q⟩⟩⟩
    | ex c ds => exact p.elim
theorem de_var {i : Nat} {z : PySem.Str} (hN : X.N[i]? = some z) (hv : Vis X.env.scope z) (hd : (z == ("__debug__" : PySem.Str)) = false) (hcd : (z == ("__classdict__" : PySem.Str)) = false) (g : G) :
    DE T Wx X (.Name z pos) (fun a hh => evE g a (.var i) hh) := by
  refine pe_imp (pe_var hN hv hd hcd) fun σ H Q ⟨w, a, e, RH, RS, p⟩ => ?_
  simp only [evE] at p
  cases q : a[i]? with
  | none => rw [q] at p; exact p.elim
  | some s =>
    rw [q] at p
    have so := RS.sl i s q
    cases s with
    | pu d =>
      obtain ⟨v, ev, f⟩ := so
      exact ⟨v, ev, by rw [← e]; exact p v w (Wo.le.refl _) rfl RH RS f⟩
    | _ => exact p.elim
/-- constants -/
theorem de_con {v : V} {d : D} {t : L2.TE} (h : PE X x t) (ht : ∀ σ H Q, Q v H → t σ H Q) (f : ∀ m F, Fz T m F v d) : DE T Wx X x (fun _ hh => .ok d hh) := by
  refine pe_imp h fun σ H Q ⟨w, a, e, RH, RS, p⟩ => ht _ _ _ ?_
  rw [← e]
  exact p v w (Wo.le.refl _) rfl RH RS (f _ _)
/-! ### what is made may be frozen, or kept -/
theorem frz_wo {w : Wo} {a : List SL} {σ : Ev.St} {p : Addr} {o : HO} (RH : RepH T w) (RS : RepS T w a σ) (hH : w.H p = some o) (hF : w.F p = none) (hP : w.Pr p = none) (hm : p ∉ w.m) (ho : ∀ q, Own a σ q → q ≠ p) :
    w.le { w with F := upd w.F p o } ∧ RepH T { w with F := upd w.F p o } ∧ RepS T { w with F := upd w.F p o } a σ := by
  have hf : ∀ q u, w.F q = some u → upd w.F p o q = some u := fun q u e => by
    rw [upd_ne (fun z => by rw [z, hF] at e; cases e)]; exact e
  have le : w.le { w with F := upd w.F p o } := ⟨rfl, rfl, hf, fun _ _ z => z, rfl⟩
  refine ⟨le, ⟨fun q u e => ?_, RH.pr, fun q u e => ?_, fun q u e => hf q u (RH.f0 q u e), RH.mp, RH.ml, RH.nd, fun n q d e1 e2 => ?_⟩, RS.mono le fun q hq => ⟨rfl, ?_, (RS.own hq).2.2.1⟩⟩
  · have e : upd w.F p o q = some u := e
    show w.H q = some u
    by_cases h : q = p
    · subst h; rw [upd_same] at e; rw [hH]; exact e
    · rw [upd_ne h] at e; exact RH.sub _ _ e
  · have e : upd w.F p o q = some u := e
    by_cases h : q = p
    · subst h; exact .inr hP
    · rw [upd_ne h] at e; exact RH.fp _ _ e
  · obtain ⟨h1, h2⟩ := RH.lo n q d e1 e2
    refine ⟨?_, h2.mono hf (fun _ _ z => z) rfl⟩
    show upd w.F p o q = none
    rw [upd_ne (fun z => by subst z; exact hm (List.mem_of_getElem? e1))]
    exact h1
  · show upd w.F p o q = none
    rw [upd_ne (ho q hq)]
    exact (RS.own hq).1
theorem Fr.frz {w : Wo} {a : List SL} {σ : Ev.St} {v : V} {d : D} (RH : RepH T w) (RS : RepS T w a σ) (h : Fr T a σ w v d) : ∃ w', w.le w' ∧ w'.H = w.H ∧ w'.hh = w.hh ∧ RepH T w' ∧ RepS T w' a σ ∧ Fz T w'.m w'.F v d := by
  obtain ⟨p, rfl, h1, h2, h3, h4, h5⟩ := h
  obtain ⟨o, ho⟩ := h5.there
  obtain ⟨le, k1, k2⟩ := frz_wo RH RS ho h1 h2 h3 h4
  refine ⟨_, le, rfl, rfl, k1, k2, ?_⟩
  have h5 := Ob.mono (T := T) (H' := w.H) le.f le.m rfl h5
  cases d with
  | lst ds =>
    obtain ⟨xs, e, f⟩ := h5
    exact .lst (by show upd w.F p o p = _; rw [upd_same, ← ho, e]) f.1 f.2
  | ins c ds =>
    obtain ⟨dx, xs, e, hl, f⟩ := h5
    exact .ins (by show upd w.F p o p = _; rw [upd_same, ← ho, e]) hl f.1 f.2
  | _ => exact h5.elim
theorem de_of_dp (h : DP T Wx X x Φ) : DE T Wx X x Φ := by
  refine pe_imp h fun σ H Q ⟨w, a, e, RH, RS, p⟩ => ⟨w, a, e, RH, RS, ?_⟩
  cases q : Φ a w.hh with
  | ok d hh =>
    rw [q] at p
    refine fun v w' l e1 e2 e3 e4 => ?_
    have e4 : if isObj d then Fr T a σ w' v d else Fz T w'.m w'.F v d := e4
    split at e4
    · obtain ⟨w2, k1, k2, k3, k4, k5, k6⟩ := Fr.frz e2 e3 e4
      rw [← k2]
      exact p v w2 (l.trans k1) (k3.trans e1) k4 k5 k6
    · exact p v w' l e1 e2 e3 e4
  | exc c ds hh => rw [q] at p; exact p
  | bad => rw [q] at p; exact p
theorem df_of_dp (h : DP T Wx X x Φ) : DF T Wx X x (fun a hh => (Φ a hh).bind fun d h1 => if isObj d then .ok d h1 else .bad) := by
  refine pe_imp h fun σ H Q ⟨w, a, e, RH, RS, p⟩ => ⟨w, a, e, RH, RS, ?_⟩
  dsimp only at p
  cases q : Φ a w.hh with
  | ok d hh =>
    rw [q, RE.bind_ok] at p
    split at p
    · rename_i ho
      refine fun v w' l e1 e2 e3 e4 => ?_
      rw [rP, if_pos ho] at e4
      exact p v w' l e1 e2 e3 e4
    · exact p.elim
  | exc c ds hh => rw [q] at p; exact p
  | bad => rw [q] at p; exact p.elim
/-! ### two operands, then a rule by values -/
theorem de_op {op : Operator} {r : R2} {Φ' Ψ' : List SL → List D → RE RV} {f : D → D → Option D} (ho : OpR X (binaryOp op) r) (hx : DR T Wx X x Φ') (hy : DR T Wx X y Ψ')
    (hr : ∀ (w : Wo) (a : List SL) (σ : Ev.St) (v u : V) (d e z : D) (Q : VK), RepH T w → RepS T w a σ → Vw T w v d → Vw T w u e → f d e = some z → Post T Wx a σ w (rP T a σ) Q (.ok z w.hh) → r v u w.H Q) :
    DP T Wx X (.BinOp x op y pos) (fun a hh => (Φ' a hh).bind fun r h1 => (Ψ' a h1).bind fun s h2 => RE.lift ((look a h2 r).bind fun d => (look a h2 s).bind fun e => f d e) h2) := by
  refine pe_imp (pe_op ho hx hy) fun σ H Q ⟨w, a, e, RH, RS, p⟩ => ⟨w, a, e, RH, RS, ?_⟩
  refine (p.bind (Rel := rHd T a σ)).imp fun v H1 ⟨w1, d, le, eH, RH1, RS1, f1, q⟩ => ⟨w1, a, eH, RH1, RS1, ?_⟩
  refine (q.bind (Rel := rHd T a σ)).imp fun u H2 ⟨w2, s, le2, eH2, RH2, RS2, f2, q2⟩ => ?_
  rw [← eH2]
  obtain ⟨z, hz, q2⟩ := Post.lift q2
  obtain ⟨d1, h1, hz⟩ := Option.bind_eq_some_iff.mp hz
  obtain ⟨d2, h2, hz⟩ := Option.bind_eq_some_iff.mp hz
  exact hr w2 a σ v u d1 d2 z Q RH2 RS2 (look_ok RH2 RS2 (Hd.mono le2 f1) h1) (look_ok RH2 RS2 f2 h2) hz q2
end
end Ev
end
section
set_option Elab.async false
set_option linter.all false
set_option maxRecDepth 100000
set_option maxHeartbeats 2000000
/-! Ev, part D: the operations' rules by values. -/
namespace Ev
open PySem PySem.Spec PyProof.Rows L2
/-! ### data as the library's -/
theorem ok_lst {n : Nat} {l : List D} (h : D.okAll n l = true) : D.ok (n + 1) (.lst l) = true := by rw [D.ok]; exact h
theorem ok_tup {n : Nat} {l : List D} (h : D.okAll n l = true) : D.ok (n + 1) (.tup l) = true := by rw [D.ok]; exact h
theorem okAll_mem {n : Nat} : ∀ {l : List D}, D.okAll n l = true → ∀ d ∈ l, D.ok n d = true
  | [], _, d, h => by cases h
  | x :: r, h, d, hd => by
    rw [D.okAll, Bool.and_eq_true] at h
    rcases List.mem_cons.mp hd with rfl | hd
    · exact h.1
    · exact okAll_mem h.2 d hd
theorem okAll_of {n : Nat} : ∀ {l : List D}, (∀ d ∈ l, D.ok n d = true) → D.okAll n l = true
  | [], _ => by rw [D.okAll]
  | x :: r, h => by
    rw [D.okAll, Bool.and_eq_true]
    exact ⟨h x (by simp), okAll_of fun d hd => h d (by simp [hd])⟩
theorem py_lay : ∀ (n : Nat) (d : D), D.ok n d = true → d.py.canLay0 = true ∧ d.py.depth ≤ n
  | n, .non, _ => by simp [D.py, PyData.canLay0, PyData.depth]
  | n, .bl _, _ => by simp [D.py, PyData.canLay0, PyData.depth]
  | n, .int _, _ => by simp [D.py, PyData.canLay0, PyData.depth]
  | n, .str x, h => by
    rw [D.ok] at h
    simp only [D.py, PyData.canLay0, PyData.depth]
    exact ⟨h, Nat.zero_le _⟩
  | 0, .tup l, h => by simp [D.ok] at h
  | n + 1, .tup l, h => by
    rw [D.ok] at h
    have ih : ∀ l : List D, D.okAll n l = true → PyData.canLayAll0 (D.pyAll l) = true ∧ PyData.depthAll (D.pyAll l) ≤ n := by
      intro l
      induction l with
      | nil => intro _; simp [D.pyAll, PyData.canLayAll0, PyData.depthAll]
      | cons d r ihr =>
        intro h
        rw [D.okAll, Bool.and_eq_true] at h
        have h1 := py_lay n d h.1
        have h2 := ihr h.2
        simp only [D.pyAll, PyData.canLayAll0, PyData.depthAll]
        refine ⟨by rw [h1.1, h2.1]; rfl, ?_⟩
        have := h1.2
        have := h2.2
        omega
    have := ih l h
    simp only [D.py, PyData.canLay0, PyData.depth]
    exact ⟨this.1, by have := this.2; omega⟩
  | 0, .lst l, h => by simp [D.ok] at h
  | n + 1, .lst l, h => by
    rw [D.ok] at h
    have ih : ∀ l : List D, D.okAll n l = true → PyData.canLayAll0 (D.pyAll l) = true ∧ PyData.depthAll (D.pyAll l) ≤ n := by
      intro l
      induction l with
      | nil => intro _; simp [D.pyAll, PyData.canLayAll0, PyData.depthAll]
      | cons d r ihr =>
        intro h
        rw [D.okAll, Bool.and_eq_true] at h
        have h1 := py_lay n d h.1
        have h2 := ihr h.2
        simp only [D.pyAll, PyData.canLayAll0, PyData.depthAll]
        refine ⟨by rw [h1.1, h2.1]; rfl, ?_⟩
        have := h1.2
        have := h2.2
        omega
    have := ih l h
    simp only [D.py, PyData.canLay0, PyData.depth]
    exact ⟨this.1, by have := this.2; omega⟩
  | n, .zst _, h => by cases n <;> simp [D.ok] at h
  | n, .dct _ _, h => by cases n <;> simp [D.ok] at h
  | n, .ins _ _, h => by cases n <;> simp [D.ok] at h
  | n, .loc _, h => by cases n <;> simp [D.ok] at h
  | n, .fn _, h => by cases n <;> simp [D.ok] at h
theorem py_shaped {n : Nat} {d : D} (hn : n ≤ 64) (h : D.ok n d = true) : SeqAt.shaped d.py = true := by
  have := py_lay n d h
  unfold SeqAt.shaped
  rw [this.1, Bool.true_and, decide_eq_true_eq]
  omega
theorem py_eqv : ∀ (n : Nat) (d e : D) (k : Nat), D.ok n d = true → D.ok k e = true → D.eqb d e = PyData.eqv d.py e.py := by
  intro n
  induction n with
  | zero =>
    intro d e k hd he
    cases d <;> (try (simp [D.ok] at hd; done)) <;> cases e <;> (try (cases k <;> simp [D.ok] at he <;> done)) <;> simp [D.eqb, D.py, PyData.eqv]
  | succ n ih =>
    have all : ∀ (l r : List D) (k : Nat), D.okAll n l = true → D.okAll k r = true → D.eqbAll l r = PyData.eqvAll (D.pyAll l) (D.pyAll r) := by
      intro l
      induction l with
      | nil => intro r k _ _; cases r <;> simp [D.eqbAll, D.pyAll, PyData.eqvAll]
      | cons d l ihl =>
        intro r k h1 h2
        cases r with
        | nil => simp [D.eqbAll, D.pyAll, PyData.eqvAll]
        | cons e r =>
          rw [D.okAll, Bool.and_eq_true] at h1 h2
          simp only [D.eqbAll, D.pyAll, PyData.eqvAll]
          rw [ih d e k h1.1 h2.1, ihl r k h1.2 h2.2]
    intro d e k hd he
    cases d with
    | tup l =>
      cases e with
      | tup r =>
        rw [D.ok] at hd
        cases k with
        | zero => simp [D.ok] at he
        | succ k =>
          rw [D.ok] at he
          simp only [D.eqb, D.py, PyData.eqv]
          exact all l r k hd he
      | _ => first | (cases k <;> simp [D.ok] at he; done) | simp [D.eqb, D.py, PyData.eqv]
    | lst l =>
      cases e with
      | lst r =>
        rw [D.ok] at hd
        cases k with
        | zero => simp [D.ok] at he
        | succ k =>
          rw [D.ok] at he
          simp only [D.eqb, D.py, PyData.eqv]
          exact all l r k hd he
      | _ => first | (cases k <;> simp [D.ok] at he; done) | simp [D.eqb, D.py, PyData.eqv]
    | non => cases e <;> (try (cases k <;> simp [D.ok] at he <;> done)) <;> simp [D.eqb, D.py, PyData.eqv]
    | bl b => cases e <;> (try (cases k <;> simp [D.ok] at he <;> done)) <;> simp [D.eqb, D.py, PyData.eqv]
    | int i => cases e <;> (try (cases k <;> simp [D.ok] at he <;> done)) <;> simp [D.eqb, D.py, PyData.eqv]
    | str x => cases e <;> (try (cases k <;> simp [D.ok] at he <;> done)) <;> simp [D.eqb, D.py, PyData.eqv]
    | _ => simp [D.ok] at hd
theorem pyAll_any {n k : Nat} {x : D} (hx : D.ok k x = true) : ∀ (l : List D), D.okAll n l = true → (l.any fun y => y.eqb x) = (D.pyAll l).any fun z => PyData.eqv z x.py
  | [], _ => by simp [D.pyAll]
  | d :: r, h => by
    rw [D.okAll, Bool.and_eq_true] at h
    simp only [D.pyAll, List.any_cons]
    rw [py_eqv n d x k h.1 hx, pyAll_any hx r h.2]
/-- .. and as the layer's -/
theorem fz_dp {T : Tb} {m : List Addr} {F H : Hp} (hs : ∀ p o, F p = some o → H p = some o) : ∀ (n : Nat) (d : D) (v : V), Fz T m F v d → D.ok n d = true → Dp T.K H v d.py := by
  have all : ∀ (n : Nat), (∀ (d : D) (v : V), Fz T m F v d → D.ok n d = true → Dp T.K H v d.py) → ∀ (l : List D) (xs : List V), FzL T m F xs l → D.okAll n l = true → DpAll T.K H xs (D.pyAll l) := by
    intro n ih l
    induction l with
    | nil => intro xs h _; rw [h.unnil, D.pyAll]; exact .nil
    | cons d l ihl =>
      intro xs h hk
      obtain ⟨x, r, rfl, h1, h2⟩ := h.uncons
      rw [D.okAll, Bool.and_eq_true] at hk
      rw [D.pyAll]
      exact .cons (ih d x h1 hk.1) (ihl r h2 hk.2)
  intro n
  induction n with
  | zero =>
    intro d v h hk
    cases h <;> first | (simp [D.ok] at hk; done) | (simp only [D.py]; constructor)
  | succ n ih =>
    intro d v h hk
    cases h with
    | non => rw [D.py]; exact .non
    | bl b => rw [D.py]; exact .bl b
    | int i => rw [D.py]; exact .int i
    | str x => rw [D.py]; exact .str x
    | tup h1 h2 h3 =>
      rw [D.ok] at hk
      rw [D.py]
      exact .tup (sqT_mono hs h1) (all n ih _ _ ⟨h2, h3⟩ hk)
    | lst h1 h2 h3 =>
      rw [D.ok] at hk
      rw [D.py]
      exact .lst (.of (hs _ _ h1)) (all n ih _ _ ⟨h2, h3⟩ hk)
    | zst h1 h2 h3 => simp [D.ok] at hk
    | ins h1 h2 h3 h4 => simp [D.ok] at hk
    | loc h => simp [D.ok] at hk
    | fn n => simp [D.ok] at hk
theorem fzl_dp {T : Tb} {m : List Addr} {F H : Hp} (hs : ∀ p o, F p = some o → H p = some o) (n : Nat) : ∀ (l : List D) (xs : List V), FzL T m F xs l → D.okAll n l = true → DpAll T.K H xs (D.pyAll l)
  | [], xs, h, _ => by rw [h.unnil, D.pyAll]; exact .nil
  | d :: l, xs, h, hk => by
    obtain ⟨x, r, rfl, h1, h2⟩ := h.uncons
    rw [D.okAll, Bool.and_eq_true] at hk
    rw [D.pyAll]
    exact .cons (fz_dp hs n d x h1 hk.1) (fzl_dp hs n l r h2 hk.2)
theorem vw_dp {T : Tb} {w : Wo} {v : V} {d : D} {n : Nat} (R : RepH T w) (h : Vw T w v d) (hk : D.ok (n + 1) d = true) : Dp T.K w.H v d.py := by
  rcases h with h | ⟨a, rfl, h⟩
  · exact fz_dp R.sub _ d v h hk
  · cases d with
    | lst ds =>
      obtain ⟨xs, e, r⟩ := h
      rw [D.ok] at hk
      rw [D.py]
      exact .lst (.of e) (fzl_dp R.sub n ds xs r hk)
    | ins c ds => simp [D.ok] at hk
    | _ => exact h.elim
/-! ### what comes back -/
section
variable {T : Tb} {Wx : WX} {X : Cx} {a : List SL} {σ : Ev.St} {w : Wo} {Q : VK}
theorem Post.val {v : V} {d : D} (h : Post T Wx a σ w (rF T a σ) Q (.ok d w.hh)) (RH : RepH T w) (RS : RepS T w a σ) (f : Fz T w.m w.F v d) : Q v w.H := h v w (.refl _) rfl RH RS f
theorem Post.valP {v : V} {d : D} (h : Post T Wx a σ w (rP T a σ) Q (.ok d w.hh)) (RH : RepH T w) (RS : RepS T w a σ) (f : Fz T w.m w.F v d) (ho : isObj d = false := by rfl) : Q v w.H := h v w (.refl _) rfl RH RS (by rw [rP, if_neg (by rw [ho]; exact Bool.false_ne_true)]; exact f)
theorem Post.tup {xs : List V} {ds : List D} {p : Addr} (h : Post T Wx a σ w (rP T a σ) Q (.ok (.tup ds) w.hh)) (RH : RepH T w) (RS : RepS T w a σ) (hp : w.H p = none) (f : FzL T w.m w.F xs ds) : Q (.ref p) (upd w.H p (.tup xs)) := by
  have le := newF_le (o := .tup xs) RH hp
  have f' := f.mono le.f le.m
  exact h (.ref p) (w.newF p (.tup xs)) le rfl (newF_H RH hp) (newF_S RH RS hp) (.tup (.inl (.inl upd_same)) f'.1 f'.2)
theorem newO_fr {p : Addr} {o : HO} {d : D} (RH : RepH T w) (RS : RepS T w a σ) (hp : w.H p = none) (ob : Ob T w.m w.F (upd w.H p o) p d) : Fr T a σ (w.newO p o) (.ref p) d := by
  obtain ⟨g1, g2, g3⟩ := free_of RH hp
  refine ⟨p, rfl, g1, g2, g3, fun q hq z => ?_, ob⟩
  obtain ⟨_, _, _, o, ho⟩ := RS.own hq
  rw [z, hp] at ho
  cases ho
theorem Post.lst {xs : List V} {ds : List D} {p : Addr} (h : Post T Wx a σ w (rP T a σ) Q (.ok (.lst ds) w.hh)) (RH : RepH T w) (RS : RepS T w a σ) (hp : w.H p = none) (f : FzL T w.m w.F xs ds) : Q (.ref p) (upd w.H p (.lst xs)) :=
  h (.ref p) (w.newO p (.lst xs)) newO_le rfl (newO_H RH hp) (newO_S RS hp) (newO_fr (d := .lst ds) RH RS hp ⟨xs, upd_same, f⟩)
end
theorem szOk_le {n : Nat} (h : szOk n = true) : n ≤ sizeLine := by
  rw [sizeLine_eq]
  exact of_decide_eq_true h
/-! ### the operators -/
def opP : Bop → Operator
  | .add => .Add | .sub => .Sub | .mul => .Mult | .fdiv => .FloorDiv | .mod => .Mod | .pow => .Pow
section
variable {T : Tb} {Wx : WX} {X : Cx} {a : List SL} {σ : Ev.St} {w : Wo} {Q : VK} {x y : Expr} {pos : Pos} {Φ Ψ : List SL → List D → RE RV}
theorem fzl_flat {m : List Addr} {F : Hp} {xs : List V} {ds : List D} (h : FzL T m F xs ds) : ∀ n : Nat, FzL T m F (List.replicate n xs).flatten (List.replicate n ds).flatten
  | 0 => .nil
  | n + 1 => by
    rw [List.replicate_succ, List.replicate_succ, List.flatten_cons, List.flatten_cons]
    exact h.append (fzl_flat h n)
theorem de_add (hK : X.K = T.K) (hx : DR T Wx X x Φ) (hy : DR T Wx X y Ψ) :
    DP T Wx X (.BinOp x .Add y pos) (fun a hh => (Φ a hh).bind fun r h1 => (Ψ a h1).bind fun s h2 => RE.lift ((look a h2 r).bind fun d => (look a h2 s).bind fun e => opB .add d e) h2) := by
  refine de_op (op_add.or (op_add_str.or (op_catA.or op_cat))) hx hy fun w a σ v u d e z Q RH RS vd ve hz p => ?_
  unfold opB at hz
  split at hz <;> first | cases hz | skip
  all_goals first | contradiction | skip
  · cases vd.int; cases ve.int; exact .inl ⟨_, _, rfl, rfl, p.valP RH RS (.int _)⟩
  · split at hz
    · rename_i hs; cases hz; cases vd.str; cases ve.str
      exact .inr (.inl ⟨_, _, rfl, rfl, szOk_le hs, p.valP RH RS (.str _)⟩)
    · cases hz
  · split at hz
    · rename_i hs; cases hz
      obtain ⟨b, xs, rfl, h1, f1⟩ := vd.tup
      obtain ⟨c, ys, rfl, h2, f2⟩ := ve.tup
      have k1 := sqT_mono RH.sub h1
      have k2 := sqT_mono RH.sub h2
      rw [← hK] at k1 k2
      refine .inr (.inr (.inl ⟨b, c, xs, ys, rfl, rfl, k1, k2, by rw [f1.1, f2.1]; exact szOk_le hs, fun e => ?_, fun _ e => ?_, fun _ _ q hq => p.tup RH RS hq (f1.append f2)⟩))
      · subst e
        rw [List.length_eq_zero_iff.mp f1.1.symm, List.nil_append] at p
        exact p.valP RH RS (.tup h2 f2.1 f2.2)
      · subst e
        rw [List.length_eq_zero_iff.mp f2.1.symm, List.append_nil] at p
        exact p.valP RH RS (.tup h1 f1.1 f1.2)
    · cases hz
  · split at hz
    · rename_i hs; cases hz
      obtain ⟨b, xs, rfl, h1, f1⟩ := vd.lst RH
      obtain ⟨c, ys, rfl, h2, f2⟩ := ve.lst RH
      exact .inr (.inr (.inr ⟨b, c, xs, ys, rfl, rfl, h1, h2, by rw [f1.1, f2.1]; exact szOk_le hs, fun q hq => p.lst RH RS hq (f1.append f2)⟩))
    · cases hz
theorem de_sub (hx : DR T Wx X x Φ) (hy : DR T Wx X y Ψ) :
    DP T Wx X (.BinOp x .Sub y pos) (fun a hh => (Φ a hh).bind fun r h1 => (Ψ a h1).bind fun s h2 => RE.lift ((look a h2 r).bind fun d => (look a h2 s).bind fun e => opB .sub d e) h2) := by
  refine de_op op_sub hx hy fun w a σ v u d e z Q RH RS vd ve hz p => ?_
  unfold opB at hz
  split at hz <;> first | cases hz | skip
  all_goals first | contradiction | skip
  cases vd.int; cases ve.int; exact ⟨_, _, rfl, rfl, p.valP RH RS (.int _)⟩
theorem de_mul (hx : DR T Wx X x Φ) (hy : DR T Wx X y Ψ) :
    DP T Wx X (.BinOp x .Mult y pos) (fun a hh => (Φ a hh).bind fun r h1 => (Ψ a h1).bind fun s h2 => RE.lift ((look a h2 r).bind fun d => (look a h2 s).bind fun e => opB .mul d e) h2) := by
  refine de_op (op_mulW.or op_rep) hx hy fun w a σ v u d e z Q RH RS vd ve hz p => ?_
  unfold opB at hz
  split at hz <;> first | cases hz | skip
  all_goals first | contradiction | skip
  · split at hz
    · rename_i hs; cases hz; cases vd.int; cases ve.int
      exact .inl ⟨_, _, rfl, rfl, of_decide_eq_true (p := _ + _ < _) hs, p.valP RH RS (.int _)⟩
    · cases hz
  · split at hz
    · rename_i hs; cases hz
      rw [Bool.and_eq_true, Bool.and_eq_true, decide_eq_true_eq, decide_eq_true_eq] at hs
      obtain ⟨b, xs, rfl, h1, f1⟩ := vd.lst RH
      cases ve.int
      exact .inr ⟨b, _, xs, rfl, rfl, h1, by omega, by omega, by rw [f1.1]; exact szOk_le hs.1.1, fun q hq => p.lst RH RS hq (fzl_flat f1 _)⟩
    · cases hz
theorem de_fdiv (hx : DR T Wx X x Φ) (hy : DR T Wx X y Ψ) :
    DP T Wx X (.BinOp x .FloorDiv y pos) (fun a hh => (Φ a hh).bind fun r h1 => (Ψ a h1).bind fun s h2 => RE.lift ((look a h2 r).bind fun d => (look a h2 s).bind fun e => opB .fdiv d e) h2) := by
  refine de_op op_fdivW hx hy fun w a σ v u d e z Q RH RS vd ve hz p => ?_
  unfold opB at hz
  split at hz <;> first | cases hz | skip
  all_goals first | contradiction | skip
  split at hz
  · rename_i hs; cases hz; cases vd.int; cases ve.int
    unfold divOk at hs
    rw [Bool.and_eq_true, decide_eq_true_eq, decide_eq_true_eq] at hs
    exact ⟨_, _, rfl, rfl, hs, p.valP RH RS (.int _)⟩
  · cases hz
theorem de_mod (hx : DR T Wx X x Φ) (hy : DR T Wx X y Ψ) :
    DP T Wx X (.BinOp x .Mod y pos) (fun a hh => (Φ a hh).bind fun r h1 => (Ψ a h1).bind fun s h2 => RE.lift ((look a h2 r).bind fun d => (look a h2 s).bind fun e => opB .mod d e) h2) := by
  refine de_op op_mod hx hy fun w a σ v u d e z Q RH RS vd ve hz p => ?_
  unfold opB at hz
  split at hz <;> first | cases hz | skip
  all_goals first | contradiction | skip
  split at hz
  · rename_i hs; cases hz; cases vd.int; cases ve.int
    exact ⟨_, _, rfl, rfl, of_decide_eq_true hs, p.valP RH RS (.int _)⟩
  · cases hz
theorem de_pow (hx : DR T Wx X x Φ) (hy : DR T Wx X y Ψ) :
    DP T Wx X (.BinOp x .Pow y pos) (fun a hh => (Φ a hh).bind fun r h1 => (Ψ a h1).bind fun s h2 => RE.lift ((look a h2 r).bind fun d => (look a h2 s).bind fun e => opB .pow d e) h2) := by
  refine de_op op_pow hx hy fun w a σ v u d e z Q RH RS vd ve hz p => ?_
  unfold opB at hz
  split at hz <;> first | cases hz | skip
  all_goals first | contradiction | skip
  split at hz
  · rename_i hs; cases hz; cases vd.int; cases ve.int
    rw [Bool.and_eq_true, Bool.and_eq_true, decide_eq_true_eq, decide_eq_true_eq, decide_eq_true_eq] at hs
    exact ⟨_, _, rfl, rfl, ⟨hs.1.1, hs.1.2, hs.2⟩, p.valP RH RS (.int _)⟩
  · cases hz
theorem de_bin (hK : X.K = T.K) (op : Bop) (hx : DR T Wx X x Φ) (hy : DR T Wx X y Ψ) :
    DP T Wx X (.BinOp x (opP op) y pos) (fun a hh => (Φ a hh).bind fun r h1 => (Ψ a h1).bind fun s h2 => RE.lift ((look a h2 r).bind fun d => (look a h2 s).bind fun e => opB op d e) h2) := by
  cases op
  · exact de_add hK hx hy
  · exact de_sub hx hy
  · exact de_mul hx hy
  · exact de_fdiv hx hy
  · exact de_mod hx hy
  · exact de_pow hx hy

/-! ### comparisons -/
def opCP : Cop → CmpOp
  | .eq => .Eq | .ne => .NotEq | .lt => .Lt | .le => .LtE | .gt => .Gt | .ge => .GtE | .isN => .Is | .notN => .IsNot | .inn => .In | .nin => .NotIn
def rInT (K : PySem.W.Frag) : R2 := fun x y H Q => ∃ d ds, Dp K H x d ∧ Dp K H y (.tuple ds) ∧ SeqAt.shaped d = true ∧ SeqAt.shaped (.tuple ds) = true ∧ Q (.bl (ds.any fun z => PyData.eqv z d)) H
def rNinT (K : PySem.W.Frag) : R2 := fun x y H Q => ∃ d ds, Dp K H x d ∧ Dp K H y (.tuple ds) ∧ SeqAt.shaped d = true ∧ SeqAt.shaped (.tuple ds) = true ∧ Q (.bl (!ds.any fun z => PyData.eqv z d)) H
theorem op_inT (hu : X.A.units + 65 < cLine) : OpR X (compareOp .In) (rInT X.K) := by
  intro pins s σ H x y v u Q I rx ry ⟨d, ds, hd, he, sd, se, q⟩
  obtain ⟨as, r1⟩ := Dp.reads I d x v hd rx
  obtain ⟨bs, r2⟩ := Dp.reads I (.tuple ds) y u he ry
  exact SeqAt.in_tuple_reads r2 r1 (SeqAt.canLay_of_shaped se) (SeqAt.canLay_of_shaped sd) (room_in_shaped sd hu) ⟨.bl _, H, I, rfl, q⟩
theorem op_ninT (hu : X.A.units + 65 < cLine) : OpR X (compareOp .NotIn) (rNinT X.K) := by
  intro pins s σ H x y v u Q I rx ry ⟨d, ds, hd, he, sd, se, q⟩
  obtain ⟨as, r1⟩ := Dp.reads I d x v hd rx
  obtain ⟨bs, r2⟩ := Dp.reads I (.tuple ds) y u he ry
  exact SeqAt.notIn_tuple_reads r2 r1 (SeqAt.canLay_of_shaped se) (SeqAt.canLay_of_shaped sd) (room_in_shaped sd hu) ⟨.bl _, H, I, rfl, q⟩
/-- a comparison's rule by values -/
def CmpR (T : Tb) (X : Cx) (op : Cop) : Prop := ∃ r : R2, OpR X (compareOp (opCP op)) r ∧
  ∀ (w : Wo) (v u : V) (d e : D) (b : Bool) (Q : VK), RepH T w → Vw T w v d → Vw T w u e → opC op d e = some b → Q (.bl b) w.H → r v u w.H Q
theorem eqD_some {d e : D} {b : Bool} (h : eqD d e = some b) : D.ok DEPTH d = true ∧ D.ok DEPTH e = true ∧ b = d.eqb e := by
  unfold eqD at h
  split at h
  · rename_i k
    rw [Bool.and_eq_true] at k
    exact ⟨k.1, k.2, (Option.some.inj h).symm⟩
  · cases h
theorem vw_non {w : Wo} {v : V} {d : D} (h : Vw T w v d) : (v = .non ↔ d = .non) := by
  rcases h with h | ⟨p, rfl, h⟩
  · cases h <;> simp
  · cases d <;> first | exact h.elim | simp
theorem cmpI_some {p : Int → Int → Bool} {d e : D} {b : Bool} (h : cmpI p d e = some b) : ∃ i j, d = .int i ∧ e = .int j ∧ b = p i j := by
  unfold cmpI at h
  split at h
  · exact ⟨_, _, rfl, rfl, (Option.some.inj h).symm⟩
  · cases h
theorem cmpI_ok {w : Wo} {v u : V} {d e : D} {b : Bool} {p : Int → Int → Bool} {Q : VK} (vd : Vw T w v d) (ve : Vw T w u e) (h : cmpI p d e = some b) (q : Q (.bl b) w.H) : ∃ i j, v = .int i ∧ u = .int j ∧ Q (.bl (p i j)) w.H := by
  obtain ⟨i, j, rfl, rfl, rfl⟩ := cmpI_some h
  exact ⟨i, j, vd.int, ve.int, q⟩
theorem isN_ok {w : Wo} {v u : V} {d e : D} {b : Bool} (vd : Vw T w v d) (ve : Vw T w u e) (h : isNonD d e = some b) : u = .non ∧ b = decide (v = .non) := by
  unfold isNonD at h
  split at h
  · cases h
    exact ⟨ve.non, by rw [vd.non]; simp⟩
  · cases h
    rename_i hn
    exact ⟨ve.non, (decide_eq_false fun z => hn ((vw_non vd).mp z)).symm⟩
  · cases h
theorem in_ok {w : Wo} {v u : V} {d e : D} {b : Bool} (RH : RepH T w) (vd : Vw T w v d) (ve : Vw T w u e) (h : inD d e = some b) :
    (∃ ds, Dp T.K w.H v d.py ∧ Dp T.K w.H u (.list ds) ∧ SeqAt.shaped d.py = true ∧ SeqAt.shaped (.list ds) = true ∧ b = ds.any fun z => PyData.eqv z d.py) ∨
    (∃ ds, Dp T.K w.H v d.py ∧ Dp T.K w.H u (.tuple ds) ∧ SeqAt.shaped d.py = true ∧ SeqAt.shaped (.tuple ds) = true ∧ b = ds.any fun z => PyData.eqv z d.py) ∨
    ∃ (c : Nat) (z : PySem.Str), v = .str ⟨#[c]⟩ ∧ u = .str z ∧ b = decide (c ∈ z.cps.toList) := by
  unfold inD at h
  split at h
  · split at h
    · rename_i k; cases h
      rw [Bool.and_eq_true] at k
      have k2 := ok_lst k.2
      have e1 := vw_dp (n := 50) RH ve k2
      have e2 := py_shaped (n := 51) (by decide) k2
      rw [D.py] at e1 e2
      have e3 := pyAll_any k.1 _ k.2
      exact .inl ⟨_, vw_dp (n := 49) RH vd k.1, e1, py_shaped (by decide) k.1, e2, e3⟩
    · cases h
  · split at h
    · rename_i k; cases h
      rw [Bool.and_eq_true] at k
      have k2 := ok_tup k.2
      have e1 := vw_dp (n := 50) RH ve k2
      have e2 := py_shaped (n := 51) (by decide) k2
      rw [D.py] at e1 e2
      have e3 := pyAll_any k.1 _ k.2
      exact .inr (.inl ⟨_, vw_dp (n := 49) RH vd k.1, e1, py_shaped (by decide) k.1, e2, e3⟩)
    · cases h
  · rcases ve with ve | ⟨_, _, ve⟩
    · cases ve
    · exact ve.elim
  · split at h
    · rename_i x z _ c hc
      cases h
      have e : x = ⟨#[c]⟩ := by
        obtain ⟨cps⟩ := x
        congr 1
        exact Array.toList_inj.mp hc
      subst e
      exact .inr (.inr ⟨c, z, vd.str, ve.str, rfl⟩)
    · cases h
  · cases h
theorem cmpR (hK : X.K = T.K) (hu : X.A.units + 70 < cLine) (op : Cop) : CmpR T X op := by
  cases op with
  | eq =>
    refine ⟨_, op_eqD (by omega), fun w v u d e b Q RH vd ve h q => ?_⟩
    obtain ⟨k1, k2, rfl⟩ := eqD_some (show eqD d e = some b from h)
    rw [py_eqv _ d e _ k1 k2] at q
    rw [hK]
    exact ⟨_, _, vw_dp (n := 49) RH vd k1, vw_dp (n := 49) RH ve k2, py_shaped (by decide) k1, py_shaped (by decide) k2, q⟩
  | ne =>
    refine ⟨_, op_neD (by omega), fun w v u d e b Q RH vd ve h q => ?_⟩
    obtain ⟨c, h', rfl⟩ := Option.map_eq_some_iff.mp (show (eqD d e).map (!·) = some b from h)
    obtain ⟨k1, k2, rfl⟩ := eqD_some h'
    rw [py_eqv _ d e _ k1 k2] at q
    rw [hK]
    exact ⟨_, _, vw_dp (n := 49) RH vd k1, vw_dp (n := 49) RH ve k2, py_shaped (by decide) k1, py_shaped (by decide) k2, q⟩
  | lt => exact ⟨_, op_lt, fun w v u d e b Q RH vd ve h q => cmpI_ok vd ve h q⟩
  | le => exact ⟨_, op_le, fun w v u d e b Q RH vd ve h q => cmpI_ok vd ve h q⟩
  | gt => exact ⟨_, op_gt, fun w v u d e b Q RH vd ve h q => cmpI_ok vd ve h q⟩
  | ge => exact ⟨_, op_ge, fun w v u d e b Q RH vd ve h q => cmpI_ok vd ve h q⟩
  | isN =>
    refine ⟨_, op_isN, fun w v u d e b Q RH vd ve h q => ?_⟩
    obtain ⟨h1, rfl⟩ := isN_ok vd ve h
    exact ⟨h1, q⟩
  | notN =>
    refine ⟨_, op_notN, fun w v u d e b Q RH vd ve h q => ?_⟩
    obtain ⟨c, h', rfl⟩ := Option.map_eq_some_iff.mp (show (isNonD d e).map (!·) = some b from h)
    obtain ⟨h1, rfl⟩ := isN_ok vd ve h'
    exact ⟨h1, q⟩
  | inn =>
    refine ⟨_, (op_inD (by omega)).or ((op_inT (by omega)).or op_in_sign), fun w v u d e b Q RH vd ve h q => ?_⟩
    rw [hK]
    rcases in_ok RH vd ve h with ⟨ds, h1, h2, h3, h4, rfl⟩ | ⟨ds, h1, h2, h3, h4, rfl⟩ | ⟨c, z, h1, h2, rfl⟩
    · exact .inl ⟨_, _, h1, h2, h3, h4, q⟩
    · exact .inr (.inl ⟨_, _, h1, h2, h3, h4, q⟩)
    · exact .inr (.inr ⟨_, _, h1, h2, q⟩)
  | nin =>
    refine ⟨_, (op_notInD (by omega)).or ((op_ninT (by omega)).or op_notIn_sign), fun w v u d e b Q RH vd ve h q => ?_⟩
    obtain ⟨c, h', rfl⟩ := Option.map_eq_some_iff.mp (show (inD d e).map (!·) = some b from h)
    rw [hK]
    rcases in_ok RH vd ve h' with ⟨ds, h1, h2, h3, h4, rfl⟩ | ⟨ds, h1, h2, h3, h4, rfl⟩ | ⟨c, z, h1, h2, rfl⟩
    · exact .inl ⟨_, _, h1, h2, h3, h4, q⟩
    · exact .inr (.inl ⟨_, _, h1, h2, h3, h4, q⟩)
    · exact .inr (.inr ⟨_, _, h1, h2, q⟩)
theorem de_cmp (hK : X.K = T.K) (hu : X.A.units + 70 < cLine) (op : Cop) (hx : DR T Wx X x Φ) (hy : DR T Wx X y Ψ) (hm : behindInMarks (opCP op) y = false) :
    DE T Wx X (.Compare x [opCP op] [y] pos) (fun a hh => (Φ a hh).bind fun r h1 => (Ψ a h1).bind fun s h2 => RE.lift ((look a h2 r).bind fun d => (look a h2 s).bind fun e => (opC op d e).map .bl) h2) := by
  obtain ⟨r, ho, hr⟩ := cmpR (T := T) hK hu op
  refine pe_imp (pe_cmpR ho hx hy hm) fun σ H Q ⟨w, a, e, RH, RS, p⟩ => ⟨w, a, e, RH, RS, ?_⟩
  refine (p.bind (Rel := rHd T a σ)).imp fun v H1 ⟨w1, d, le, eH, RH1, RS1, f1, q⟩ => ⟨w1, a, eH, RH1, RS1, ?_⟩
  refine (q.bind (Rel := rHd T a σ)).imp fun u H2 ⟨w2, s, le2, eH2, RH2, RS2, f2, q2⟩ => ?_
  rw [← eH2]
  obtain ⟨z, hz, q2⟩ := Post.lift q2
  obtain ⟨d1, h1, hz⟩ := Option.bind_eq_some_iff.mp hz
  obtain ⟨d2, h2, hz⟩ := Option.bind_eq_some_iff.mp hz
  obtain ⟨b, h3, rfl⟩ := Option.map_eq_some_iff.mp hz
  exact hr w2 v u d1 d2 b Q RH2 (look_ok RH2 RS2 (Hd.mono le2 f1) h1) (look_ok RH2 RS2 f2 h2) h3 (q2.val RH2 RS2 (.bl _))
end
end Ev
end
section
set_option Elab.async false
set_option linter.all false
set_option maxRecDepth 100000
set_option maxHeartbeats 2000000
/-! Ev, part E: the other expressions. -/
namespace Ev
open PySem PySem.Spec PyProof.Rows L2
/-! ### syntax -/
/-- an expression that is asked for nothing odd where it stands as an argument, an index, an operand -/
def plE : Expr → Bool
  | .Starred _ _ => false
  | .Slice _ _ _ _ => false
  | .Set _ _ _ => false
  | _ => true
def tsE : Expr → Bool
  | .UnaryOp _ _ _ => false
  | .BoolOp _ _ _ => false
  | .IfExp _ _ _ _ => false
  | .Compare _ _ _ _ => false
  | _ => true
def lcE : Expr → Bool
  | .ListComp _ _ _ _ => false
  | .SetComp _ _ _ _ => false
  | .DictComp _ _ _ _ _ => false
  | _ => true
def supE : Expr → Bool
  | .Call _ [] [] _ => false
  | _ => true
section
variable {e : Expr} {es : List Expr} {env : Env}
theorem star_pl (h : plE e = true) : starEach (e :: es) env = (false, eval e env) :: starEach es env := by cases e <;> first | rfl | (exact (Bool.false_ne_true h).elim)
theorem anyStar_pl {pos : Pos} : ∀ {es : List Expr}, es.all plE = true → (backTo pos (starEach es env)).any (·.1) = false
  | [], _ => rfl
  | e :: r, h => by
    rw [List.all_cons, Bool.and_eq_true] at h
    rw [star_pl h.1]
    show (false || (backTo pos (starEach r env)).any (·.1)) = false
    rw [anyStar_pl h.2]; rfl
theorem plainIx_pl (h : plE e = true) : PlainIx e := by intro o i; cases e <;> first | rfl | (exact (Bool.false_ne_true h).elim)
theorem mark_pl (op : CmpOp) (h : plE e = true) : behindInMarks op e = false := by cases e <;> first | rfl | (exact (Bool.false_ne_true h).elim)
theorem fold_pl (h : plE e = true) (x : Value) : foldedSetIterable e env x = pure x := by cases e <;> first | rfl | (exact (Bool.false_ne_true h).elim)
theorem test_ts (h : tsE e = true) (whole : Sem Value) : isTrue e env whole = (do let v ← whole; standAt e.pos; holding [v] (truthy v)) := by cases e <;> first | rfl | (exact (Bool.false_ne_true h).elim)
theorem swaps_lc (h : lcE e = true) (t : Option Expr) (l : Nat) : swapsWith e t l env = pure false := by cases e <;> first | rfl | (exact (Bool.false_ne_true h).elim)
theorem swapsS_lc (h : lcE e = true) (t : Expr) (l : Nat) : swapsWithSole [t] e l env = pure false := swaps_lc h _ _
theorem attr_sup (h : supE e = true) (f : PySem.Str) : attributeBase e f env (eval e env) = eval e env := by
  cases e with
  | Call fn args kws pos =>
    cases args with
    | nil =>
      cases kws with
      | nil => exact absurd h (by simp [supE])
      | cons k ks => cases fn <;> rfl
    | cons a r => cases fn <;> rfl
  | _ => rfl
end
/-! ### rows of expressions -/
section
variable {T : Tb} {Wx : WX} {X : Cx} {x y z : Expr} {es : List Expr} {pos : Pos} {Φ Ψ Θ : List SL → List D → RE D} {ΦR ΨR : List SL → List D → RE RV} {Φs : List SL → List D → RE (List D)} {Φrs : List SL → List D → RE (List RV)} {ΦB ΨB : List SL → List D → RE Bool}
theorem da_nil : DA T Wx X [] (fun _ hh => .ok [] hh) := by
  refine pa_imp pa_nil fun σ H Q ⟨w, a, e, RH, RS, p⟩ => ?_
  show Q [] H
  rw [← e]
  exact p [] w (.refl _) rfl RH RS .nil
theorem da_cons (h1 : DE T Wx X x Φ) (h2 : DA T Wx X es Φs) (hp : plE x = true) : DA T Wx X (x :: es) (fun a hh => (Φ a hh).bind fun d h1 => (Φs a h1).bind fun l h2 => .ok (d :: l) h2) := by
  refine pa_imp (pa_cons h1 h2 (star_pl hp)) fun σ H Q ⟨w, a, e, RH, RS, p⟩ => ⟨w, a, e, RH, RS, ?_⟩
  refine (p.bind (Rel := rF T a σ)).imp fun v H1 ⟨w1, d, le, eH, RH1, RS1, f1, q⟩ => ⟨w1, a, eH, RH1, RS1, ?_⟩
  refine (q.bind (Rel := rFL T a σ)).imp fun u H2 ⟨w2, s, le2, eH2, RH2, RS2, f2, q2⟩ => ?_
  rw [← eH2]
  exact q2 _ w2 (.refl _) rfl RH2 RS2 (.cons (f1.mono le2.f le2.m) f2)
theorem dar_nil : DAR T Wx X [] (fun _ hh => .ok [] hh) := by
  refine pa_imp pa_nil fun σ H Q ⟨w, a, e, RH, RS, p⟩ => ?_
  show Q [] H
  rw [← e]
  exact p [] w (.refl _) rfl RH RS ⟨rfl, fun i v r e => by simp at e⟩
theorem dar_cons (h1 : DR T Wx X x ΦR) (h2 : DAR T Wx X es Φrs) (hp : plE x = true) : DAR T Wx X (x :: es) (fun a hh => (ΦR a hh).bind fun d h1 => (Φrs a h1).bind fun l h2 => .ok (d :: l) h2) := by
  refine pa_imp (pa_cons h1 h2 (star_pl hp)) fun σ H Q ⟨w, a, e, RH, RS, p⟩ => ⟨w, a, e, RH, RS, ?_⟩
  refine (p.bind (Rel := rHd T a σ)).imp fun v H1 ⟨w1, d, le, eH, RH1, RS1, f1, q⟩ => ⟨w1, a, eH, RH1, RS1, ?_⟩
  refine (q.bind (Rel := rHdL T a σ)).imp fun u H2 ⟨w2, s, le2, eH2, RH2, RS2, f2, q2⟩ => ?_
  rw [← eH2]
  refine q2 _ w2 (.refl _) rfl RH2 RS2 ⟨by simp [f2.1], fun i y r e1 e2 => ?_⟩
  cases i with
  | zero => simp at e1 e2; subst e1 e2; exact Hd.mono le2 f1
  | succ i => exact f2.2 i y r (by simpa using e1) (by simpa using e2)
/-! ### displays -/
theorem de_tup {k : Nat} (h : DA T Wx X es Φs) : DP T Wx X (.Tuple es k pos) (fun a hh => (Φs a hh).bind fun l h1 => if szOk l.length then .ok (.tup l) h1 else .bad) := by
  refine pe_imp (pe_tup h) fun σ H Q ⟨w, a, e, RH, RS, p⟩ => ⟨w, a, e, RH, RS, ?_⟩
  refine (p.bind (Rel := rFL T a σ)).imp fun v H1 ⟨w1, d, le, eH, RH1, RS1, f1, q⟩ => ?_
  rw [← eH]
  dsimp only at q
  split at q
  · rename_i hs
    exact ⟨by rw [f1.1]; exact szOk_le hs, fun p hp => Post.tup q RH1 RS1 hp f1⟩
  · exact q.elim
theorem de_lst (h : DA T Wx X es Φs) : DP T Wx X (.List es pos) (fun a hh => (Φs a hh).bind fun l h1 => if szOk l.length then .ok (.lst l) h1 else .bad) := by
  refine pe_imp (pe_lst h) fun σ H Q ⟨w, a, e, RH, RS, p⟩ => ⟨w, a, e, RH, RS, ?_⟩
  refine (p.bind (Rel := rFL T a σ)).imp fun v H1 ⟨w1, d, le, eH, RH1, RS1, f1, q⟩ => ?_
  rw [← eH]
  dsimp only at q
  split at q
  · rename_i hs
    exact ⟨by rw [f1.1]; exact szOk_le hs, fun p hp => Post.lst q RH1 RS1 hp f1⟩
  · exact q.elim
/-! ### truths -/
theorem Post.tOf {a : List SL} {σ : Ev.St} {w : Wo} {R : Bool → Hp → Prop} {r : RE D} (h : Post T Wx a σ w (fun _ (b : Bool) (c : Bool) => b = c) R (Ev.tOf r)) :
    Post T Wx a σ w (rF T a σ) (fun v H => ∃ c, v = .bl c ∧ R c H) r := by
  cases r with
  | ok d hh =>
    cases d with
    | bl b => exact fun v w' le e1 e2 e3 f => by cases f; exact ⟨b, rfl, h b w' le e1 e2 e3 rfl⟩
    | _ => exact h.elim
  | exc c ds hh => exact h
  | bad => exact h
theorem Post.iOf {a : List SL} {σ : Ev.St} {w : Wo} {R : Int → Hp → Prop} {r : RE D} (h : Post T Wx a σ w (fun _ (b : Int) (c : Int) => b = c) R (Ev.iOf r)) :
    Post T Wx a σ w (rF T a σ) (fun v H => ∃ c, v = .int c ∧ R c H) r := by
  cases r with
  | ok d hh =>
    cases d with
    | int b => exact fun v w' le e1 e2 e3 f => by cases f; exact ⟨b, rfl, h b w' le e1 e2 e3 rfl⟩
    | _ => exact h.elim
  | exc c ds hh => exact h
  | bad => exact h
/-- from a value to a test -/
theorem dt_of (h : DE T Wx X x Φ) (ht : tsE x = true) : DT T Wx X x (fun a hh => Ev.tOf (Φ a hh)) := by
  refine pt_imp (pt_val h fun w => test_ts ht w) fun σ H Q ⟨w, a, e, RH, RS, p⟩ => ⟨w, a, e, RH, RS, Post.tOf p⟩
/-- .. of a comparison -/
theorem dt_cmp {r : R2} {op : CmpOp} (ho : OpR X (compareOp op) r) (hx : DR T Wx X x ΦR) (hy : DR T Wx X y ΨR) (hm : behindInMarks op y = false) {f : D → D → Option Bool}
    (hr : ∀ (w : Wo) (v u : V) (d e : D) (b : Bool) (Q : VK), RepH T w → Vw T w v d → Vw T w u e → f d e = some b → Q (.bl b) w.H → r v u w.H Q) :
    DT T Wx X (.Compare x [op] [y] pos) (fun a hh => Ev.tOf ((ΦR a hh).bind fun r h1 => (ΨR a h1).bind fun s h2 => RE.lift ((look a h2 r).bind fun d => (look a h2 s).bind fun e => (f d e).map .bl) h2)) := by
  refine pt_imp (pt_cmpR ho hx hy hm) fun σ H Q ⟨w, a, e, RH, RS, p⟩ => ⟨w, a, e, RH, RS, ?_⟩
  refine ((Post.tOf p).bind (Rel := rHd T a σ)).imp fun v H1 ⟨w1, d, le, eH, RH1, RS1, f1, q⟩ => ⟨w1, a, eH, RH1, RS1, ?_⟩
  refine (q.bind (Rel := rHd T a σ)).imp fun u H2 ⟨w2, s, le2, eH2, RH2, RS2, f2, q2⟩ => ?_
  rw [← eH2]
  obtain ⟨z, hz, q2⟩ := Post.lift q2
  obtain ⟨d1, h1, hz⟩ := Option.bind_eq_some_iff.mp hz
  obtain ⟨d2, h2, hz⟩ := Option.bind_eq_some_iff.mp hz
  obtain ⟨b, h3, rfl⟩ := Option.map_eq_some_iff.mp hz
  exact hr w2 v u d1 d2 b _ RH2 (look_ok RH2 RS2 (Hd.mono le2 f1) h1) (look_ok RH2 RS2 f2 h2) h3 (q2 _ w2 (.refl _) rfl RH2 RS2 (.bl b))
/-- not -/
theorem dt_not (h : DT T Wx X x ΦB) : DT T Wx X (.UnaryOp .Not x pos) (fun a hh => (ΦB a hh).bind fun b h1 => .ok (!b) h1) := by
  refine pt_imp (pt_not h) fun σ H Q ⟨w, a, e, RH, RS, p⟩ => ⟨w, a, e, RH, RS, ?_⟩
  refine (p.bind (Rel := fun _ (b : Bool) (c : Bool) => b = c)).imp fun v H1 ⟨w1, d, le, eH, RH1, RS1, f1, q⟩ => ?_
  cases f1
  rw [← eH]
  exact q _ w1 (.refl _) rfl RH1 RS1 rfl
theorem de_not (h : DE T Wx X x Φ) : DE T Wx X (.UnaryOp .Not x pos) (fun a hh => (Ev.tOf (Φ a hh)).bind fun b h1 => .ok (.bl (!b)) h1) := by
  refine pe_imp (pe_not h) fun σ H Q ⟨w, a, e, RH, RS, p⟩ => ⟨w, a, e, RH, RS, ?_⟩
  refine (Post.tOf (p.bind (Rel := fun _ (b : Bool) (c : Bool) => b = c))).imp fun v H1 ⟨c, hv, w1, d, le, eH, RH1, RS1, f1, q⟩ => ⟨c, hv, ?_⟩
  cases f1
  rw [← eH]
  exact q _ w1 (.refl _) rfl RH1 RS1 (.bl _)
theorem de_neg (h : DE T Wx X x Φ) : DE T Wx X (.UnaryOp .USub x pos) (fun a hh => (Ev.iOf (Φ a hh)).bind fun b h1 => .ok (.int (-b)) h1) := by
  refine pe_imp (pe_un un_neg h) fun σ H Q ⟨w, a, e, RH, RS, p⟩ => ⟨w, a, e, RH, RS, ?_⟩
  refine (Post.iOf (p.bind (Rel := fun _ (b : Int) (c : Int) => b = c))).imp fun v H1 ⟨c, hv, w1, d, le, eH, RH1, RS1, f1, q⟩ => ⟨c, hv, ?_⟩
  cases f1
  rw [← eH]
  exact q _ w1 (.refl _) rfl RH1 RS1 (.int _)
/-- and, or as values -/
theorem de_one {op : BoolOp} (h : DE T Wx X x Φ) : DE T Wx X (.BoolOp op [x] pos) Φ := pe_one h
theorem de_and {b : Expr} {rest : List Expr} (hx : DE T Wx X x Φ) (hy : DE T Wx X (.BoolOp .And (b :: rest) pos) Ψ) :
    DE T Wx X (.BoolOp .And (x :: b :: rest) pos) (fun a hh => (Ev.tOf (Φ a hh)).bind fun c h1 => if c then Ψ a h1 else .ok (.bl false) h1) := by
  refine pe_imp (pe_and hx hy) fun σ H Q ⟨w, a, e, RH, RS, p⟩ => ⟨w, a, e, RH, RS, ?_⟩
  refine (Post.tOf (p.bind (Rel := fun _ (b : Bool) (c : Bool) => b = c))).imp fun v H1 ⟨c, hv, w1, d, le, eH, RH1, RS1, f1, q⟩ => ⟨c, hv, ?_⟩
  cases f1
  cases c with
  | true => exact ⟨w1, a, eH, RH1, RS1, q⟩
  | false => rw [← eH]; exact q _ w1 (.refl _) rfl RH1 RS1 (.bl _)
theorem de_or {b : Expr} {rest : List Expr} (hx : DE T Wx X x Φ) (hy : DE T Wx X (.BoolOp .Or (b :: rest) pos) Ψ) :
    DE T Wx X (.BoolOp .Or (x :: b :: rest) pos) (fun a hh => (Ev.tOf (Φ a hh)).bind fun c h1 => if c then .ok (.bl true) h1 else Ψ a h1) := by
  refine pe_imp (pe_or hx hy) fun σ H Q ⟨w, a, e, RH, RS, p⟩ => ⟨w, a, e, RH, RS, ?_⟩
  refine (Post.tOf (p.bind (Rel := fun _ (b : Bool) (c : Bool) => b = c))).imp fun v H1 ⟨c, hv, w1, d, le, eH, RH1, RS1, f1, q⟩ => ⟨c, hv, ?_⟩
  cases f1
  cases c with
  | true => rw [← eH]; exact q _ w1 (.refl _) rfl RH1 RS1 (.bl _)
  | false => exact ⟨w1, a, eH, RH1, RS1, q⟩
/-- .. as tests -/
abbrev DW (T : Tb) (Wx : WX) (X : Cx) (e : Expr) (Φ : List SL → List D → RE Bool) : Prop := PW X e (tG T Wx (fun _ _ _ (b : Bool) (c : Bool) => b = c) Φ)
theorem pw_imp {X : Cx} {e : Expr} {t t' : TT} (h : PW X e t) (k : ∀ σ H Q, t' σ H Q → t σ H Q) : PW X e t' := ⟨fun wh pins s σ H Q I q => h.run wh pins s σ H Q I (k σ H Q q)⟩
theorem dw_and1 (h : DT T Wx X x ΦB) : DW T Wx X (.BoolOp .And [x] pos) ΦB := pw_and1 h
theorem dw_or1 (h : DT T Wx X x ΦB) : DW T Wx X (.BoolOp .Or [x] pos) ΦB := pw_or1 h
theorem dw_and {b : Expr} {rest : List Expr} (hx : DT T Wx X x ΦB) (hy : DW T Wx X (.BoolOp .And (b :: rest) pos) ΨB) :
    DW T Wx X (.BoolOp .And (x :: b :: rest) pos) (fun a hh => (ΦB a hh).bind fun c h1 => if c then ΨB a h1 else .ok false h1) := by
  refine pw_imp (pw_and hx hy) fun σ H Q ⟨w, a, e, RH, RS, p⟩ => ⟨w, a, e, RH, RS, ?_⟩
  refine (p.bind (Rel := fun _ (b : Bool) (c : Bool) => b = c)).imp fun v H1 ⟨w1, d, le, eH, RH1, RS1, f1, q⟩ => ?_
  cases f1
  cases v with
  | true => exact ⟨w1, a, eH, RH1, RS1, q⟩
  | false => rw [← eH]; exact q _ w1 (.refl _) rfl RH1 RS1 rfl
theorem dw_or {b : Expr} {rest : List Expr} (hx : DT T Wx X x ΦB) (hy : DW T Wx X (.BoolOp .Or (b :: rest) pos) ΨB) :
    DW T Wx X (.BoolOp .Or (x :: b :: rest) pos) (fun a hh => (ΦB a hh).bind fun c h1 => if c then .ok true h1 else ΨB a h1) := by
  refine pw_imp (pw_or hx hy) fun σ H Q ⟨w, a, e, RH, RS, p⟩ => ⟨w, a, e, RH, RS, ?_⟩
  refine (p.bind (Rel := fun _ (b : Bool) (c : Bool) => b = c)).imp fun v H1 ⟨w1, d, le, eH, RH1, RS1, f1, q⟩ => ?_
  cases f1
  cases v with
  | true => rw [← eH]; exact q _ w1 (.refl _) rfl RH1 RS1 rfl
  | false => exact ⟨w1, a, eH, RH1, RS1, q⟩
/-- x if c else y -/
theorem de_ite (hc : DT T Wx X x ΦB) (hy : DE T Wx X y Φ) (hz : DE T Wx X z Ψ) : DE T Wx X (.IfExp x y z pos) (fun a hh => (ΦB a hh).bind fun b h1 => if b then Φ a h1 else Ψ a h1) := by
  refine pe_imp (pe_ifExp hc hy hz) fun σ H Q ⟨w, a, e, RH, RS, p⟩ => ⟨w, a, e, RH, RS, ?_⟩
  refine (p.bind (Rel := fun _ (b : Bool) (c : Bool) => b = c)).imp fun v H1 ⟨w1, d, le, eH, RH1, RS1, f1, q⟩ => ?_
  cases f1
  cases v with
  | true => exact ⟨w1, a, eH, RH1, RS1, q⟩
  | false => exact ⟨w1, a, eH, RH1, RS1, q⟩
/-- x < y < z -/
theorem de_chain {r1 r2 : R2} {o1 o2 : CmpOp} {f1 f2 : D → D → Option Bool} (h1 : OpR X (compareOp o1) r1) (h2 : OpR X (compareOp o2) r2)
    (k1 : ∀ (w : Wo) (v u : V) (d e : D) (b : Bool) (Q : VK), RepH T w → Vw T w v d → Vw T w u e → f1 d e = some b → Q (.bl b) w.H → r1 v u w.H Q)
    (k2 : ∀ (w : Wo) (v u : V) (d e : D) (b : Bool) (Q : VK), RepH T w → Vw T w v d → Vw T w u e → f2 d e = some b → Q (.bl b) w.H → r2 v u w.H Q)
    (hx : DE T Wx X x Φ) (hy : DE T Wx X y Ψ) (hz : DE T Wx X z Θ)
    (hp : ∀ {ta tb tc : L2.TE}, PE X x ta → PE X y tb → PE X z tc → PE X (.Compare x [o1, o2] [y, z] pos) (tChain r1 r2 ta tb tc)) :
    DE T Wx X (.Compare x [o1, o2] [y, z] pos) (fun a hh => (Φ a hh).bind fun d h1 => (Ψ a h1).bind fun e h2 => (RE.lift (f1 d e) h2).bind fun b h3 => if b then (Θ a h3).bind fun f h4 => RE.lift ((f2 e f).map .bl) h4 else .ok (.bl false) h3) := by
  refine pe_imp (hp hx hy hz) fun σ H Q ⟨w, a, e, RH, RS, p⟩ => ⟨w, a, e, RH, RS, ?_⟩
  refine (p.bind (Rel := rF T a σ)).imp fun v H1 ⟨w1, d, le, eH, RH1, RS1, g1, q⟩ => ⟨w1, a, eH, RH1, RS1, ?_⟩
  refine (q.bind (Rel := rF T a σ)).imp fun u H2 ⟨w2, s, le2, eH2, RH2, RS2, g2, q2⟩ => ?_
  rw [← eH2]
  dsimp only at q2
  cases hb : f1 d s with
  | none => rw [hb] at q2; exact q2.elim
  | some b =>
    rw [hb] at q2
    refine k1 w2 v u d s b _ RH2 (.inl (Fz.mono le2.f le2.m g1)) (.inl g2) hb ⟨b, rfl, ?_⟩
    cases b with
    | false => exact q2 _ w2 (.refl _) rfl RH2 RS2 (.bl _)
    | true =>
      have q2 : Post T Wx a σ w2 (rF T a σ) Q ((Θ a w2.hh).bind fun f h4 => RE.lift ((f2 s f).map .bl) h4) := q2
      refine ⟨w2, a, rfl, RH2, RS2, ?_⟩
      refine (q2.bind (Rel := rF T a σ)).imp fun y3 H3 ⟨w3, s3, le3, eH3, RH3, RS3, g3, q3⟩ => ?_
      rw [← eH3]
      obtain ⟨z3, hz3, q3⟩ := Post.lift q3
      obtain ⟨b3, h3, rfl⟩ := Option.map_eq_some_iff.mp hz3
      exact k2 w3 u y3 s s3 b3 _ RH3 (.inl (Fz.mono le3.f le3.m g2)) (.inl g3) h3 (q3 _ w3 (.refl _) rfl RH3 RS3 (.bl _))
end
end Ev
end
section
set_option Elab.async false
set_option linter.all false
set_option maxRecDepth 100000
set_option maxHeartbeats 2000000
/-! Ev, part F: subscripts, slices, fields, built-ins. -/
namespace Ev
open PySem PySem.Spec PyProof.Rows L2
section
variable {T : Tb} {Wx : WX} {X : Cx} {x y z : Expr} {es : List Expr} {pos : Pos} {Φ Ψ Θ : List SL → List D → RE D} {ΦR ΨR : List SL → List D → RE RV} {Φs : List SL → List D → RE (List D)} {Φrs : List SL → List D → RE (List RV)} {ΦB ΨB : List SL → List D → RE Bool}
/-! ### items -/
theorem ixI_eq (n : Nat) (i : Int) : ixI n i = ixN n i := rfl
theorem fzl_atI {m : List Addr} {F : Hp} {xs : List V} {ds : List D} {i : Int} {d : D} (h : FzL T m F xs ds) (e : ((ixI ds.length i).bind fun j => ds[j]?) = some d) : ∃ v, atI xs i = some v ∧ Fz T m F v d := by
  obtain ⟨j, h1, h2⟩ := Option.bind_eq_some_iff.mp e
  obtain ⟨v, h3, h4⟩ := h.at h2
  refine ⟨v, ?_, h4⟩
  unfold atI
  rw [h.1, ← ixI_eq, h1]
  exact h3
theorem de_ix (hK : X.K = T.K) (hx : DR T Wx X x ΦR) (hy : DE T Wx X y Φ) (hp : plE y = true) :
    DE T Wx X (.Subscript x y pos) (fun a hh => (ΦR a hh).bind fun r h1 => (Φ a h1).bind fun e h2 => RE.lift ((look a h2 r).bind fun d => opIx d e) h2) := by
  refine pe_imp (pe_ix ix_seq hx hy (plainIx_pl hp)) fun σ H Q ⟨w, a, e, RH, RS, p⟩ => ⟨w, a, e, RH, RS, ?_⟩
  refine (p.bind (Rel := rHd T a σ)).imp fun v H1 ⟨w1, d, le, eH, RH1, RS1, f1, q⟩ => ⟨w1, a, eH, RH1, RS1, ?_⟩
  refine (q.bind (Rel := rF T a σ)).imp fun u H2 ⟨w2, s, le2, eH2, RH2, RS2, f2, q2⟩ => ?_
  rw [← eH2]
  obtain ⟨z, hz, q3⟩ := Post.lift q2
  obtain ⟨d1, h1, hz⟩ := Option.bind_eq_some_iff.mp hz
  have vw := look_ok RH2 RS2 (Hd.mono le2 f1) h1
  unfold rIx rIxL rIxT rIxS
  rw [hK]
  unfold opIx at hz
  split at hz
  · cases f2
    obtain ⟨b, xs, rfl, e1, f3⟩ := vw.lst RH2
    obtain ⟨v', e2, f4⟩ := fzl_atI f3 hz
    exact .inl ⟨b, xs, _, v', rfl, rfl, .of e1, e2, q3.val RH2 RS2 f4⟩
  · cases f2
    obtain ⟨b, xs, rfl, e1, f3⟩ := vw.sqT RH2
    obtain ⟨v', e2, f4⟩ := fzl_atI f3 hz
    exact .inr (.inl ⟨b, xs, _, v', rfl, rfl, e1, e2, q3.val RH2 RS2 f4⟩)
  · cases f2
    obtain ⟨b, xs, rfl, e1, f3⟩ := vw.zst RH2
    obtain ⟨v', e2, f4⟩ := fzl_atI f3 hz
    exact .inl ⟨b, xs, _, v', rfl, rfl, e1, e2, q3.val RH2 RS2 f4⟩
  · cases f2
    cases vw.str
    split at hz
    · rename_i hs
      obtain ⟨j, h3, h4⟩ := Option.bind_eq_some_iff.mp hz
      obtain ⟨c, h5, rfl⟩ := Option.map_eq_some_iff.mp h4
      refine .inr (.inr ⟨_, _, c, rfl, rfl, szOk_le hs, ?_, q3.val RH2 RS2 (.str _)⟩)
      unfold atI
      rw [← ixI_eq, h3]
      exact h5
    · cases hz
  · rcases vw with vw | ⟨_, _, vw⟩
    · cases vw
    · exact vw.elim
  · cases hz
/-! ### slices -/
abbrev DO (T : Tb) (Wx : WX) (X : Cx) (e : Option Expr) (Φ : List SL → List D → RE (Option Int)) : Prop := PO X e (tG T Wx (fun _ _ _ (b : Option Int) (c : Option Int) => b = c) Φ)
theorem po_imp {X : Cx} {e : Option Expr} {t t' : TO} (h : PO X e t) (k : ∀ σ H Q, t' σ H Q → t σ H Q) : PO X e t' := ⟨fun pins s σ H Q I q => h.run pins s σ H Q I (k σ H Q q)⟩
theorem do_none : DO T Wx X none (fun _ hh => .ok none hh) := by
  refine po_imp po_none fun σ H Q ⟨w, a, e, RH, RS, p⟩ => ?_
  show Q none H
  rw [← e]
  exact p none w (.refl _) rfl RH RS rfl
theorem do_some (h : DE T Wx X x Φ) : DO T Wx X (some x) (fun a hh => (Ev.iOf (Φ a hh)).bind fun i h1 => .ok (some i) h1) := by
  refine po_imp (po_some h) fun σ H Q ⟨w, a, e, RH, RS, p⟩ => ⟨w, a, e, RH, RS, ?_⟩
  refine (Post.iOf (p.bind (Rel := fun _ (b : Int) (c : Int) => b = c))).imp fun v H1 ⟨c, hv, w1, d, le, eH, RH1, RS1, f1, q⟩ => ⟨c, hv, ?_⟩
  cases f1
  rw [← eH]
  exact q _ w1 (.refl _) rfl RH1 RS1 rfl
theorem slI_eq (n d : Nat) (o : Option Int) : slI n d o = HT.sIx n d o := by cases o <;> rfl
theorem cut_eq (xs : List V) (lo hi : Option Int) : cut xs lo hi = cutV xs lo hi := by unfold cut cutV; rw [slI_eq, slI_eq]
theorem fzl_cut {m : List Addr} {F : Hp} {xs : List V} {ds : List D} (h : FzL T m F xs ds) (lo hi : Option Int) : FzL T m F (cutV xs lo hi) (cut ds lo hi) := by
  rw [← cut_eq]
  unfold cut
  rw [h.1]
  exact (h.drop _).take _
theorem cutS_eq (z : PySem.Str) (lo hi : Option Int) : cutS z lo hi = ⟨(cut z.cps.toList lo hi).toArray⟩ := by
  unfold cutS cut
  rw [slI_eq, slI_eq, show z.length = z.cps.toList.length by simp [PySem.Str.length]]
theorem cut_whole {α : Type} {l : List α} {lo hi : Option Int} (h1 : slI l.length 0 lo = 0) (h2 : slI l.length l.length hi = l.length) : cut l lo hi = l := by
  unfold cut
  rw [h1, h2]
  simp
theorem de_sl {lo hi : Option Expr} {p2 : Pos} {Φl Φh : List SL → List D → RE (Option Int)} (hK : X.K = T.K) (hx : DR T Wx X x ΦR) (hl : DO T Wx X lo Φl) (hh : DO T Wx X hi Φh) :
    DP T Wx X (.Subscript x (.Slice lo hi none p2) pos) (fun a hh => (ΦR a hh).bind fun r h1 => (Φl a h1).bind fun l h2 => (Φh a h2).bind fun u h3 => RE.lift ((look a h3 r).bind fun d => opSl d l u) h3) := by
  refine pe_imp (pe_slice (sl_list.or (sl_tupA.or sl_str)) hx hl hh) fun σ H Q ⟨w, a, e, RH, RS, p⟩ => ⟨w, a, e, RH, RS, ?_⟩
  refine (p.bind (Rel := rHd T a σ)).imp fun v H1 ⟨w1, d, le, eH, RH1, RS1, f1, q⟩ => ⟨w1, a, eH, RH1, RS1, ?_⟩
  refine (q.bind (Rel := fun _ (b : Option Int) (c : Option Int) => b = c)).imp fun l H2 ⟨w2, s, le2, eH2, RH2, RS2, f2, q2⟩ => ⟨w2, a, eH2, RH2, RS2, ?_⟩
  cases f2
  refine (q2.bind (Rel := fun _ (b : Option Int) (c : Option Int) => b = c)).imp fun u H3 ⟨w3, s, le3, eH3, RH3, RS3, f3, q3⟩ => ?_
  cases f3
  rw [← eH3]
  obtain ⟨z, hz0, q4⟩ := Post.lift q3
  obtain ⟨d1, h1, hz⟩ := Option.bind_eq_some_iff.mp hz0
  have vw := look_ok RH3 RS3 (Hd.mono le3 (Hd.mono le2 f1)) h1
  unfold rSlL rSlA rSlS
  rw [hK]
  unfold opSl at hz
  split at hz
  · cases hz
    obtain ⟨b, xs, rfl, e1, f4⟩ := vw.lst RH3
    exact .inl ⟨b, xs, rfl, .of e1, fun p hp => q4.lst RH3 RS3 hp (fzl_cut f4 _ _)⟩
  · cases hz
    obtain ⟨b, xs, rfl, e1, f4⟩ := vw.tup
    refine .inr (.inl ⟨b, xs, rfl, sqT_mono RH3.sub e1, fun hw => ?_, fun _ p hp => q4.tup RH3 RS3 hp (fzl_cut f4 _ _)⟩)
    rw [← slI_eq, ← slI_eq, f4.1] at hw
    rw [cut_whole hw.1 hw.2] at q4
    exact q4.valP RH3 RS3 (.tup e1 f4.1 f4.2)
  · split at hz
    · rename_i hs
      cases hz
      cases vw.str
      refine .inr (.inr ⟨_, rfl, szOk_le hs, ?_⟩)
      rw [cutS_eq]
      exact q4.valP RH3 RS3 (.str _)
    · cases hz
  · cases hz
theorem de_rev {k : Nat} {p1 p2 p3 : Pos} (hK : X.K = T.K) (hx : DR T Wx X x ΦR) :
    DP T Wx X (.Subscript x (.Slice none none (some (.UnaryOp .USub (.Constant (.int 1) k p1) p2)) p3) pos) (fun a hh => (ΦR a hh).bind fun r h1 => RE.lift ((look a h1 r).bind opRev) h1) := by
  refine pe_imp (pe_revL hx) fun σ H Q ⟨w, a, e, RH, RS, p⟩ => ⟨w, a, e, RH, RS, ?_⟩
  refine (p.bind (Rel := rHd T a σ)).imp fun v H1 ⟨w1, d, le, eH, RH1, RS1, f1, q⟩ => ?_
  rw [← eH]
  obtain ⟨z, hz0, q2⟩ := Post.lift q
  obtain ⟨d1, h1, hz⟩ := Option.bind_eq_some_iff.mp hz0
  have vw := look_ok RH1 RS1 f1 h1
  unfold opRev at hz
  split at hz
  · cases hz
    obtain ⟨b, xs, rfl, e1, f4⟩ := vw.lst RH1
    refine ⟨b, xs, rfl, by rw [hK]; exact .of e1, fun p hp => q2.lst RH1 RS1 hp ⟨(by rw [List.length_reverse, List.length_reverse]; exact f4.1), fun i x d e1 e2 => ?_⟩⟩
    have hi : i < xs.length := by simpa using (List.getElem?_eq_some_iff.mp e1).1
    rw [List.getElem?_reverse hi] at e1
    rw [List.getElem?_reverse (by rw [← f4.1]; exact hi), ← f4.1] at e2
    exact f4.2 _ x d e1 e2
  · cases hz
/-! ### fields -/
theorem zip_lookup {names : List PySem.Str} : ∀ {xs : List V} {j : Nat} {f : PySem.Str} {v : V}, names.Nodup → names[j]? = some f → xs[j]? = some v → (names.zip xs).lookup f = some v := by
  induction names with
  | nil => intro xs j f v _ h; simp at h
  | cons n r ih =>
    intro xs j f v nd h1 h2
    cases xs with
    | nil => simp at h2
    | cons y ys =>
      rw [List.nodup_cons] at nd
      cases j with
      | zero =>
        simp at h1 h2
        subst h1 h2
        simp [List.zip_cons_cons, List.lookup]
      | succ j =>
        have h1' : r[j]? = some f := by simpa using h1
        have hne : f ≠ n := fun z => nd.1 (by rw [← z]; exact List.mem_of_getElem? h1')
        rw [List.zip_cons_cons, List.lookup, show (f == n) = false by simpa using hne]
        exact ih nd.2 h1' (by simpa using h2)
theorem zip_lookup_none {names : List PySem.Str} : ∀ {xs : List V} {f : PySem.Str}, f ∉ names → (names.zip xs).lookup f = none := by
  induction names with
  | nil => intro xs f _; rfl
  | cons n r ih =>
    intro xs f h
    cases xs with
    | nil => rfl
    | cons y ys =>
      rw [List.mem_cons, not_or] at h
      rw [List.zip_cons_cons, List.lookup, show (f == n) = false by simpa using h.1]
      exact ih h.2
/-- what is to be known of a field's name -/
structure FldOk (T : Tb) (g : G) (f : Nat) (nm : PySem.Str) : Prop where
  ok : ∀ c j, g.fld c f = some j → Cls T.K (T.cls c) ∧ NoAttr T.K (T.cls c) nm ∧ (T.flds c)[j]? = some nm ∧ (T.flds c).Nodup
theorem de_fld {g : G} {f : Nat} {nm : PySem.Str} (hK : X.K = T.K) (hf : FldOk T g f nm) (hx : DR T Wx X x ΦR) (hs : supE x = true) :
    DE T Wx X (.Attribute x nm pos) (fun a hh => (ΦR a hh).bind fun r h1 => match look a h1 r with
      | some (.ins c vs) => RE.lift ((g.fld c f).bind fun j => vs[j]?) h1
      | _ => .bad) := by
  refine pe_imp (pe_fld hx (attr_sup hs nm)) fun σ H Q ⟨w, a, e, RH, RS, p⟩ => ⟨w, a, e, RH, RS, ?_⟩
  refine (p.bind (Rel := rHd T a σ)).imp fun v H1 ⟨w1, d, le, eH, RH1, RS1, f1, q⟩ => ?_
  rw [← eH]
  dsimp only at q
  split at q
  · rename_i c vs hl
    have vw := look_ok RH1 RS1 f1 hl
    obtain ⟨z, hz, q⟩ := Post.lift q
    obtain ⟨j, h1, h2⟩ := Option.bind_eq_some_iff.mp hz
    obtain ⟨k1, k2, k3, k4⟩ := hf.ok c j h1
    obtain ⟨b, dx, xs, rfl, e1, e2, f4⟩ := vw.ins RH1
    obtain ⟨v', e3, f5⟩ := f4.at h2
    rw [← hK] at k1 k2
    exact ⟨b, T.cls c, dx, _, v', rfl, e1, k1, k2, zip_lookup k4 k3 e3, q.val RH1 RS1 f5⟩
  · exact q.elim
/-! ### built-ins by values -/
def VwL (T : Tb) (w : Wo) (vs : List V) (ds : List D) : Prop := vs.length = ds.length ∧ ∀ (i : Nat) v d, vs[i]? = some v → ds[i]? = some d → Vw T w v d
theorem looks_ok {a : List SL} {σ : Ev.St} {w : Wo} (RH : RepH T w) (RS : RepS T w a σ) : ∀ {vs : List V} {rs : List RV} {ds : List D}, HdL T a σ w vs rs → looks a w.hh rs = some ds → VwL T w vs ds
  | vs, [], ds, h, e => by
    cases e
    have : vs = [] := List.length_eq_zero_iff.mp h.1
    subst this
    exact ⟨rfl, fun i v d e => by simp at e⟩
  | [], r :: rs, ds, h, e => absurd h.1 (by simp)
  | v :: vs, r :: rs, ds, h, e => by
    unfold looks at e
    obtain ⟨d, h1, e⟩ := Option.bind_eq_some_iff.mp e
    obtain ⟨l, h2, e⟩ := Option.bind_eq_some_iff.mp e
    cases e
    have ih := looks_ok RH RS (vs := vs) (rs := rs) ⟨by simpa using h.1, fun i y r e1 e2 => h.2 (i + 1) y r (by simpa using e1) (by simpa using e2)⟩ h2
    refine ⟨by simp [ih.1], fun i y z e1 e2 => ?_⟩
    cases i with
    | zero => simp at e1 e2; subst e1 e2; exact look_ok RH RS (h.2 0 v r rfl rfl) h1
    | succ i => exact ih.2 i y z (by simpa using e1) (by simpa using e2)
theorem VwL.one {w : Wo} {vs : List V} {d : D} (h : VwL T w vs [d]) : ∃ v, vs = [v] ∧ Vw T w v d := by
  obtain ⟨v, rfl⟩ := List.length_eq_one_iff.mp h.1
  exact ⟨v, rfl, h.2 0 v d rfl rfl⟩
theorem VwL.two {w : Wo} {vs : List V} {d e : D} (h : VwL T w vs [d, e]) : ∃ v u, vs = [v, u] ∧ Vw T w v d ∧ Vw T w u e := by
  obtain ⟨v, u, rfl⟩ : ∃ v u, vs = [v, u] := by
    match vs, h.1 with
    | [v, u], _ => exact ⟨v, u, rfl⟩
  exact ⟨v, u, rfl, h.2 0 v d rfl rfl, h.2 1 u e rfl rfl⟩
/-- a built-in's rule for data -/
def BiR (T : Tb) (Wx : WX) (X : Cx) (f : Value) (b : Bi) : Prop := ∃ r : List V → Hp → VK → Prop, CallR X f r ∧
  ∀ (w : Wo) (a : List SL) (σ : Ev.St) (vs : List V) (ds : List D) (z : D) (Q : VK), RepH T w → RepS T w a σ → VwL T w vs ds → opBi b ds = some z → Post T Wx a σ w (rP T a σ) Q (.ok z w.hh) → r vs w.H Q
theorem de_biG {f : Value} {b : Bi} (hb : BiR T Wx X f b) {ee : Expr} (hp : ∀ {r : List V → Hp → VK → Prop} {t : TA}, CallR X f r → PA X es t → PE X ee (tCB r t)) (h : DAR T Wx X es Φrs) :
    DP T Wx X ee (fun a hh => (Φrs a hh).bind fun l h1 => RE.lift ((looks a h1 l).bind (opBi b)) h1) := by
  obtain ⟨r, hr, hv⟩ := hb
  refine pe_imp (hp hr h) fun σ H Q ⟨w, a, e, RH, RS, p⟩ => ⟨w, a, e, RH, RS, ?_⟩
  refine (p.bind (Rel := rHdL T a σ)).imp fun v H1 ⟨w1, d, le, eH, RH1, RS1, f1, q⟩ => ?_
  rw [← eH]
  obtain ⟨z, hz, q⟩ := Post.lift q
  obtain ⟨ds, h1, h2⟩ := Option.bind_eq_some_iff.mp hz
  exact hv w1 a σ v ds z Q RH1 RS1 (looks_ok RH1 RS1 f1 h1) h2 q
theorem intsD_of : ∀ {l : List D} {ns : List Int}, intsD l = some ns → l = ns.map .int
  | [], ns, h => by cases h; rfl
  | .int i :: r, ns, h => by
    obtain ⟨ms, h1, rfl⟩ := Option.map_eq_some_iff.mp (show (intsD r).map (i :: ·) = some ns from h)
    rw [intsD_of h1]; rfl
  | .non :: r, ns, h => nomatch (show (none : Option (List Int)) = some ns from h)
  | .bl _ :: r, ns, h => nomatch (show (none : Option (List Int)) = some ns from h)
  | .str _ :: r, ns, h => nomatch (show (none : Option (List Int)) = some ns from h)
  | .tup _ :: r, ns, h => nomatch (show (none : Option (List Int)) = some ns from h)
  | .lst _ :: r, ns, h => nomatch (show (none : Option (List Int)) = some ns from h)
  | .zst _ :: r, ns, h => nomatch (show (none : Option (List Int)) = some ns from h)
  | .dct _ _ :: r, ns, h => nomatch (show (none : Option (List Int)) = some ns from h)
  | .ins _ _ :: r, ns, h => nomatch (show (none : Option (List Int)) = some ns from h)
  | .loc _ :: r, ns, h => nomatch (show (none : Option (List Int)) = some ns from h)
  | .fn _ :: r, ns, h => nomatch (show (none : Option (List Int)) = some ns from h)
theorem boolsD_of : ∀ {l : List D} {ns : List Bool}, boolsD l = some ns → l = ns.map .bl
  | [], ns, h => by cases h; rfl
  | .bl i :: r, ns, h => by
    obtain ⟨ms, h1, rfl⟩ := Option.map_eq_some_iff.mp (show (boolsD r).map (i :: ·) = some ns from h)
    rw [boolsD_of h1]; rfl
  | .non :: r, ns, h => nomatch (show (none : Option (List Bool)) = some ns from h)
  | .int _ :: r, ns, h => nomatch (show (none : Option (List Bool)) = some ns from h)
  | .str _ :: r, ns, h => nomatch (show (none : Option (List Bool)) = some ns from h)
  | .tup _ :: r, ns, h => nomatch (show (none : Option (List Bool)) = some ns from h)
  | .lst _ :: r, ns, h => nomatch (show (none : Option (List Bool)) = some ns from h)
  | .zst _ :: r, ns, h => nomatch (show (none : Option (List Bool)) = some ns from h)
  | .dct _ _ :: r, ns, h => nomatch (show (none : Option (List Bool)) = some ns from h)
  | .ins _ _ :: r, ns, h => nomatch (show (none : Option (List Bool)) = some ns from h)
  | .loc _ :: r, ns, h => nomatch (show (none : Option (List Bool)) = some ns from h)
  | .fn _ :: r, ns, h => nomatch (show (none : Option (List Bool)) = some ns from h)
theorem fzl_ints {m : List Addr} {F : Hp} : ∀ {ns : List Int} {xs : List V}, FzL T m F xs (ns.map .int) → xs = ns.map V.int
  | [], xs, h => h.unnil
  | i :: r, xs, h => by
    obtain ⟨x, ys, rfl, h1, h2⟩ := h.uncons
    cases h1
    rw [fzl_ints h2]; rfl
theorem fzl_bools {m : List Addr} {F : Hp} : ∀ {ns : List Bool} {xs : List V}, FzL T m F xs (ns.map .bl) → xs = ns.map V.bl
  | [], xs, h => h.unnil
  | i :: r, xs, h => by
    obtain ⟨x, ys, rfl, h1, h2⟩ := h.uncons
    cases h1
    rw [fzl_bools h2]; rfl
theorem foldMax_ge : ∀ (l : List Int) (i : Int), i ≤ l.foldl max i ∧ ∀ y ∈ l, y ≤ l.foldl max i
  | [], i => ⟨Int.le_refl _, fun y h => by cases h⟩
  | k :: r, i => by
    obtain ⟨h1, h2⟩ := foldMax_ge r (max i k)
    rw [List.foldl_cons]
    refine ⟨Int.le_trans (Int.le_max_left _ _) h1, fun y hy => ?_⟩
    rcases List.mem_cons.mp hy with rfl | hy
    · exact Int.le_trans (Int.le_max_right _ _) h1
    · exact h2 y hy
theorem foldMax_mem : ∀ (l : List Int) (i : Int), l.foldl max i ∈ i :: l
  | [], i => by simp
  | k :: r, i => by
    rw [List.foldl_cons]
    have h := foldMax_mem r (max i k)
    rcases List.mem_cons.mp h with h | h
    · rw [h]
      rcases Int.le_total i k with z | z
      · rw [Int.max_eq_right z]; simp
      · rw [Int.max_eq_left z]; simp
    · exact List.mem_cons_of_mem _ (List.mem_cons_of_mem _ h)
theorem foldMin_le : ∀ (l : List Int) (i : Int), l.foldl min i ≤ i ∧ ∀ y ∈ l, l.foldl min i ≤ y
  | [], i => ⟨Int.le_refl _, fun y h => by cases h⟩
  | k :: r, i => by
    obtain ⟨h1, h2⟩ := foldMin_le r (min i k)
    rw [List.foldl_cons]
    refine ⟨Int.le_trans h1 (Int.min_le_left _ _), fun y hy => ?_⟩
    rcases List.mem_cons.mp hy with rfl | hy
    · exact Int.le_trans h1 (Int.min_le_right _ _)
    · exact h2 y hy
theorem foldMin_mem : ∀ (l : List Int) (i : Int), l.foldl min i ∈ i :: l
  | [], i => by simp
  | k :: r, i => by
    rw [List.foldl_cons]
    have h := foldMin_mem r (min i k)
    rcases List.mem_cons.mp h with h | h
    · rw [h]
      rcases Int.le_total i k with z | z
      · rw [Int.min_eq_left z]; simp
      · rw [Int.min_eq_right z]; simp
    · exact List.mem_cons_of_mem _ (List.mem_cons_of_mem _ h)
theorem maxI_eq {ns : List Int} {m k : Int} (h : maxI ns = some k) (hm : m ∈ ns) (hle : ∀ y, y ∈ ns → y ≤ m) : m = k := by
  cases ns with
  | nil => cases h
  | cons i r =>
    cases (show some (r.foldl max i) = some k from h)
    have h1 := hle _ (foldMax_mem r i)
    obtain ⟨h2, h3⟩ := foldMax_ge r i
    rcases List.mem_cons.mp hm with rfl | hm
    · omega
    · have := h3 m hm; omega
theorem minI_eq {ns : List Int} {m k : Int} (h : minI ns = some k) (hm : m ∈ ns) (hle : ∀ y, y ∈ ns → m ≤ y) : m = k := by
  cases ns with
  | nil => cases h
  | cons i r =>
    cases (show some (r.foldl min i) = some k from h)
    have h1 := hle _ (foldMin_mem r i)
    obtain ⟨h2, h3⟩ := foldMin_le r i
    rcases List.mem_cons.mp hm with rfl | hm
    · omega
    · have := h3 m hm; omega
theorem opBi_len {ds : List D} {z : D} (h : opBi .len ds = some z) : (∃ l, ds = [.lst l] ∧ z = .int l.length) ∨ (∃ l, ds = [.tup l] ∧ z = .int l.length) ∨ (∃ l, ds = [.zst l] ∧ z = .int l.length) ∨ (∃ ks vs, ds = [.dct ks vs] ∧ z = .int ks.length) ∨ ∃ x, ds = [.str x] ∧ szOk x.length = true ∧ z = .int x.length := by
  unfold opBi at h
  split at h <;> first | contradiction | skip
  · cases h; exact .inl ⟨_, rfl, rfl⟩
  · cases h; exact .inr (.inl ⟨_, rfl, rfl⟩)
  · cases h; exact .inr (.inr (.inl ⟨_, rfl, rfl⟩))
  · cases h; exact .inr (.inr (.inr (.inl ⟨_, _, rfl, rfl⟩)))
  · split at h
    · rename_i k; cases h; exact .inr (.inr (.inr (.inr ⟨_, rfl, k, rfl⟩)))
    · cases h
theorem bi_len (hK : X.K = T.K) : BiR T Wx X (.builtin "len") .len := by
  refine ⟨_, call_len_seq.or call_len_str, fun w a σ vs ds z Q RH RS vw h p => ?_⟩
  rw [hK]
  rcases opBi_len h with ⟨l, rfl, rfl⟩ | ⟨l, rfl, rfl⟩ | ⟨l, rfl, rfl⟩ | ⟨ks, us, rfl, rfl⟩ | ⟨x, rfl, hs, rfl⟩
  · obtain ⟨v, rfl, vx⟩ := vw.one
    obtain ⟨b, xs, rfl, e1, f⟩ := vx.lst RH
    exact .inl ⟨b, xs, rfl, .inl (.of e1), by rw [f.1]; exact p.valP RH RS (.int _)⟩
  · obtain ⟨v, rfl, vx⟩ := vw.one
    obtain ⟨b, xs, rfl, e1, f⟩ := vx.sqT RH
    exact .inl ⟨b, xs, rfl, .inr e1, by rw [f.1]; exact p.valP RH RS (.int _)⟩
  · obtain ⟨v, rfl, vx⟩ := vw.one
    obtain ⟨b, xs, rfl, e1, f⟩ := vx.zst RH
    exact .inl ⟨b, xs, rfl, .inl e1, by rw [f.1]; exact p.valP RH RS (.int _)⟩
  · obtain ⟨v, rfl, vx⟩ := vw.one
    rcases vx with vx | ⟨_, _, vx⟩
    · cases vx
    · exact vx.elim
  · obtain ⟨v, rfl, vx⟩ := vw.one
    cases vx.str
    exact .inr ⟨_, rfl, szOk_le hs, p.valP RH RS (.int _)⟩
theorem bi_tuple (hK : X.K = T.K) : BiR T Wx X (.type "tuple") .tuple := by
  refine ⟨_, call_tuple_of, fun w a σ vs ds z Q RH RS vw h p => ?_⟩
  rw [hK]
  unfold opBi at h
  split at h <;> first | contradiction | skip
  · cases h
    obtain ⟨v, rfl, vx⟩ := vw.one
    obtain ⟨b, xs, rfl, e1, f⟩ := vx.lst RH
    exact ⟨b, xs, rfl, .inl ⟨.of e1, fun q hq => p.tup RH RS hq f⟩⟩
  · cases h
    obtain ⟨v, rfl, vx⟩ := vw.one
    obtain ⟨b, xs, rfl, e1, f⟩ := vx.tup
    exact ⟨b, xs, rfl, .inr ⟨sqT_mono RH.sub e1, p.valP RH RS (.tup e1 f.1 f.2)⟩⟩
theorem bi_list (hK : X.K = T.K) : BiR T Wx X (.type "list") .list := by
  refine ⟨_, call_list_of, fun w a σ vs ds z Q RH RS vw h p => ?_⟩
  rw [hK]
  unfold opBi at h
  split at h <;> first | contradiction | skip
  · cases h
    obtain ⟨v, rfl, vx⟩ := vw.one
    obtain ⟨b, xs, rfl, e1, f⟩ := vx.lst RH
    exact ⟨b, xs, rfl, .inl (.of e1), fun q hq => p.lst RH RS hq f⟩
  · cases h
    obtain ⟨v, rfl, vx⟩ := vw.one
    obtain ⟨b, xs, rfl, e1, f⟩ := vx.sqT RH
    exact ⟨b, xs, rfl, .inr e1, fun q hq => p.lst RH RS hq f⟩
  · cases h
    obtain ⟨v, rfl, vx⟩ := vw.one
    rcases vx with vx | ⟨_, _, vx⟩
    · cases vx
    · exact vx.elim
theorem bi_max1 (hK : X.K = T.K) (hc : X.calm = true) : BiR T Wx X (.builtin "max") .max1 := by
  refine ⟨_, cr_max hc, fun w a σ vs ds z Q RH RS vw h p => ?_⟩
  rw [hK]
  unfold opBi at h
  split at h <;> first | contradiction | skip
  obtain ⟨k, h1, rfl⟩ := Option.map_eq_some_iff.mp h
  obtain ⟨ns, h2, h3⟩ := Option.bind_eq_some_iff.mp h1
  have e := intsD_of h2
  subst e
  obtain ⟨v, rfl, vx⟩ := vw.one
  obtain ⟨b, xs, rfl, e1, f⟩ := vx.lst RH
  have e := fzl_ints f
  subst e
  refine ⟨b, ns, rfl, .of e1, ?_, fun m hm hle => ?_⟩
  · cases ns with
    | nil => cases h3
    | cons i r => simp
  · rw [maxI_eq h3 hm hle]; exact p.valP RH RS (.int _)
theorem bi_min1 (hK : X.K = T.K) (hc : X.calm = true) : BiR T Wx X (.builtin "min") .min1 := by
  refine ⟨_, cr_min hc, fun w a σ vs ds z Q RH RS vw h p => ?_⟩
  rw [hK]
  unfold opBi at h
  split at h <;> first | contradiction | skip
  obtain ⟨k, h1, rfl⟩ := Option.map_eq_some_iff.mp h
  obtain ⟨ns, h2, h3⟩ := Option.bind_eq_some_iff.mp h1
  have e := intsD_of h2
  subst e
  obtain ⟨v, rfl, vx⟩ := vw.one
  obtain ⟨b, xs, rfl, e1, f⟩ := vx.lst RH
  have e := fzl_ints f
  subst e
  refine ⟨b, ns, rfl, .of e1, ?_, fun m hm hle => ?_⟩
  · cases ns with
    | nil => cases h3
    | cons i r => simp
  · rw [minI_eq h3 hm hle]; exact p.valP RH RS (.int _)
theorem bi_max2 (hc : X.calm = true) : BiR T Wx X (.builtin "max") .max2 := by
  refine ⟨_, call_max2 hc, fun w a σ vs ds z Q RH RS vw h p => ?_⟩
  unfold opBi at h
  split at h <;> first | contradiction | skip
  cases h
  obtain ⟨v, u, rfl, v1, v2⟩ := vw.two
  cases v1.int; cases v2.int
  exact ⟨_, _, rfl, p.valP RH RS (.int _)⟩
theorem bi_min2 (hc : X.calm = true) : BiR T Wx X (.builtin "min") .min2 := by
  refine ⟨_, call_min2 hc, fun w a σ vs ds z Q RH RS vw h p => ?_⟩
  unfold opBi at h
  split at h <;> first | contradiction | skip
  cases h
  obtain ⟨v, u, rfl, v1, v2⟩ := vw.two
  cases v1.int; cases v2.int
  exact ⟨_, _, rfl, p.valP RH RS (.int _)⟩
theorem bi_abs : BiR T Wx X (.builtin "abs") .abs := by
  refine ⟨_, call_abs, fun w a σ vs ds z Q RH RS vw h p => ?_⟩
  unfold opBi at h
  split at h <;> first | contradiction | skip
  cases h
  obtain ⟨v, rfl, v1⟩ := vw.one
  cases v1.int
  exact ⟨_, rfl, p.valP RH RS (.int _)⟩
theorem bi_int : BiR T Wx X (.type "int") .int := by
  refine ⟨_, call_int1, fun w a σ vs ds z Q RH RS vw h p => ?_⟩
  unfold opBi at h
  split at h <;> first | contradiction | skip
  · cases h
    obtain ⟨v, rfl, v1⟩ := vw.one
    cases v1.int
    exact .inl ⟨_, rfl, p.valP RH RS (.int _)⟩
  · cases h
    obtain ⟨v, rfl, v1⟩ := vw.one
    cases v1.bl
    exact .inr ⟨_, rfl, p.valP RH RS (.int _)⟩
theorem bi_all (hK : X.K = T.K) (hc : X.calm = true) : BiR T Wx X (.builtin "all") .all := by
  refine ⟨_, cr_all hc, fun w a σ vs ds z Q RH RS vw h p => ?_⟩
  rw [hK]
  unfold opBi at h
  split at h <;> first | contradiction | skip
  obtain ⟨bs, h1, rfl⟩ := Option.map_eq_some_iff.mp h
  have e := boolsD_of h1
  subst e
  obtain ⟨v, rfl, vx⟩ := vw.one
  obtain ⟨b, xs, rfl, e1, f⟩ := vx.lst RH
  have e := fzl_bools f
  subst e
  exact ⟨b, bs, rfl, .of e1, p.valP RH RS (.bl _)⟩
theorem bi_any (hK : X.K = T.K) (hc : X.calm = true) : BiR T Wx X (.builtin "any") .any := by
  refine ⟨_, cr_any hc, fun w a σ vs ds z Q RH RS vw h p => ?_⟩
  rw [hK]
  unfold opBi at h
  split at h <;> first | contradiction | skip
  obtain ⟨bs, h1, rfl⟩ := Option.map_eq_some_iff.mp h
  have e := boolsD_of h1
  subst e
  obtain ⟨v, rfl, vx⟩ := vw.one
  obtain ⟨b, xs, rfl, e1, f⟩ := vx.lst RH
  have e := fzl_bools f
  subst e
  exact ⟨b, bs, rfl, .of e1, p.valP RH RS (.bl _)⟩
end
end Ev
end
section
set_option Elab.async false
set_option linter.all false
set_option maxRecDepth 100000
set_option maxHeartbeats 2000000
/-! Ev, part G: targets, what is walked, comprehensions. -/
namespace Ev
open PySem PySem.Spec PyProof.Rows L2
abbrev TG := L2.TG
section
variable {T : Tb} {Wx : WX} {X : Cx} {a a' : List SL} {σ σ' : Ev.St} {w : Wo}
/-- the slots that are neither held nor lent may change; those that are stay -/
def SameAt (js : List Nat) (σ σ' : Ev.St) : Prop := σ'.length = σ.length ∧ ∀ j, j ∉ js → σ'[j]? = σ[j]?
theorem RepS.set {i : Nat} {d : D} {v : V} (RS : RepS T w a σ) (f : Fz T w.m w.F v d) : RepS T w (a.set i (.pu d)) (σ.set i (some v)) := by
  refine ⟨by simp [RS.ln], fun j s e => ?_, fun j k x y p e1 e2 e3 e4 => ?_, fun y x e1 e2 => ?_⟩
  · rw [List.getElem?_set] at e ⊢
    split at e
    · rename_i h
      subst h
      split at e
      · rename_i hl
        cases e
        rw [if_pos rfl, if_pos (by rw [← RS.ln]; exact hl)]
        exact ⟨v, rfl, f⟩
      · cases e
    · rename_i h
      rw [if_neg h]
      exact RS.sl j s e
  · rw [List.getElem?_set] at e1 e2 e3 e4
    have n1 : ¬ i = j := fun z => by
      rw [if_pos z] at e1
      split at e1 <;> cases e1
    have n2 : ¬ i = k := fun z => by
      rw [if_pos z] at e2
      split at e2 <;> cases e2
    rw [if_neg n1] at e1 e3
    rw [if_neg n2] at e2 e4
    exact RS.oo j k x y p e1 e2 e3 e4
  · rw [List.getElem?_set] at e2 ⊢
    split at e2
    · split at e2 <;> cases e2
    · rename_i h
      rw [if_neg h]
      exact RS.me y x e1 e2
theorem RepS.forget {i : Nat} {o : Option V} (RS : RepS T w a σ) : RepS T w (a.set i .no) (σ.set i o) := by
  refine ⟨by simp [RS.ln], fun j s e => ?_, fun j k x y p e1 e2 e3 e4 => ?_, fun y x e1 e2 => ?_⟩
  · rw [List.getElem?_set] at e ⊢
    split at e
    · split at e
      · cases e; trivial
      · cases e
    · rename_i h
      rw [if_neg h]
      exact RS.sl j s e
  · rw [List.getElem?_set] at e1 e2 e3 e4
    have n1 : ¬ i = j := fun z => by
      rw [if_pos z] at e1
      split at e1 <;> cases e1
    have n2 : ¬ i = k := fun z => by
      rw [if_pos z] at e2
      split at e2 <;> cases e2
    rw [if_neg n1] at e1 e3
    rw [if_neg n2] at e2 e4
    exact RS.oo j k x y p e1 e2 e3 e4
  · rw [List.getElem?_set] at e2 ⊢
    split at e2
    · split at e2 <;> cases e2
    · rename_i h
      rw [if_neg h]
      exact RS.me y x e1 e2
theorem RepS.wipe (RS : RepS T w a σ) : ∀ own : List Nat, RepS T w (wipeS a own) (L2.wipe σ own)
  | [] => RS
  | j :: r => (RepS.wipe RS r).forget
/-! ### targets -/
def tgs : Tg → List Nat
  | .name i => [i]
  | .nil => []
  | .cons t r => tgs t ++ tgs r
/-- a target as a reading -/
def tGt (T : Tb) (t : Tg) : L2.TG := fun v σ H Q => ∃ w a d a1, w.H = H ∧ RepH T w ∧ RepS T w a σ ∧ Fz T w.m w.F v d ∧ asgTg t d a = some a1 ∧
  ∀ σ1, RepS T w a1 σ1 → SameAt (tgs t) σ σ1 → Q σ1 H
def tGts (T : Tb) (t : Tg) : TGs := fun vs σ H Q => ∃ w a ds a1, w.H = H ∧ RepH T w ∧ RepS T w a σ ∧ FzL T w.m w.F vs ds ∧ asgTgs t ds a = some a1 ∧
  ∀ σ1, RepS T w a1 σ1 → SameAt (tgs t) σ σ1 → Q σ1 H
theorem pg_imp {X : Cx} {e : Expr} {t t' : L2.TG} (h : PG X e t) (k : ∀ v σ H Q, t' v σ H Q → t v σ H Q) : PG X e t' := ⟨fun pins s σ H v u Q I r q => h.run pins s σ H v u Q I r (k v σ H Q q)⟩
theorem pgs_imp {X : Cx} {e : List Expr} {t t' : TGs} (h : PGs X e t) (k : ∀ v σ H Q, t' v σ H Q → t v σ H Q) : PGs X e t' := ⟨fun pins s σ H v u Q I r q => h.run pins s σ H v u Q I r (k v σ H Q q)⟩
theorem same_set {i : Nat} {o : Option V} : SameAt [i] σ (σ.set i o) := ⟨by simp, fun j hj => by rw [List.getElem?_set_ne (fun z => hj (by simp [z]))]⟩
theorem SameAt.trans {js ks : List Nat} {σ1 σ2 σ3 : Ev.St} (h : SameAt js σ1 σ2) (k : SameAt ks σ2 σ3) : SameAt (js ++ ks) σ1 σ3 :=
  ⟨k.1.trans h.1, fun j hj => by
    rw [List.mem_append, not_or] at hj
    rw [k.2 j hj.2, h.2 j hj.1]⟩
theorem dg_name {i : Nat} {x : PySem.Str} {pos : Pos} (hN : X.N.Nodup) (hi : X.N[i]? = some x) (hx : Loc X.env.scope x) (hf : X.fn x = true ∨ X.env.scope.names.lookup x = some .local) : PG X (.Name x pos) (tGt T (.name i)) := by
  refine pg_imp (pg_name hN hi hx hf) fun v σ H Q ⟨w, a, d, a1, e, RH, RS, f, h, q⟩ => ?_
  rw [asgTg] at h
  cases h
  exact q _ (RS.set f) same_set
/-- assigned one after another -/
def evEach (X : Cx) (es : List Expr) : Prop := (assignEach es X.env).length = es.length ∧ (assignEach es X.env).findIdx? (·.1) = none
theorem dgs_nil : PGs X [] (tGts T .nil) := by
  refine pgs_imp pgs_nil fun v σ H Q ⟨w, a, ds, a1, e, RH, RS, f, h, q⟩ => ?_
  cases ds with
  | nil =>
    rw [asgTgs] at h
    cases h
    exact ⟨f.unnil, q σ RS ⟨rfl, fun _ _ => rfl⟩⟩
  | cons d r => simp [asgTgs] at h
theorem dgs_cons {x : Expr} {es : List Expr} {t r : Tg} (h1 : PG X x (tGt T t)) (h2 : PGs X es (tGts T r)) (hs : (assignEach (x :: es) X.env).map (·.2) = assign x X.env :: (assignEach es X.env).map (·.2)) : PGs X (x :: es) (tGts T (.cons t r)) := by
  refine pgs_imp (pgs_cons h1 h2 hs) fun v σ H Q ⟨w, a, ds, a1, e, RH, RS, f, h, q⟩ => ?_
  cases ds with
  | nil => simp [asgTgs] at h
  | cons d ds =>
    obtain ⟨x, xs, rfl, f1, f2⟩ := f.uncons
    rw [asgTgs] at h
    obtain ⟨a2, h3, h4⟩ := Option.bind_eq_some_iff.mp h
    refine ⟨x, xs, rfl, w, a, d, a2, e, RH, RS, f1, h3, fun σ1 RS1 sm => ⟨w, a2, ds, a1, e, RH, RS1, f2, h4, fun σ2 RS2 sm2 => ?_⟩⟩
    exact q σ2 RS2 (sm.trans sm2)
theorem asgTg_tup {t r : Tg} {d : D} {a a1 : List SL} (h : asgTg (.cons t r) d a = some a1) : ∃ l, d = .tup l ∧ asgTgs (.cons t r) l a = some a1 := by
  cases d with
  | tup l =>
    cases l with
    | nil => simp [asgTg] at h
    | cons x l => rw [asgTg] at h; exact ⟨_, rfl, by rw [asgTgs]; exact h⟩
  | _ => simp [asgTg] at h
theorem dg_tup {es : List Expr} {k : Nat} {t r : Tg} {pos : Pos} (hK : X.K = T.K) (hc : X.calm = true) (h : PGs X es (tGts T (.cons t r))) (hl : ∀ l a a1, asgTgs (.cons t r) l a = some a1 → l.length = es.length)
    (he : evEach X es) : PG X (.Tuple es k pos) (tGt T (.cons t r)) := by
  refine pg_imp (pg_tup (n := es.length) hc h he.1 he.2) fun v σ H Q ⟨w, a, d, a1, e, RH, RS, f, h, q⟩ => ?_
  obtain ⟨l, rfl, h'⟩ := asgTg_tup h
  cases f with
  | tup h1 h2 h3 =>
    refine ⟨_, _, rfl, by rw [hK, ← e]; exact sqT_mono RH.sub h1, by rw [h2]; exact hl _ _ _ h', w, a, l, a1, e, RH, RS, ⟨h2, h3⟩, h', q⟩
/-! ### what is walked -/
/-- what is asked of a source to stand still -/
def SrcOk (T : Tb) (w : Wo) (v : V) (r : RV) (d : D) : Prop := match r with
  | .val _ => True
  | .slot _ => Vw T w v d
structure Wo.sub (w w' : Wo) : Prop where
  f : ∀ p o, w.F p = some o → w'.F p = some o
  m : ∀ (n : Nat) (p : Addr), w.m[n]? = some p → w'.m[n]? = some p
  pr : ∀ p o, w.Pr p = some o → w'.Pr p = some o
theorem Wo.le.sub {w w' : Wo} (h : w.le w') : w.sub w' := ⟨h.f, h.m, fun p o e => by rw [h.pr]; exact e⟩
structure IterOk (T : Tb) (J : L2.It) (w : Wo) (ds : List D) (Gs : Wo → Prop) : Prop where
  go : ∀ w2 i, w.sub w2 → RepH T w2 → Gs w2 → i < ds.length → J.go i w2.H
  stop : ∀ w2, w.sub w2 → RepH T w2 → Gs w2 → J.stop ds.length w2.H
  yld : ∀ w2 i x H', w.sub w2 → RepH T w2 → Gs w2 → i < ds.length → J.yld i w2.H x H' →
    ∃ w3, w2.le w3 ∧ w3.H = H' ∧ w3.hh = w2.hh ∧ RepH T w3 ∧ (∀ a σ, RepS T w2 a σ → RepS T w3 a σ) ∧ ∃ d, ds[i]? = some d ∧ Fz T w3.m w3.F x d
/-- a source that is read at a value -/
theorem src_row {w w2 : Wo} {v : V} {r : RV} {d : D} {l : List D} (hf : (∃ d', r = .val d' ∧ d' = d) ∨ ∃ i, r = .slot i) (hF : ∀ d', r = .val d' → Fz T w.m w.F v d') (s : w.sub w2) (RH : RepH T w2) (g : SrcOk T w2 v r d) :
    Vw T w2 v d := by
  rcases hf with ⟨d', rfl, rfl⟩ | ⟨i, rfl⟩
  · exact .inl ((hF _ rfl).mono s.f s.m)
  · exact g
theorem lookF_cases {a : List SL} {r : RV} {d : D} (h : lookF a r = some d) : (∃ d', r = .val d' ∧ d' = d) ∨ ∃ i, r = .slot i := by
  cases r with
  | val d' =>
    left
    refine ⟨d', rfl, ?_⟩
    cases d' <;> first | exact Option.some.inj h | exact absurd h (by simp [lookF])
  | slot i => exact .inr ⟨i, rfl⟩
/-- slots that hold or lend, and stay -/
def Agree (a : List SL) (σ : Ev.St) (a2 : List SL) (σ2 : Ev.St) : Prop := ∀ (j : Nat), ((∃ d, a[j]? = some (.ow d)) ∨ ∃ d, a[j]? = some (.bo d)) → a2[j]? = a[j]? ∧ σ2[j]? = σ[j]?
theorem src_keep {w : Wo} {v : V} {r : RV} {d : D} (h : Hd T a σ w v r) (e : lookF a r = some d) {w2 : Wo} {a2 : List SL} {σ2 : Ev.St} (s : w.sub w2) (RH2 : RepH T w2) (RS2 : RepS T w2 a2 σ2) (ag : Agree a σ a2 σ2) : SrcOk T w2 v r d := by
  cases r with
  | val d' => trivial
  | slot i =>
    obtain ⟨e1, h1⟩ := h
    obtain ⟨k1, k2⟩ := ag i h1
    rcases h1 with ⟨d', h1⟩ | ⟨d', h1⟩
    · unfold lookF at e
      simp only [h1] at e
      cases e
      rw [h1] at k1
      obtain ⟨p, e3, _, _, _, e4⟩ := RS2.sl i _ k1
      rw [k2, e1] at e3
      cases e3
      exact .inr ⟨p, rfl, e4⟩
    · unfold lookF at e
      simp only [h1] at e
      cases e
      rw [h1] at k1
      obtain ⟨u, e3, e4⟩ := RS2.sl i _ k1
      rw [k2, e1] at e3
      cases e3
      rcases e4 with e4 | ⟨p, rfl, e4⟩
      · exact .inl e4
      · obtain ⟨o, ho⟩ := e4.there
        exact .inr ⟨p, rfl, e4.mono (fun _ _ z => z) (fun _ _ z => z) (by rw [ho]; exact RH2.pr _ _ ho)⟩
end
end Ev
end
section
set_option Elab.async false
set_option linter.all false
set_option maxRecDepth 100000
set_option maxHeartbeats 2000000
/-! Ev, part H: loops' sources, comprehensions, for. -/
namespace Ev
open PySem PySem.Spec PyProof.Rows L2
section
variable {T : Tb} {Wx : WX} {X : Cx} {x y z : Expr} {es : List Expr} {pos : Pos} {tg : Expr} {k : Bool} {Φ Ψ Θ : List SL → List D → RE D} {ΦR ΨR : List SL → List D → RE RV} {Φl : List SL → List D → RE (List D)} {ΦB : List SL → List D → RE Bool}
def ItRel (T : Tb) (k : Bool) (a : List SL) (σ : Ev.St) (w : Wo) (J : L2.It) (ds : List D) : Prop := ∃ Gs : Wo → Prop, IterOk T J w ds Gs ∧
  (∀ w2 a2 σ2, w.sub w2 → RepH T w2 → RepS T w2 a2 σ2 → Agree a σ a2 σ2 → Gs w2) ∧ (k = false → ∀ w2, w.sub w2 → RepH T w2 → Gs w2)
abbrev DI (T : Tb) (Wx : WX) (X : Cx) (k : Bool) (tg e : Expr) (Φ : List SL → List D → RE (List D)) : Prop := PI X tg e (tG T Wx (ItRel T k) Φ)
def Hdk (T : Tb) (k : Bool) (a : List SL) (σ : Ev.St) (w : Wo) (v : V) (r : RV) : Prop := Hd T a σ w v r ∧ (k = false → (∃ d, r = .val d) ∨ ∃ i d, r = .slot i ∧ a[i]? = some (.bo d))
abbrev DRk (T : Tb) (Wx : WX) (X : Cx) (k : Bool) (e : Expr) (Φ : List SL → List D → RE RV) : Prop := PE X e (tG T Wx (Hdk T k) Φ)
theorem pi_imp {X : Cx} {g e : Expr} {t t' : TI} (h : PI X g e t) (k : ∀ σ H Q, t' σ H Q → t σ H Q) : PI X g e t' := ⟨fun pins s σ H R I q => h.run pins s σ H R I (k σ H R q)⟩
theorem drk_true (h : DR T Wx X x ΦR) : DRk T Wx X true x ΦR := by
  refine pe_imp h fun σ H Q ⟨w, a, e, RH, RS, p⟩ => ⟨w, a, e, RH, RS, ?_⟩
  cases q : ΦR a w.hh with
  | ok d hh => rw [q] at p; exact fun v w' l e1 e2 e3 e4 => p v w' l e1 e2 e3 ⟨e4, fun z => nomatch z⟩
  | exc c ds hh => rw [q] at p; exact p
  | bad => rw [q] at p; exact p
theorem drk_false (h : DE T Wx X x Φ) : DRk T Wx X false x (fun a hh => (Φ a hh).bind fun d h1 => .ok (.val d) h1) := by
  refine pe_imp h fun σ H Q ⟨w, a, e, RH, RS, p⟩ => ⟨w, a, e, RH, RS, ?_⟩
  refine (p.bind (Rel := rF T a σ)).imp fun v H' ⟨w1, d, le, eH, RH1, RS1, f, q⟩ => ?_
  rw [← eH]
  exact q v w1 (Wo.le.refl _) rfl RH1 RS1 ⟨f, fun _ => .inl ⟨d, rfl⟩⟩
theorem drk_var {i : Nat} {z : PySem.Str} (hN : X.N[i]? = some z) (hv : Vis X.env.scope z) (hd : (z == ("__debug__" : PySem.Str)) = false) (hcd : (z == ("__classdict__" : PySem.Str)) = false) (r : RE D) :
    DRk T Wx X false (.Name z pos) (fun a hh => roK false a (.var i) r hh) := by
  refine pe_imp (pe_var hN hv hd hcd) fun σ H Q ⟨w, a, e, RH, RS, p⟩ => ?_
  unfold roK at p
  simp only [Bool.false_eq_true, if_false] at p
  cases q : a[i]? with
  | none => rw [q] at p; exact p.elim
  | some s =>
    rw [q] at p
    have so := RS.sl i s q
    cases s with
    | no => exact p.elim
    | pu d =>
      obtain ⟨v, ev, f⟩ := so
      exact ⟨v, ev, by rw [← e]; exact p v w (Wo.le.refl _) rfl RH RS ⟨f, fun _ => .inl ⟨d, rfl⟩⟩⟩
    | ow d => exact p.elim
    | bo d =>
      obtain ⟨v, ev, f⟩ := so
      exact ⟨_, ev, by rw [← e]; exact p _ w (Wo.le.refl _) rfl RH RS ⟨⟨ev, .inr ⟨d, q⟩⟩, fun _ => .inr ⟨i, d, rfl, q⟩⟩⟩
    | ex c ds => exact p.elim
/-! ### rows, tuples, texts -/
/-- what may be walked, by its value -/
def iSeq (K : PySem.W.Frag) (te : L2.TE) : TI := fun σ H R => te σ H fun v H1 =>
  (∃ a xs, v = .ref a ∧ SqL K H1 a xs ∧ R (Itl K a) H1) ∨ (∃ a xs, v = .ref a ∧ SqT K H1 a xs ∧ R (Itt K a) H1) ∨ ∃ z, v = .str z ∧ R (Its z) H1
theorem pi_seq {e : Expr} {te : L2.TE} (he : PE X e te) : PI X tg e (iSeq X.K te) := by
  constructor
  intro pins s σ H R I h
  refine thn (he.run pins s σ H _ I h) fun u s1 ⟨v, H1, I1, rv, q⟩ => ?_
  rcases q with ⟨b, xs, rfl, hq, q⟩ | ⟨b, xs, rfl, hq, q⟩ | ⟨z, rfl, q⟩
  · cases rv
    obtain ⟨its, _, pl, _⟩ := I1.list hq
    exact wpAny_pyIter_list pl.isList (pi_one (tk := s1.toks) I1 _ (turn_list b _) ⟨_, Heap.get?_push_size _ rfl, rfl, rfl⟩ q)
  · cases rv
    obtain ⟨its, _, pt, _⟩ := I1.tuple hq
    exact wpAny_pyIter_tuple (show s1.heap.IsTuple b its.toArray from pt) (pi_one (tk := s1.toks) I1 _ (turn_tuple b _) ⟨_, Heap.get?_push_size _ rfl, rfl, rfl⟩ q)
  · obtain ⟨t, rfl⟩ := rv
    cases hz : z.cps.all (· < 128) with
    | false => exact wpAny_pyIter_wide hz (pi_one (tk := s1.toks) I1 _ (turn_str _ z t "str_iterator" (.inr rfl)) ⟨_, Heap.get?_push_size _ rfl, rfl, rfl⟩ q)
    | true => exact wpAny_pyIter_ascii hz (pi_one (tk := s1.toks) I1 _ (turn_str _ z t "str_ascii_iterator" (.inl rfl)) ⟨_, Heap.get?_push_size _ rfl, rfl, rfl⟩ q)
theorem itOk_list {w : Wo} {v : V} {r : RV} {l : List D} {d : D} (hd : d = .lst l ∨ d = .zst l) (hv : ∀ w2, w.sub w2 → RepH T w2 → SrcOk T w2 v r d → ∃ b xs, v = .ref b ∧ SqL T.K w2.H b xs ∧ FzL T w2.m w2.F xs l) {b : Addr} (e : v = .ref b) : IterOk T (Itl T.K b) w l (fun w2 => SrcOk T w2 v r d) where
  go := fun w2 i s RH g hi => by
    obtain ⟨b', xs, e', h1, f⟩ := hv w2 s RH g
    rw [e] at e'
    cases e'
    have hx : i < xs.length := by rw [f.1]; exact hi
    exact ⟨xs, xs[i], h1, by simp [hx]⟩
  stop := fun w2 s RH g => by
    obtain ⟨b', xs, e', h1, f⟩ := hv w2 s RH g
    rw [e] at e'
    cases e'
    exact ⟨xs, h1, by rw [f.1]; exact Nat.le_refl _⟩
  yld := fun w2 i x H' s RH g hi y => by
    obtain ⟨b', xs, e', h1, f⟩ := hv w2 s RH g
    rw [e] at e'
    cases e'
    obtain ⟨rfl, y⟩ := y
    obtain ⟨d, h2, h3⟩ := f.at' (y xs h1)
    exact ⟨w2, .refl _, rfl, rfl, RH, fun _ _ z => z, d, h2, h3⟩
theorem itOk_tup {w : Wo} {v : V} {r : RV} {l : List D} {d : D} (hv : ∀ w2, w.sub w2 → RepH T w2 → SrcOk T w2 v r d → ∃ b xs, v = .ref b ∧ SqT T.K w2.H b xs ∧ FzL T w2.m w2.F xs l) {b : Addr} (e : v = .ref b) : IterOk T (Itt T.K b) w l (fun w2 => SrcOk T w2 v r d) where
  go := fun w2 i s RH g hi => by
    obtain ⟨b', xs, e', h1, f⟩ := hv w2 s RH g
    rw [e] at e'
    cases e'
    have hx : i < xs.length := by rw [f.1]; exact hi
    exact ⟨xs, xs[i], h1, by simp [hx]⟩
  stop := fun w2 s RH g => by
    obtain ⟨b', xs, e', h1, f⟩ := hv w2 s RH g
    rw [e] at e'
    cases e'
    exact ⟨xs, h1, by rw [f.1]; exact Nat.le_refl _⟩
  yld := fun w2 i x H' s RH g hi y => by
    obtain ⟨b', xs, e', h1, f⟩ := hv w2 s RH g
    rw [e] at e'
    cases e'
    obtain ⟨rfl, y⟩ := y
    obtain ⟨d, h2, h3⟩ := f.at' (y xs h1)
    exact ⟨w2, .refl _, rfl, rfl, RH, fun _ _ z => z, d, h2, h3⟩
theorem itOk_str {w : Wo} {z : PySem.Str} : IterOk T (Its z) w (chars z) (fun _ => True) where
  go := fun w2 i s RH g hi => by
    show i < z.cps.size
    unfold chars at hi
    simpa using hi
  stop := fun w2 s RH g => by
    show z.cps.size ≤ (chars z).length
    unfold chars
    simp
  yld := fun w2 i x H' s RH g hi y => by
    obtain ⟨rfl, c, h1, rfl⟩ := y
    refine ⟨w2, .refl _, rfl, rfl, RH, fun _ _ z => z, .str ⟨#[c]⟩, ?_, .str _⟩
    unfold chars
    rw [List.getElem?_map, Array.getElem?_toList, h1]
    rfl
theorem src_rel {a : List SL} {σ : Ev.St} {w : Wo} {v : V} {r : RV} {d : D} (RS : RepS T w a σ) (f : Hdk T k a σ w v r) (e : lookF a r = some d) :
    (∀ w2 a2 σ2, w.sub w2 → RepH T w2 → RepS T w2 a2 σ2 → Agree a σ a2 σ2 → SrcOk T w2 v r d) ∧ (k = false → ∀ w2, w.sub w2 → RepH T w2 → SrcOk T w2 v r d) :=
  ⟨fun w2 a2 σ2 s RH2 RS2 ag => src_keep f.1 e s RH2 RS2 ag, fun hk w2 s RH2 => by
    rcases f.2 hk with ⟨d', rfl⟩ | ⟨i, d', rfl, h1⟩
    · trivial
    · unfold lookF at e
      simp only [h1] at e
      cases e
      obtain ⟨u, e3, e4⟩ := RS.sl i _ h1
      obtain ⟨k1, _⟩ := f.1
      rw [k1] at e3
      cases e3
      rcases e4 with e4 | ⟨p, rfl, e4⟩
      · exact .inl (e4.mono s.f s.m)
      · obtain ⟨o, ho⟩ := e4.there
        exact .inr ⟨p, rfl, e4.mono s.f s.m (by rw [ho]; exact RH2.pr _ _ (s.pr _ _ ho))⟩⟩
/-- a source's view in any later world -/
theorem src_vw {a : List SL} {σ : Ev.St} {w : Wo} {v : V} {r : RV} {d : D} (f : Hdk T k a σ w v r) (e : lookF a r = some d) {w2 : Wo} (s : w.sub w2) (RH2 : RepH T w2) (g : SrcOk T w2 v r d) : Vw T w2 v d :=
  src_row (l := []) (lookF_cases e) (fun d' hr => by
    have h := f.1
    rw [hr] at h
    exact h) s RH2 g
theorem look_of_lookF {a : List SL} {h : List D} {r : RV} {d : D} (e : lookF a r = some d) : look a h r = some d := by
  cases r with
  | val d' => cases d' <;> first | exact e | exact absurd e (by simp [lookF])
  | slot i => exact e
theorem di_seq (hK : X.K = T.K) (h : DRk T Wx X k x ΦR) : DI T Wx X k tg x (fun a hh => (ΦR a hh).bind fun r h1 => RE.lift ((lookF a r).bind walkOf) h1) := by
  refine pi_imp (pi_seq h) fun σ H Q ⟨w, a, e, RH, RS, p⟩ => ⟨w, a, e, RH, RS, ?_⟩
  refine (p.bind (Rel := Hdk T k a σ)).imp fun v H1 ⟨w1, r, le, eH, RH1, RS1, f1, q⟩ => ?_
  rw [← eH]
  obtain ⟨ds, hds, q2⟩ := Post.lift q
  obtain ⟨d, h1, h2⟩ := Option.bind_eq_some_iff.mp hds
  obtain ⟨k1, k2⟩ := src_rel RS1 f1 h1
  have vw := look_ok RH1 RS1 f1.1 (look_of_lookF (h := w1.hh) h1)
  rw [hK]
  unfold walkOf at h2
  split at h2 <;> first | contradiction | skip
  · cases h2
    obtain ⟨b, xs, rfl, e1, f2⟩ := vw.lst RH1
    refine .inl ⟨b, xs, rfl, .of e1, q2 _ w1 (.refl _) rfl RH1 RS1 ⟨_, itOk_list (.inl rfl) (fun w2 s RH2 g => ?_) rfl, k1, k2⟩⟩
    obtain ⟨b', ys, e2, h3, f3⟩ := (src_vw f1 h1 s RH2 g).lst RH2
    exact ⟨b', ys, e2, .of h3, f3⟩
  · cases h2
    obtain ⟨b, xs, rfl, e1, f2⟩ := vw.sqT RH1
    refine .inr (.inl ⟨b, xs, rfl, e1, q2 _ w1 (.refl _) rfl RH1 RS1 ⟨_, itOk_tup (fun w2 s RH2 g => ?_) rfl, k1, k2⟩⟩)
    exact (src_vw f1 h1 s RH2 g).sqT RH2
  · cases h2
    obtain ⟨b, xs, rfl, e1, f2⟩ := vw.zst RH1
    refine .inl ⟨b, xs, rfl, e1, q2 _ w1 (.refl _) rfl RH1 RS1 ⟨_, itOk_list (.inr rfl) (fun w2 s RH2 g => ?_) rfl, k1, k2⟩⟩
    exact (src_vw f1 h1 s RH2 g).zst RH2
  · cases h2
    cases vw.str
    exact .inr (.inr ⟨_, rfl, q2 _ w1 (.refl _) rfl RH1 RS1 ⟨_, itOk_str, fun _ _ _ _ _ _ _ => trivial, fun _ _ _ _ => trivial⟩⟩)
  · rcases vw with vw | ⟨_, _, vw⟩
    · cases vw
    · exact vw.elim
/-! ### ranges -/
theorem itOk_rng {w : Wo} {lo : Int} {n : Nat} : IterOk T (Itr lo n) w (rngD lo n) (fun _ => True) where
  go := fun w2 i s RH g hi => by
    show i < n
    unfold rngD at hi
    simpa using hi
  stop := fun w2 s RH g => by
    show n ≤ (rngD lo n).length
    unfold rngD
    simp
  yld := fun w2 i x H' s RH g hi y => by
    obtain ⟨rfl, rfl⟩ := y
    have hi' : i < n := by
      unfold rngD at hi
      simpa using hi
    refine ⟨w2, .refl _, rfl, rfl, RH, fun _ _ z => z, .int (lo + (i : Nat)), ?_, .int _⟩
    unfold rngD
    rw [List.getElem?_map, List.getElem?_range hi']
    rfl
theorem rngOk_of {i : Int} (h : rngOk i = true) : -(2 ^ 62) ≤ i ∧ i < 2 ^ 62 := by
  unfold rngOk at h
  rw [Bool.and_eq_true, decide_eq_true_eq, decide_eq_true_eq] at h
  exact h
theorem di_rng1 {p : Pos} (hg : Gl X "range") (hm : X.mg "range" = none) (hp : plE x = true) (h : DE T Wx X x Φ) :
    DI T Wx X k tg (.Call (.Name "range" p) [x] [] pos) (fun a hh => (Ev.iOf (Φ a hh)).bind fun i h1 => if rngOk i then .ok (rngD 0 i.toNat) h1 else .bad) := by
  refine pi_imp (pi_range1 hg hm (pa_cons h pa_nil (star_pl hp)) (star_pl hp)) fun σ H Q ⟨w, a, e, RH, RS, p⟩ => ⟨w, a, e, RH, RS, ?_⟩
  refine (Post.iOf (p.bind (Rel := fun _ (b : Int) (c : Int) => b = c))).imp fun v H1 ⟨c, hv, w1, d, le, eH, RH1, RS1, f1, q⟩ => ?_
  cases f1
  subst hv
  rw [← eH]
  split at q
  · rename_i hr
    obtain ⟨r1, r2⟩ := rngOk_of hr
    exact ⟨c, rfl, r1, r2, q _ w1 (.refl _) rfl RH1 RS1 ⟨_, itOk_rng, fun _ _ _ _ _ _ _ => trivial, fun _ _ _ _ => trivial⟩⟩
  · exact q.elim
theorem di_rng2 {p : Pos} (hg : Gl X "range") (hm : X.mg "range" = none) (hp : plE x = true) (hp2 : plE y = true) (h : DE T Wx X x Φ) (h2 : DE T Wx X y Ψ) :
    DI T Wx X k tg (.Call (.Name "range" p) [x, y] [] pos) (fun a hh => (Ev.iOf (Φ a hh)).bind fun i h1 => (Ev.iOf (Ψ a h1)).bind fun j h2 => if rngOk i && rngOk j then .ok (rngD i (j - i).toNat) h2 else .bad) := by
  refine pi_imp (pi_range2 hg hm (pa_cons h (pa_cons h2 pa_nil (star_pl hp2)) (star_pl hp)) (by rw [star_pl hp, star_pl hp2]; rfl) (by rw [star_pl hp2]; rfl)) fun σ H Q ⟨w, a, e, RH, RS, p⟩ => ⟨w, a, e, RH, RS, ?_⟩
  refine (Post.iOf (p.bind (Rel := fun _ (b : Int) (c : Int) => b = c))).imp fun v H1 ⟨c, hv, w1, d, le, eH, RH1, RS1, f1, q⟩ => ⟨w1, a, eH, RH1, RS1, ?_⟩
  cases f1
  subst hv
  refine (Post.iOf (q.bind (Rel := fun _ (b : Int) (c : Int) => b = c))).imp fun v H2 ⟨c2, hv, w2, d, le2, eH2, RH2, RS2, f2, q2⟩ => ?_
  cases f2
  subst hv
  rw [← eH2]
  split at q2
  · rename_i hr
    rw [Bool.and_eq_true] at hr
    obtain ⟨r1, r2⟩ := rngOk_of hr.1
    obtain ⟨r3, r4⟩ := rngOk_of hr.2
    exact ⟨c, c2, rfl, ⟨r1, r2, r3, r4⟩, q2 _ w2 (.refl _) rfl RH2 RS2 ⟨_, itOk_rng, fun _ _ _ _ _ _ _ => trivial, fun _ _ _ _ => trivial⟩⟩
  · exact q2.elim
/-- list(range(..)), tuple(range(..)) -/
theorem rgV_fz {m : List Addr} {F : Hp} (i j : Int) : FzL T m F (rgV i j) (rngD i (j - i).toNat) := by
  unfold rgV rngD
  exact FzL.map (fun n => .int _) _
theorem rg_ok {i j : Int} (h1 : rngOk i = true) (h2 : rngOk j = true) (hs : szOk (rngD i (j - i).toNat).length = true) : RgOk i j := by
  obtain ⟨r1, r2⟩ := rngOk_of h1
  obtain ⟨r3, r4⟩ := rngOk_of h2
  have hs := of_decide_eq_true hs
  unfold rngD at hs
  rw [List.length_map, List.length_range] at hs
  exact ⟨r1, r2, r3, r4, hs⟩
abbrev DG2 (T : Tb) (Wx : WX) (X : Cx) (e : Expr) (Φ : List SL → List D → RE (Int × Int)) : Prop := PRg X e (fun σ H Q => tG T Wx (fun _ _ _ (b : Int × Int) (c : Int × Int) => b = c) Φ σ H (fun b H => Q b.1 b.2 H))
def rgOf (k : Bool) (a : List SL) (g : G) : It → List D → RE (Int × Int)
  | .rng1 x, h => (iOf (evE g a x h)).bind fun i h1 => if rngOk i then .ok (0, i) h1 else .bad
  | .rng2 x y, h => (iOf (evE g a x h)).bind fun i h1 => (iOf (evE g a y h1)).bind fun j h2 => if rngOk i && rngOk j then .ok (i, j) h2 else .bad
  | _, _ => .bad
end
/-! ### comprehensions -/
section
variable {T : Tb} {w w' : Wo} {a : List SL} {σ : Ev.St}
/-- the world in which the object at D is kept, too -/
def Wo.prot (w : Wo) (p : Addr) (o : HO) : Wo := { w with Pr := upd w.Pr p o }
theorem prot_H {p : Addr} {o : HO} (R : RepH T w) (hp : w.H p = some o) (hF : w.F p = none) (hm : p ∉ w.m) : RepH T (w.prot p o) := by
  refine ⟨R.sub, fun q u e => ?_, fun q u e => ?_, R.f0, fun q hq => ?_, R.ml, R.nd, R.lo⟩
  · have e : upd w.Pr p o q = some u := e
    show w.H q = some u
    by_cases h : q = p
    · subst h; rw [upd_same] at e; rw [hp]; exact e
    · rw [upd_ne h] at e; exact R.pr _ _ e
  · rcases R.fp q u e with h | h
    · exact .inl h
    · right
      show upd w.Pr p o q = none
      have e : w.F q = some u := e
      rw [upd_ne (fun z => by rw [z, hF] at e; cases e)]
      exact h
  · show upd w.Pr p o q = none
    rw [upd_ne (fun z => by subst z; exact hm hq)]
    exact R.mp q hq
theorem prot_S {p : Addr} {o : HO} (S : RepS T w a σ) (ho : ∀ q, Own a σ q → q ≠ p) (hp : w.Pr p = none) : RepS T (w.prot p o) a σ := by
  refine ⟨S.ln, fun i s e => ?_, S.oo, S.me⟩
  have h := S.sl i s e
  cases s with
  | no => trivial
  | pu d => exact h
  | ow d =>
    obtain ⟨q, e1, e2, e3, e4, e5⟩ := h
    refine ⟨q, e1, e2, ?_, e4, e5⟩
    show upd w.Pr p o q = none
    rw [upd_ne (ho q ⟨i, d, e, e1⟩)]
    exact e3
  | bo d =>
    obtain ⟨v, e1, h1 | ⟨q, e2, h1⟩⟩ := h
    · exact ⟨v, e1, .inl h1⟩
    · refine ⟨v, e1, .inr ⟨q, e2, h1.mono (fun _ _ z => z) (fun _ _ z => z) ?_⟩⟩
      obtain ⟨u, hu⟩ := h1.there
      show upd w.Pr p o q = w.Pr q
      rw [upd_ne (fun z => by rw [z, hp] at hu; cases hu)]
  | ex c ds => exact h
/-- .. and back, D written anew -/
def Wo.unprot (w : Wo) (Pr : Hp) (p : Addr) (o : HO) : Wo := { w with Pr := Pr, H := upd w.H p o }
theorem unprot_H {p : Addr} {o o' : HO} {Pr : Hp} (R : RepH T w) (hPr : w.Pr = upd Pr p o) (hp : Pr p = none) (hF0 : w.F0 p = none) : RepH T (w.unprot Pr p o') ∧ w.H p = some o ∧ w.F p = none ∧ p ∉ w.m := by
  have hH : w.H p = some o := R.pr _ _ (by rw [hPr, upd_same])
  have hm : p ∉ w.m := fun h => by
    have := R.mp p h
    rw [hPr, upd_same] at this
    cases this
  have hF : w.F p = none := by
    cases z : w.F p with
    | none => rfl
    | some u =>
      rcases R.fp p u z with h | h
      · rw [hF0] at h; cases h
      · rw [hPr, upd_same] at h; cases h
  refine ⟨⟨fun q u e => ?_, fun q u e => ?_, fun q u e => ?_, R.f0, fun q hq => ?_, R.ml, R.nd, fun n q d e1 e2 => ?_⟩, hH, hF, hm⟩
  · show upd w.H p o' q = some u
    have e : w.F q = some u := e
    rw [upd_ne (fun z => by rw [z, hF] at e; cases e)]
    exact R.sub _ _ e
  · show upd w.H p o' q = some u
    have e : Pr q = some u := e
    have hne : q ≠ p := fun z => by rw [z, hp] at e; cases e
    rw [upd_ne hne]
    exact R.pr _ _ (by rw [hPr, upd_ne hne]; exact e)
  · rcases R.fp q u e with h | h
    · exact .inl h
    · right
      show Pr q = none
      have e : w.F q = some u := e
      rw [hPr, upd_ne (fun z => by rw [z, hF] at e; cases e)] at h
      exact h
  · show Pr q = none
    have h := R.mp q hq
    rw [hPr, upd_ne (fun z => by subst z; exact hm hq)] at h
    exact h
  · obtain ⟨h1, h2⟩ := R.lo n q d e1 e2
    exact ⟨h1, h2.mono (fun _ _ z => z) (fun _ _ z => z) (upd_ne (fun z => by subst z; exact hm (List.mem_of_getElem? e1)))⟩
theorem unprot_S {w0 : Wo} {a1 : List SL} {σ1 : Ev.St} {p : Addr} {o o' : HO} (S0 : RepS T w0 a σ) (hs : w0.sub w) (S : RepS T w a1 σ1) (ag : Agree a σ a1 σ1) (hPr : w.Pr = upd w0.Pr p o) (hme : w.me = w0.me) : RepS T (w.unprot w0.Pr p o') a σ := by
  refine ⟨S0.ln, fun i s e => ?_, S0.oo, fun d x e => S0.me d x (hme ▸ e)⟩
  have h := S0.sl i s e
  cases s with
  | no => trivial
  | pu d =>
    obtain ⟨v, e1, f⟩ := h
    exact ⟨v, e1, f.mono hs.f hs.m⟩
  | ow d =>
    obtain ⟨k1, k2⟩ := ag i (.inl ⟨d, e⟩)
    have h := S.sl i (.ow d) (k1.trans e)
    rw [k2] at h
    obtain ⟨q, e1, e2, e3, e4, e5⟩ := h
    have hne : q ≠ p := fun z => by rw [hPr, z, upd_same] at e3; cases e3
    refine ⟨q, e1, e2, ?_, e4, e5.mono (fun _ _ z => z) (fun _ _ z => z) (upd_ne hne)⟩
    show w0.Pr q = none
    rw [hPr, upd_ne hne] at e3
    exact e3
  | bo d =>
    obtain ⟨v, e1, h1 | ⟨q, e2, h1⟩⟩ := h
    · exact ⟨v, e1, .inl (h1.mono hs.f hs.m)⟩
    · exact ⟨v, e1, .inr ⟨q, e2, h1.mono hs.f hs.m rfl⟩⟩
  | ex c ds =>
    obtain ⟨b, d, e1, e2, e3⟩ := h
    exact ⟨b, d, e1, e2, e3.mono hs.f hs.m⟩
theorem wipeS_length (a : List SL) : ∀ vs : List Nat, (wipeS a vs).length = a.length
  | [] => rfl
  | v :: vs => by unfold wipeS; rw [List.length_set, wipeS_length a vs]
theorem wipeS_ne (a : List SL) {j : Nat} : ∀ {vs : List Nat}, j ∉ vs → (wipeS a vs)[j]? = a[j]?
  | [], _ => rfl
  | v :: vs, h => by
    rw [List.mem_cons, not_or] at h
    unfold wipeS
    rw [List.getElem?_set_ne (fun z => h.1 z.symm), wipeS_ne a h.2]
theorem wipe_ne (σ : Ev.St) {j : Nat} : ∀ {vs : List Nat}, j ∉ vs → (L2.wipe σ vs)[j]? = σ[j]?
  | [], _ => rfl
  | v :: vs, h => by
    rw [List.mem_cons, not_or] at h
    unfold L2.wipe
    rw [List.getElem?_set_ne (fun z => h.1 z.symm), wipe_ne σ h.2]
theorem wipe_at (σ : Ev.St) {j : Nat} : ∀ {vs : List Nat}, j ∈ vs → (L2.wipe σ vs)[j]? = if j < σ.length then some none else none
  | [], h => by cases h
  | v :: vs, h => by
    unfold L2.wipe
    by_cases hv : v = j
    · subst hv
      rw [List.getElem?_set]
      simp only [if_true, L2.wipe_length]
    · rw [List.getElem?_set_ne hv]
      exact wipe_at σ ((List.mem_cons.mp h).resolve_left (fun z => hv z.symm))
/-- what is set within the wiped slots is wiped again -/
theorem wipe_same {σ1 : Ev.St} {own js : List Nat} (h : SameAt js (L2.wipe σ own) σ1) (hj : ∀ j ∈ js, j ∈ own) : L2.wipe σ1 own = L2.wipe σ own := by
  have hl : σ1.length = σ.length := by rw [h.1, L2.wipe_length]
  apply List.ext_getElem?
  intro j
  by_cases hm : j ∈ own
  · rw [wipe_at σ1 hm, wipe_at σ hm, hl]
  · rw [wipe_ne σ1 hm, h.2 j (fun z => hm (hj j z))]
theorem ownFree_of {own : List Nat} (h : ownFree a own = true) {j : Nat} (hj : j ∈ own) : ¬ ((∃ d, a[j]? = some (.ow d)) ∨ ∃ d, a[j]? = some (.bo d)) := by
  have := List.all_eq_true.mp h j hj
  rintro (⟨d, e⟩ | ⟨d, e⟩) <;> rw [e] at this <;> exact Bool.false_ne_true this
mutual
theorem asgTg_ne {a a1 : List SL} : ∀ (t : Tg) (d : D), asgTg t d a = some a1 → (∀ j, j ∉ tgs t → a1[j]? = a[j]?)
  | .name i, d, h, j, hj => by
    rw [asgTg] at h
    cases h
    exact List.getElem?_set_ne (fun z => hj (by simp [tgs, z]))
  | .nil, d, h, j, hj => by
    cases d with
    | tup l =>
      cases l with
      | nil => rw [asgTg] at h; cases h; rfl
      | cons x l => simp [asgTg] at h
    | _ => simp [asgTg] at h
  | .cons t r, d, h, j, hj => by
    rw [tgs, List.mem_append, not_or] at hj
    cases d with
    | tup l =>
      cases l with
      | nil => simp [asgTg] at h
      | cons x l =>
        rw [asgTg] at h
        obtain ⟨a2, h1, h2⟩ := Option.bind_eq_some_iff.mp h
        rw [asgTgs_ne r l h2 j hj.2, asgTg_ne t x h1 j hj.1]
    | _ => simp [asgTg] at h
theorem asgTgs_ne {a a1 : List SL} : ∀ (t : Tg) (d : List D), asgTgs t d a = some a1 → (∀ j, j ∉ tgs t → a1[j]? = a[j]?)
  | .name i, d, h, j, hj => by cases d <;> simp [asgTgs] at h
  | .nil, d, h, j, hj => by
    cases d with
    | nil => rw [asgTgs] at h; cases h; rfl
    | cons x l => simp [asgTgs] at h
  | .cons t r, d, h, j, hj => by
    rw [tgs, List.mem_append, not_or] at hj
    cases d with
    | nil => simp [asgTgs] at h
    | cons x l =>
      rw [asgTgs] at h
      obtain ⟨a2, h1, h2⟩ := Option.bind_eq_some_iff.mp h
      rw [asgTgs_ne r l h2 j hj.2, asgTg_ne t x h1 j hj.1]
end
theorem agree_blk {own js : List Nat} {a1 : List SL} {σ1 : Ev.St} (hf : ownFree a own = true) (h : SameAt js (L2.wipe σ own) σ1) (ha : ∀ j, j ∉ js → a1[j]? = (wipeS a own)[j]?) (hj : ∀ j ∈ js, j ∈ own) : Agree a σ a1 σ1 := fun j hd => by
  have hn : j ∉ own := fun z => ownFree_of hf z hd
  have hn' : j ∉ js := fun z => hn (hj j z)
  rw [ha j hn', wipeS_ne a hn, h.2 j hn', wipe_ne σ hn]
  exact ⟨rfl, rfl⟩
theorem agree_wipe {own : List Nat} (hf : ownFree a own = true) : Agree a σ (wipeS a own) (L2.wipe σ own) := fun j hd => by
  have hn : j ∉ own := fun z => ownFree_of hf z hd
  rw [wipeS_ne a hn, wipe_ne σ hn]
  exact ⟨rfl, rfl⟩
end
/-- the tests of a comprehension -/
abbrev DC (T : Tb) (Wx : WX) (X : Cx) (ifs : List Expr) (Φ : List SL → List D → RE Bool) : Prop := PTs X ifs (tG T Wx (fun _ _ _ (b : Bool) (c : Bool) => b = c) Φ)
theorem dc_nil {T : Tb} {Wx : WX} {X : Cx} : DC T Wx X [] (fun _ hh => .ok true hh) := ⟨fun pins s σ H Q I ⟨w, a, e, RH, RS, p⟩ => (pts_nil (X := X)).run pins s σ H Q I (by
  show Q true H
  rw [← e]
  exact p true w (.refl _) rfl RH RS rfl)⟩
theorem dc_one {T : Tb} {Wx : WX} {X : Cx} {x : Expr} {Φ : List SL → List D → RE Bool} (h : DT T Wx X x Φ) : DC T Wx X [x] Φ := pts_one h
/-- nothing is raised in a comprehension's turn -/
abbrev noW : WX := fun _ _ _ _ => False
section
variable {T : Tb} {Wx : WX} {X : Cx} {elt tg iter : Expr} {ifs : List Expr} {scope : Scope} {own : List Nat} {pos : Pos} {t : Tg} {Φl : List SL → List D → RE (List D)} {Φc : List SL → List D → RE Bool} {Φe : List SL → List D → RE D}
/-- one turn -/
def turnC (t : Tg) (own : List Nat) (Φc : List SL → List D → RE Bool) (Φe : List SL → List D → RE D) (a : List SL) (d : D) (h2 : List D) : RE (Option D) := match asgTg t d (wipeS a own) with
  | none => .bad
  | some a1 => (Φc a1 h2).bind fun b h3 => if b then (Φe a1 h3).bind fun x h4 => .ok (some x) h4 else .ok none h3
theorem upd_id {H : Hp} {p : Addr} {o : HO} (h : H p = some o) : upd H p o = H := by
  funext q
  by_cases e : q = p
  · subst e; rw [upd_same, h]
  · rw [upd_ne e]
theorem compL_cons {f : D → List D → RE (Option D)} {d : D} {l h r h' : List D} (e : compL f (d :: l) h = .ok r h') : ∃ o h1 r1, f d h = .ok o h1 ∧ compL f l h1 = .ok r1 h' ∧ r = (match o with | some x => x :: r1 | none => r1) := by
  simp only [compL] at e
  cases q : f d h with
  | ok o h1 =>
    rw [q] at e
    dsimp only at e
    cases q2 : compL f l h1 with
    | ok r2 h2 =>
      rw [q2, RE.bind_ok] at e
      injection e with e1 e2
      subst e2
      exact ⟨o, h1, r2, rfl, q2, e1.symm⟩
    | exc c ds h2 => rw [q2] at e; cases e
    | bad => rw [q2] at e; cases e
  | exc c ds h1 => rw [q] at e; cases e
  | bad => rw [q] at e; cases e
theorem compL_noexc {f : D → List D → RE (Option D)} : ∀ {l h : List D} {c : Nat} {ds h' : List D}, compL f l h ≠ .exc c ds h'
  | [], h, c, ds, h' => fun e => by simp [compL] at e
  | d :: l, h, c, ds, h' => fun e => by
    simp only [compL] at e
    cases q : f d h with
    | ok o h1 =>
      rw [q] at e
      dsimp only at e
      cases q2 : compL f l h1 with
      | ok r2 h2 => rw [q2] at e; cases e
      | exc c2 ds2 h2 => exact compL_noexc q2
      | bad => rw [q2] at e; cases e
    | exc c2 ds2 h1 => rw [q] at e; cases e
    | bad => rw [q] at e; cases e
/-- the state between two turns: the row so far at p -/
def Btw (T : Tb) (a : List SL) (σ : Ev.St) (w1 : Wo) (p : Addr) (f : D → List D → RE (Option D)) (items L hE : List D) (i : Nat) (H : Hp) : Prop :=
  ∃ w2 xs acc rest, w1.le w2 ∧ w2.H = H ∧ RepH T w2 ∧ RepS T w2 a σ ∧ w2.H p = some (.lst xs) ∧ w2.F p = none ∧ p ∉ w2.m ∧ FzL T w2.m w2.F xs acc ∧ compL f (items.drop i) w2.hh = .ok rest hE ∧ acc ++ rest = L
theorem comp_turn {k : Bool} {a : List SL} {σ : Ev.St} {w1 : Wo} {J : L2.It} {items L hE : List D} {p : Addr} (hit : ItRel T k a σ w1 J items) (hfr : ownFree a own = true) (htg : ∀ j ∈ tgs t, j ∈ own)
    (hown : ∀ q, Own a σ q → q ≠ p) (hP : w1.Pr p = none) (hF0 : w1.F0 p = none) (hL : L.length ≤ sizeLine) {Qd : Hp → Prop} (hd : ∀ H, Btw T a σ w1 p (turnC t own Φc Φe a) items L hE items.length H → Qd H) (i m : Nat) (H : Hp)
    (hW : m = items.length - i ∧ i ≤ items.length ∧ Btw T a σ w1 p (turnC t own Φc Φe a) items L hE i H) :
    (J.stop i H ∧ Qd H) ∨ (J.go i H ∧ ∃ Nx : Hp → Prop, (∀ H', Nx H' → ∃ m', m' < m ∧ (m' = items.length - (i + 1) ∧ i + 1 ≤ items.length ∧ Btw T a σ w1 p (turnC t own Φc Φe a) items L hE (i + 1) H')) ∧
      ∀ x H', J.yld i H x H' → tGt T t x (L2.wipe σ own) H' fun σ2 H2 => L2.wipe σ2 own = L2.wipe σ own ∧ tG T noW (fun _ _ _ (b : Bool) (c : Bool) => b = c) Φc σ2 H2 fun b H3 =>
        if b = true then tG T noW (rF T) Φe σ2 H3 fun y H4 => ∃ acc, H4 p = some (.lst acc) ∧ acc.length < sizeLine ∧ Nx (upd H4 p (.lst (acc ++ [y]))) else Nx H3) := by
  obtain ⟨rfl, hi, hb⟩ := hW
  obtain ⟨w2, xs, acc, rest, le2, rfl, RH2, RS2, hp, hF, hpm, f2, hc, hA⟩ := id hb
  obtain ⟨Gs, IO, hG, _⟩ := hit
  have gs := hG w2 a σ le2.sub RH2 RS2 fun j _ => ⟨rfl, rfl⟩
  by_cases hlt : i < items.length
  · refine .inr ⟨IO.go w2 i le2.sub RH2 gs hlt, Btw T a σ w1 p (turnC t own Φc Φe a) items L hE (i + 1), fun H' b => ⟨items.length - (i + 1), by omega, rfl, hlt, b⟩, fun x H' y => ?_⟩
    have hPr2 : w2.Pr p = none := by rw [le2.pr]; exact hP
    have RHp := prot_H RH2 hp hF hpm
    have RSp := prot_S (o := .lst xs) RS2 hown hPr2
    have sp : w1.sub (w2.prot p (.lst xs)) := ⟨le2.f, le2.m, fun q u e => by
      show upd w2.Pr p (.lst xs) q = some u
      rw [upd_ne (fun z => by rw [z, hP] at e; cases e), le2.pr]
      exact e⟩
    obtain ⟨w3, le3, rfl, hh3, RH3, S3, d, hd3, fz3⟩ := IO.yld (w2.prot p (.lst xs)) i x H' sp RHp (hG _ a σ sp RHp RSp fun j _ => ⟨rfl, rfl⟩) hlt y
    have hdrop : items.drop i = d :: items.drop (i + 1) := by
      rw [List.drop_eq_getElem_cons hlt]
      congr 1
      rw [List.getElem?_eq_getElem hlt] at hd3
      exact Option.some.inj hd3
    rw [hdrop] at hc
    obtain ⟨o, h1, r1, c1, c2, c3⟩ := compL_cons hc
    have hh3' : w3.hh = w2.hh := hh3
    unfold turnC at c1
    cases ht : asgTg t d (wipeS a own) with
    | none => rw [ht] at c1; cases c1
    | some a1 =>
      rw [ht] at c1
      dsimp only at c1
      have RS3 := (S3 a σ RSp).wipe own
      refine ⟨w3, wipeS a own, d, a1, rfl, RH3, RS3, fz3, ht, fun σ1 RS1 sm => ⟨wipe_same sm htg, ?_⟩⟩
      have ag : Agree a σ a1 σ1 := agree_blk hfr sm (fun j hj => asgTg_ne t d ht j hj) htg
      refine ⟨w3, a1, rfl, RH3, RS1, ?_⟩
      rw [hh3']
      cases q1 : Φc a1 w2.hh with
      | exc c ds h => rw [q1] at c1; cases c1
      | bad => rw [q1] at c1; cases c1
      | ok b h3 =>
        rw [q1, RE.bind_ok] at c1
        intro b' w4 le4 e4 RH4 RS4 eb
        subst eb
        have hPr4 : w4.Pr = upd w2.Pr p (.lst xs) := by rw [le4.pr, le3.pr]; rfl
        have hF04 : w4.F0 p = none := by rw [le4.f0, le3.f0]; show w2.F0 p = none; rw [le2.f0]; exact hF0
        cases b' with
        | false =>
          rw [if_neg Bool.false_ne_true] at c1
          injection c1 with c1 c4
          subst c1
          obtain ⟨k1, k2, k3, k4⟩ := unprot_H (o' := .lst xs) RH4 hPr4 hPr2 hF04
          rw [if_neg Bool.false_ne_true]
          have s4 : w2.sub w4 := ⟨fun q u e => le4.f _ _ (le3.f _ _ e), fun n q e => le4.m _ _ (le3.m _ _ e), fun q u e => by
            rw [hPr4, upd_ne (fun z => by rw [z, hPr2] at e; cases e)]
            exact e⟩
          refine ⟨w4.unprot w2.Pr p (.lst xs), xs, acc, rest, ⟨le2.pr, ?_, fun q u e => s4.f _ _ (le2.f _ _ e), fun n q e => s4.m _ _ (le2.m _ _ e), (by show w4.me = w1.me; rw [le4.me, le3.me]; exact le2.me)⟩, upd_id k2, k1, unprot_S RS2 s4 RS4 ag hPr4 (by rw [le4.me, le3.me]; rfl), upd_same, k3, k4, f2.mono s4.f s4.m, ?_, hA⟩
          · show w4.F0 = w1.F0
            rw [le4.f0, le3.f0]; exact le2.f0
          · show compL _ _ w4.hh = _
            rw [e4, c4, c2]
            rw [c3]
        | true =>
          rw [if_pos rfl] at c1
          rw [if_pos rfl]
          refine ⟨w4, a1, rfl, RH4, RS4, ?_⟩
          rw [e4]
          cases q2 : Φe a1 h3 with
          | exc c ds h => rw [q2] at c1; cases c1
          | bad => rw [q2] at c1; cases c1
          | ok z h4 =>
            rw [q2, RE.bind_ok] at c1
            injection c1 with c1 c4
            subst c1
            intro y w5 le5 e5 RH5 RS5 fz5
            have hPr5 : w5.Pr = upd w2.Pr p (.lst xs) := by rw [le5.pr]; exact hPr4
            have hF05 : w5.F0 p = none := by rw [le5.f0]; exact hF04
            obtain ⟨k1, k2, k3, k4⟩ := unprot_H (o' := .lst (xs ++ [y])) RH5 hPr5 hPr2 hF05
            have s5 : w2.sub w5 := ⟨fun q u e => le5.f _ _ (le4.f _ _ (le3.f _ _ e)), fun n q e => le5.m _ _ (le4.m _ _ (le3.m _ _ e)), fun q u e => by
              rw [hPr5, upd_ne (fun z => by rw [z, hPr2] at e; cases e)]
              exact e⟩
            have c3 : rest = z :: r1 := c3
            refine ⟨xs, k2, ?_, w5.unprot w2.Pr p (.lst (xs ++ [y])), xs ++ [y], acc ++ [z], r1, ⟨le2.pr, ?_, fun q u e => s5.f _ _ (le2.f _ _ e), fun n q e => s5.m _ _ (le2.m _ _ e), (by show w5.me = w1.me; rw [le5.me, le4.me, le3.me]; exact le2.me)⟩, rfl, k1, unprot_S RS2 s5 RS5 ag hPr5 (by rw [le5.me, le4.me, le3.me]; rfl), upd_same, k3, k4,
              (f2.mono s5.f s5.m).append (.cons fz5 .nil), ?_, by rw [List.append_assoc, ← hA, c3]; rfl⟩
            · rw [f2.1]
              have : acc.length < L.length := by rw [← hA, c3, List.length_append, List.length_cons]; omega
              omega
            · show w5.F0 = w1.F0
              rw [le5.f0, le4.f0, le3.f0]; exact le2.f0
            · show compL _ _ w5.hh = _
              rw [e5, c4, c2]
  · have e : i = items.length := by omega
    subst e
    exact .inl ⟨IO.stop w2 le2.sub RH2 gs, hd _ hb⟩
/-- the value of a comprehension -/
theorem comp_val {k : Bool} {σ : Ev.St} {H : Hp} {Q : VK} {a : List SL} {w1 : Wo} {J : L2.It} {items : List D} (hfr : ownFree a own = true) (htg : ∀ j ∈ tgs t, j ∈ own) (eH : w1.H = H) (RH1 : RepH T w1) (RS1 : RepS T w1 a σ) (hit : ItRel T k a σ w1 J items)
    (q : Post T Wx a σ w1 (rP T a σ) Q ((compL (turnC t own Φc Φe a) items w1.hh).bind fun l h2 => if szOk l.length then .ok (.lst l) h2 else .bad)) :
    ∀ p, H p = none → ∃ W : Nat → Nat → Hp → Prop, (∃ m, W 0 m (upd H p (.lst []))) ∧ ∀ i m H, W i m H →
      (J.stop i H ∧ Q (.ref p) H) ∨ (J.go i H ∧ ∃ Nx : Hp → Prop, (∀ H', Nx H' → ∃ m', m' < m ∧ W (i + 1) m' H') ∧ ∀ x H', J.yld i H x H' → tGt T t x (L2.wipe σ own) H' fun σ2 H2 => L2.wipe σ2 own = L2.wipe σ own ∧ tG T noW (fun _ _ _ (b : Bool) (c : Bool) => b = c) Φc σ2 H2 fun b H3 =>
        if b = true then tG T noW (rF T) Φe σ2 H3 fun y H4 => ∃ acc, H4 p = some (.lst acc) ∧ acc.length < sizeLine ∧ Nx (upd H4 p (.lst (acc ++ [y]))) else Nx H3) := by
  intro p hp
  rw [← eH] at hp
  cases hc : compL (turnC t own Φc Φe a) items w1.hh with
  | exc c ds h => exact (compL_noexc hc).elim
  | bad => rw [hc] at q; exact q.elim
  | ok L hE =>
    rw [hc, RE.bind_ok] at q
    split at q
    · rename_i hs
      obtain ⟨g1, g2, g3⟩ := free_of RH1 hp
      have hown : ∀ q, Own a σ q → q ≠ p := fun q hq z => by
        obtain ⟨_, _, _, o, ho⟩ := RS1.own hq
        rw [z, hp] at ho
        cases ho
      have hF0 : w1.F0 p = none := by
        cases z : w1.F0 p with
        | none => rfl
        | some u => rw [RH1.f0 _ _ z] at g1; cases g1
      refine ⟨fun i m H => m = items.length - i ∧ i ≤ items.length ∧ Btw T a σ w1 p (turnC t own Φc Φe a) items L hE i H, ⟨items.length, rfl, Nat.zero_le _, ?_⟩, fun i m H hW => ?_⟩
      · refine ⟨w1.newO p (.lst []), [], [], L, newO_le, by rw [← eH]; rfl, newO_H RH1 hp, newO_S RS1 hp, upd_same, g1, g3, .nil, hc, rfl⟩
      · refine comp_turn hit hfr htg hown g2 hF0 (szOk_le hs) (fun H hb => ?_) i m H hW
        obtain ⟨w2, xs, acc, rest, le2, rfl, RH2, RS2, hp2, hF2, hm2, f2, hc2, hA⟩ := hb
        rw [List.drop_length] at hc2
        cases hc2
        rw [List.append_nil] at hA
        subst hA
        exact q (.ref p) w2 le2 rfl RH2 RS2 ⟨p, rfl, hF2, by rw [le2.pr]; exact g2, hm2, hown, xs, hp2, f2⟩
    · exact q.elim
/-- [elt for target in iter if ..] -/
theorem de_comp {k : Bool} {ownN : List (PySem.Str × Nat)} (ho : ownN.map (·.2) = own) (hc : X.calm = true) (hN : X.N.Nodup) (hi : DI T Wx X k tg iter Φl) (ok : BlkOk X.N X.env.scope scope ownN) (htg : ∀ j ∈ tgs t, j ∈ own)
    (hg : ∀ (s : Shared) (H : Hp) (C : Addr) (cl : List (PySem.Str × Addr)) (fp : List Addr), PG (X.blk s H scope (compEnvC scope cl C X.env) fp) tg (tGt T t)) (ht : ∀ (s : Shared) (H : Hp) (C : Addr) (cl : List (PySem.Str × Addr)) (fp : List Addr), DC T noW (X.blk s H scope (compEnvC scope cl C X.env) fp) ifs Φc)
    (he : ∀ (s : Shared) (H : Hp) (C : Addr) (cl : List (PySem.Str × Addr)) (fp : List Addr), DE T noW (X.blk s H scope (compEnvC scope cl C X.env) fp) elt Φe) (hs : ∀ x, foldedSetIterable iter X.env x = pure x) :
    DP T Wx X (.ListComp elt [⟨tg, iter, ifs, 0⟩] scope pos) (fun a hh => if ownFree a own then (Φl a hh).bind fun l h1 => (compL (turnC t own Φc Φe a) l h1).bind fun l h2 => if szOk l.length then .ok (.lst l) h2 else .bad else .bad) := by
  subst ho
  refine pe_imp (pe_lc hc hN hi ok hg ht he hs) fun σ H Q ⟨w, a, e, RH, RS, p⟩ => ?_
  dsimp only at p
  split at p
  · rename_i hfr
    refine ⟨w, a, e, RH, RS, ?_⟩
    refine (p.bind (Rel := ItRel T k a σ)).imp fun J H1 ⟨w1, l, le, eH, RH1, RS1, f1, q⟩ => ?_
    exact comp_val hfr htg eH RH1 RS1 f1 q
  · exact p.elim
end
end Ev
end
section
set_option Elab.async false
set_option linter.all false
set_option maxRecDepth 100000
set_option maxHeartbeats 2000000
/-! Ev, part I: statements. -/
namespace Ev
open PySem PySem.Spec PyProof.Rows L2
/-- a returned object that nobody else holds -/
def FrR (T : Tb) (w : Wo) (v : V) (d : D) : Prop := ∃ p, v = .ref p ∧ w.F p = none ∧ w.Pr p = none ∧ p ∉ w.m ∧ Ob T w.m w.F w.H p d
def RtV (T : Tb) (fr : Bool) (w : Wo) (v : V) (d : D) : Prop := if fr = true then FrR T w v d else Fz T w.m w.F v d
/-- what is wanted behind a statement -/
def PostS (T : Tb) (Wx : WX) (w : Wo) (E : L2.Ends) : RS → Prop
  | .nx a h => ∀ σ' w', w.le w' → w'.hh = h → RepH T w' → RepS T w' a σ' → E.nx σ' w'.H
  | .ret d fr h => ∀ v w', w.le w' → w'.hh = h → RepH T w' → RtV T fr w' v d → E.rt v w'.H
  | .exc c ds a h => ∀ dA σ' w', w.le w' → w'.hh = h → RepH T w' → RepS T w' a σ' → XAt T w' dA c ds → Wx (.ref (T.xcls c)) dA σ' w'.H
  | .bad => False
def tS (T : Tb) (Wx : WX) (Φ : List SL → List D → RS) : L2.TS := fun E σ H => ∃ w a, w.H = H ∧ RepH T w ∧ RepS T w a σ ∧ PostS T Wx w E (Φ a w.hh)
abbrev DS (T : Tb) (Wx : WX) (X : Cx) (st : Stmt) (Φ : List SL → List D → RS) : Prop := PS X st (tS T Wx Φ)
abbrev DSs (T : Tb) (Wx : WX) (X : Cx) (sts : List Stmt) (Φ : List SL → List D → RS) : Prop := PSs X sts (tS T Wx Φ)
section
variable {α β : Type} {T : Tb} {Wx : WX} {a : List SL} {σ : Ev.St} {w w' : Wo} {E E' : L2.Ends} {Rel : Wo → β → α → Prop}
theorem PostS.mono {r : RS} (le : w.le w') (h : PostS T Wx w E r) : PostS T Wx w' E r := by
  cases r with
  | nx a hh => exact fun σ w2 l => h σ w2 (le.trans l)
  | ret d fr hh => exact fun v w2 l => h v w2 (le.trans l)
  | exc c ds a hh => exact fun dA σ w2 l => h dA σ w2 (le.trans l)
  | bad => exact h
theorem PostS.ends {r : RS} (h : PostS T Wx w E r) (hn : E'.nx = E.nx) (hr : E'.rt = E.rt) : PostS T Wx w E' r := by
  cases r with
  | nx a hh => exact fun σ w2 l e1 e2 e3 => by rw [hn]; exact h σ w2 l e1 e2 e3
  | ret d fr hh => exact fun v w2 l e1 e2 e3 => by rw [hr]; exact h v w2 l e1 e2 e3
  | exc c ds a hh => exact h
  | bad => exact h
theorem PostS.seq {r : RS} {f : List SL → List D → RS} (h : PostS T Wx w E (r.seq f)) (hr : E'.rt = E.rt)
    (hn : ∀ σ' w' a', w.le w' → RepH T w' → RepS T w' a' σ' → PostS T Wx w' E (f a' w'.hh) → E'.nx σ' w'.H) : PostS T Wx w E' r := by
  cases r with
  | nx a hh => exact fun σ w2 l e1 e2 e3 => hn σ w2 a l e2 e3 (by rw [e1]; exact PostS.mono l h)
  | ret d fr hh => exact fun v w2 l e1 e2 e3 => by rw [hr]; exact h v w2 l e1 e2 e3
  | exc c ds a hh => exact h
  | bad => exact h
theorem PostS.thenS {r : RE α} {f : α → List D → RS} (h : PostS T Wx w E (r.thenS a f)) : Post T Wx a σ w Rel (Mid T a σ w Rel fun w1 _ d => PostS T Wx w1 E (f d w1.hh)) r := by
  cases r with
  | ok d hh => exact fun v w2 l e1 e2 e3 e4 => ⟨w2, d, l, rfl, e2, e3, e4, by subst e1; exact PostS.mono l h⟩
  | exc c ds hh => exact fun dA w2 l e1 e2 e3 e4 => h dA σ w2 l e1 e2 e3 e4
  | bad => exact h
theorem PostS.next (h : PostS T Wx w E (.nx a w.hh)) (RH : RepH T w) (RS : RepS T w a σ) : E.nx σ w.H := h σ w (.refl _) rfl RH RS
end
section
variable {T : Tb} {Wx : WX} {X : Cx} {st : Stmt} {rest : List Stmt} {x y : Expr} {es : List Expr} {pos : Pos} {Φ Ψ Θ : List SL → List D → RE D} {ΦB : List SL → List D → RE Bool} {ΦS ΨS : List SL → List D → RS} {Φs : List SL → List D → RE (List D)}
theorem dss_nil : DSs T Wx X [] (fun a h => .nx a h) := by
  refine pss_imp pss_nil fun E σ H ⟨w, a, e, RH, RS, p⟩ => ?_
  show E.nx σ H
  rw [← e]
  exact p.next RH RS
theorem dss_cons (h1 : DS T Wx X st ΦS) (h2 : DSs T Wx X rest ΨS) : DSs T Wx X (st :: rest) (fun a h => (ΦS a h).seq ΨS) := by
  refine pss_imp (pss_cons h1 h2) fun E σ H ⟨w, a, e, RH, RS, p⟩ => ⟨w, a, e, RH, RS, ?_⟩
  exact p.seq rfl fun σ' w' a' le RH' RS' q => ⟨w', a', rfl, RH', RS', q⟩
theorem ds_pass : DS T Wx X (.Pass pos) (fun a h => .nx a h) := by
  refine ps_imp ps_pass fun E σ H ⟨w, a, e, RH, RS, p⟩ => ?_
  show E.nx σ H
  rw [← e]
  exact p.next RH RS
theorem ds_exp (h : DE T Wx X x Φ) (hl : lcE x = true) : DS T Wx X (.Expr x pos) (fun a h => (Φ a h).thenS a fun _ h1 => .nx a h1) := by
  refine ps_imp (ps_expr h (swaps_lc hl _ _)) fun E σ H ⟨w, a, e, RH, RS, p⟩ => ⟨w, a, e, RH, RS, ?_⟩
  refine (p.thenS (Rel := rF T a σ)).imp fun v H1 ⟨w1, d, le, eH, RH1, RS1, f1, q⟩ => ?_
  rw [← eH]
  exact q.next RH1 RS1
theorem ds_ret (h : DE T Wx X x Φ) : DS T Wx X (.Return (some x) pos) (fun a h => (Φ a h).thenS a fun d h1 => .ret d false h1) := by
  refine ps_imp (ps_ret h) fun E σ H ⟨w, a, e, RH, RS, p⟩ => ⟨w, a, e, RH, RS, ?_⟩
  refine (p.thenS (Rel := rF T a σ)).imp fun v H1 ⟨w1, d, le, eH, RH1, RS1, f1, q⟩ => ?_
  rw [← eH]
  exact q v w1 (.refl _) rfl RH1 (by rw [RtV, if_neg Bool.false_ne_true]; exact f1)
theorem ds_retN : DS T Wx X (.Return none pos) (fun _ h => .ret .non false h) := by
  refine ps_imp ps_retN fun E σ H ⟨w, a, e, RH, RS, p⟩ => ?_
  show E.rt .non H
  rw [← e]
  exact p _ w (.refl _) rfl RH (by rw [RtV, if_neg Bool.false_ne_true]; exact .non)
theorem ds_retM {i : Nat} {z : PySem.Str} (hN : X.N[i]? = some z) (hv : Vis X.env.scope z) (hd : (z == ("__debug__" : PySem.Str)) = false) (hcd : (z == ("__classdict__" : PySem.Str)) = false) {p2 : Pos} :
    DS T Wx X (.Return (some (.Name z p2)) pos) (fun a h => match a[i]? with
      | some (.ow d) => .ret d true h
      | _ => .bad) := by
  refine ps_imp (ps_ret (pe_var hN hv hd hcd)) fun E σ H ⟨w, a, e, RH, RS, p⟩ => ?_
  dsimp only at p
  split at p
  · rename_i d hd
    obtain ⟨q, h1, h2, h3, h4, h5⟩ := RS.sl i _ hd
    refine ⟨_, h1, ?_⟩
    rw [← e]
    exact p _ w (.refl _) rfl RH (by rw [RtV, if_pos rfl]; exact ⟨q, rfl, h2, h3, h4, h5⟩)
  · exact p.elim
/-! ### names -/
theorem RepS.setO {a : List SL} {σ : Ev.St} {w : Wo} {i : Nat} {d : D} {v : V} (hi : i ≠ 0) (RS : RepS T w a σ) (f : Fr T a σ w v d) : RepS T w (a.set i (.ow d)) (σ.set i (some v)) := by
  obtain ⟨p, rfl, h1, h2, h3, h4, h5⟩ := f
  refine ⟨by simp [RS.ln], fun j s e => ?_, fun j k x y q e1 e2 e3 e4 => ?_, fun y x e1 e2 => ?_⟩
  · rw [List.getElem?_set] at e ⊢
    split at e
    · rename_i h
      subst h
      split at e
      · rename_i hl
        cases e
        rw [if_pos rfl, if_pos (by rw [← RS.ln]; exact hl)]
        exact ⟨p, rfl, h1, h2, h3, h5⟩
      · cases e
    · rename_i h
      rw [if_neg h]
      exact RS.sl j s e
  · rw [List.getElem?_set] at e1 e2 e3 e4
    by_cases n1 : i = j
    · by_cases n2 : i = k
      · exact n1.symm.trans n2
      · rw [if_neg n2] at e2 e4
        rw [if_pos n1] at e3
        split at e3
        · cases e3
          exact absurd rfl (h4 p ⟨k, y, e2, e4⟩)
        · cases e3
    · rw [if_neg n1] at e1 e3
      by_cases n2 : i = k
      · rw [if_pos n2] at e4
        split at e4
        · cases e4
          exact absurd rfl (h4 p ⟨j, x, e1, e3⟩)
        · cases e4
      · rw [if_neg n2] at e2 e4
        exact RS.oo j k x y q e1 e2 e3 e4
  · rw [List.getElem?_set_ne hi] at e2 ⊢
    exact RS.me y x e1 e2
/-- what is asked of a name that is set -/
structure NmOk (X : Cx) (i : Nat) (z : PySem.Str) : Prop where
  at_ : X.N[i]? = some z
  loc : Loc X.env.scope z
  fn : X.fn z = true ∨ X.env.scope.names.lookup z = some .local
theorem ds_asg {i : Nat} {z : PySem.Str} {p2 : Pos} (hN : X.N.Nodup) (hz : NmOk X i z) (h : DE T Wx X x Φ) (hs : swapsWith x (some (.Name z p2)) pos.line X.env = pure false) :
    DS T Wx X (.Assign [.Name z p2] x pos) (fun a h => (Φ a h).thenS a fun d h1 => .nx (a.set i (.pu d)) h1) := by
  refine ps_imp (ps_set hN hz.at_ hz.loc h hs hz.fn) fun E σ H ⟨w, a, e, RH, RS, p⟩ => ⟨w, a, e, RH, RS, ?_⟩
  refine (p.thenS (Rel := rF T a σ)).imp fun v H1 ⟨w1, d, le, eH, RH1, RS1, f1, q⟩ => ?_
  show E.nx (σ.set i (some v)) H1
  rw [← eH]
  exact q _ w1 (.refl _) rfl RH1 (RS1.set f1)
theorem ds_asgM {i : Nat} {z : PySem.Str} {p2 : Pos} (hi : i ≠ 0) (hN : X.N.Nodup) (hz : NmOk X i z) (h : DF T Wx X x Φ) (hs : swapsWith x (some (.Name z p2)) pos.line X.env = pure false) :
    DS T Wx X (.Assign [.Name z p2] x pos) (fun a h => (Φ a h).thenS a fun d h1 => .nx (a.set i (.ow d)) h1) := by
  refine ps_imp (ps_set hN hz.at_ hz.loc h hs hz.fn) fun E σ H ⟨w, a, e, RH, RS, p⟩ => ⟨w, a, e, RH, RS, ?_⟩
  refine (p.thenS (Rel := Fr T a σ)).imp fun v H1 ⟨w1, d, le, eH, RH1, RS1, f1, q⟩ => ?_
  show E.nx (σ.set i (some v)) H1
  rw [← eH]
  exact q _ w1 (.refl _) rfl RH1 (RS1.setO hi f1)
/-- an object of ours is shared from now on -/
theorem share_ok {a : List SL} {σ : Ev.St} {w : Wo} {v : V} {d : D} (RH : RepH T w) (RS : RepS T w a σ) (f : Fr T a σ w v d) : ∃ w', w.le w' ∧ w'.H = w.H ∧ w'.hh = w.hh ++ [d] ∧ RepH T w' ∧ RepS T w' a σ ∧ Fz T w'.m w'.F v (.loc w.hh.length) := by
  obtain ⟨p, rfl, h1, h2, h3, h4, h5⟩ := f
  have hm : ∀ (n : Nat) (q : Addr), w.m[n]? = some q → (w.m ++ [p])[n]? = some q := fun n q e => by
    rw [List.getElem?_append_left (List.getElem?_eq_some_iff.mp e).1]; exact e
  have le : w.le { w with m := w.m ++ [p], hh := w.hh ++ [d] } := ⟨rfl, rfl, fun _ _ z => z, hm, rfl⟩
  refine ⟨{ w with m := w.m ++ [p], hh := w.hh ++ [d] }, le, rfl, rfl, ⟨RH.sub, RH.pr, RH.fp, RH.f0, fun q hq => ?_, ?_, ?_, fun n q e e1 e2 => ?_⟩, RS.mono le fun q hq => ⟨rfl, (RS.own hq).1, fun z => ?_⟩, .loc ?_⟩
  · rcases List.mem_append.mp hq with z | z
    · exact RH.mp q z
    · rw [List.mem_singleton.mp z]; exact h2
  · show (w.m ++ [p]).length = (w.hh ++ [d]).length
    rw [List.length_append, List.length_append, RH.ml]; rfl
  · show (w.m ++ [p]).Nodup
    rw [List.nodup_append]
    refine ⟨RH.nd, by simp, fun q hq r hr z => ?_⟩
    rw [List.mem_singleton] at hr
    subst hr z
    exact h3 hq
  · have e1 : (w.m ++ [p])[n]? = some q := e1
    have e2 : (w.hh ++ [d])[n]? = some e := e2
    by_cases hn : n < w.m.length
    · rw [List.getElem?_append_left hn] at e1
      rw [List.getElem?_append_left (by rw [← RH.ml]; exact hn)] at e2
      obtain ⟨k1, k2⟩ := RH.lo n q e e1 e2
      exact ⟨k1, k2.mono (fun _ _ z => z) hm rfl⟩
    · rw [List.getElem?_append_right (by omega)] at e1
      rw [List.getElem?_append_right (by rw [← RH.ml]; omega), ← RH.ml] at e2
      have hl : n - w.m.length = 0 := by
        have := (List.getElem?_eq_some_iff.mp e1).1
        simpa using this
      rw [hl] at e1 e2
      cases e1; cases e2
      exact ⟨h1, h5.mono (fun _ _ z => z) hm rfl⟩
  · rcases List.mem_append.mp z with z | z
    · exact (RS.own hq).2.2.1 z
    · exact h4 q hq (List.mem_singleton.mp z)
  · show (w.m ++ [p])[w.hh.length]? = some p
    rw [List.getElem?_append_right (by rw [RH.ml]; exact Nat.le_refl _), RH.ml, Nat.sub_self]
    rfl
theorem ds_asgL {i : Nat} {z : PySem.Str} {p2 : Pos} (hN : X.N.Nodup) (hz : NmOk X i z) (h : DF T Wx X x Φ) (hs : swapsWith x (some (.Name z p2)) pos.line X.env = pure false) :
    DS T Wx X (.Assign [.Name z p2] x pos) (fun a h => (Φ a h).thenS a fun d h1 => .nx (a.set i (.pu (.loc h1.length))) (h1 ++ [d])) := by
  refine ps_imp (ps_set hN hz.at_ hz.loc h hs hz.fn) fun E σ H ⟨w, a, e, RH, RS, p⟩ => ⟨w, a, e, RH, RS, ?_⟩
  refine (p.thenS (Rel := Fr T a σ)).imp fun v H1 ⟨w1, d, le, eH, RH1, RS1, f1, q⟩ => ?_
  show E.nx (σ.set i (some v)) H1
  obtain ⟨w2, k1, k2, k3, k4, k5, k6⟩ := share_ok RH1 RS1 f1
  rw [← eH, ← k2]
  exact q _ w2 k1 k3 k4 (k5.set k6)
/-! ### ifs and loops -/
theorem ds_ifs {p q : List Stmt} (hc : DT T Wx X x ΦB) (h1 : DSs T Wx X p ΦS) (h2 : DSs T Wx X q ΨS) : DS T Wx X (.If x p q pos) (fun a h => (ΦB a h).thenS a fun b h1 => if b then ΦS a h1 else ΨS a h1) := by
  refine ps_imp (ps_if hc h1 h2) fun E σ H ⟨w, a, e, RH, RS, p⟩ => ⟨w, a, e, RH, RS, ?_⟩
  refine (p.thenS (Rel := fun _ (b : Bool) (c : Bool) => b = c)).imp fun v H1 ⟨w1, d, le, eH, RH1, RS1, f1, q⟩ => ?_
  subst f1
  cases v with
  | true => exact ⟨w1, a, eH, RH1, RS1, q⟩
  | false => exact ⟨w1, a, eH, RH1, RS1, q⟩
theorem ds_whl {n : Nat} {body : List Stmt} (hp : PassesOwn (model X.prog X.w) X.A X.env X.xe) (hc : DT T Wx X x ΦB) (hb : DSs T Wx X body ΦS) :
    DS T Wx X (.While x body [] pos) (fun a h => whlL ΦB ΦS n a h) := by
  refine ps_imp (ps_while hp hc hb) fun E σ H ⟨w, a, e, RH, RS, p⟩ => ?_
  refine ⟨fun m σ H => ∃ w a, w.H = H ∧ RepH T w ∧ RepS T w a σ ∧ PostS T Wx w E (whlL ΦB ΦS m a w.hh), ⟨n, w, a, e, RH, RS, p⟩, fun m σ H ⟨w, a, e, RH, RS, p⟩ => ?_⟩
  cases m with
  | zero => exact p.elim
  | succ m =>
    refine ⟨w, a, e, RH, RS, ?_⟩
    refine (PostS.thenS (Rel := fun _ (b : Bool) (c : Bool) => b = c) (show PostS T Wx w E ((ΦB a w.hh).thenS a fun t h1 => if t then (ΦS a h1).seq (whlL ΦB ΦS m) else .nx a h1) from p)).imp fun v H1 ⟨w1, d, le, eH, RH1, RS1, f1, q⟩ => ?_
    subst f1
    cases v with
    | true =>
      rw [if_pos rfl]
      refine ⟨fun σ H => ∃ w a, w.H = H ∧ RepH T w ∧ RepS T w a σ ∧ PostS T Wx w E (whlL ΦB ΦS m a w.hh), fun σ' H' h => ⟨m, Nat.lt_succ_self m, h⟩, w1, a, eH, RH1, RS1, ?_⟩
      rw [if_pos rfl] at q
      exact q.seq rfl fun σ' w' a' l RH' RS' q2 => ⟨w', a', rfl, RH', RS', q2⟩
    | false =>
      rw [if_neg Bool.false_ne_true]
      rw [if_neg Bool.false_ne_true] at q
      rw [← eH]
      exact q.next RH1 RS1
theorem ds_for {tg it : Expr} {t : Tg} {body : List Stmt} {Φl : List SL → List D → RE (List D)} (hp : PassesOwn (model X.prog X.w) X.A X.env X.xe) (hc : X.calm = true) (hi : DI T Wx X false tg it Φl) (hg : PG X tg (tGt T t)) (hb : DSs T Wx X body ΦS)
    (hs : ∀ x, foldedSetIterable it X.env x = pure x) :
    DS T Wx X (.For tg it body [] pos) (fun a h => (Φl a h).thenS a fun l h1 => forL (fun d a h => match asgTg t d a with
      | some a1 => ΦS a1 h
      | none => .bad) l a h1) := by
  refine ps_imp (ps_for hp hc hi hg hb hs) fun E σ H ⟨w, a, e, RH, RS, p⟩ => ⟨w, a, e, RH, RS, ?_⟩
  refine (p.thenS (Rel := ItRel T false a σ)).imp fun J H1 ⟨w1, ds, le, eH, RH1, RS1, ⟨Gs, IO, _, hG⟩, q⟩ => ?_
  have hG := hG rfl
  dsimp only at q
  refine ⟨fun i m σ H => m = ds.length - i ∧ i ≤ ds.length ∧ ∃ w2 a2, w1.le w2 ∧ w2.H = H ∧ RepH T w2 ∧ RepS T w2 a2 σ ∧ PostS T Wx w2 E (forL (fun d a h => match asgTg t d a with
      | some a1 => ΦS a1 h
      | none => .bad) (ds.drop i) a2 w2.hh), ⟨ds.length, rfl, Nat.zero_le _, w1, a, .refl _, eH, RH1, RS1, q⟩, ?_⟩
  rintro i m σ H ⟨rfl, hi, w2, a2, le2, rfl, RH2, RS2, q2⟩
  by_cases hlt : i < ds.length
  · refine .inr ⟨IO.go w2 i le2.sub RH2 (hG w2 le2.sub RH2) hlt, fun σ H => i + 1 ≤ ds.length ∧ ∃ w2 a2, w1.le w2 ∧ w2.H = H ∧ RepH T w2 ∧ RepS T w2 a2 σ ∧ PostS T Wx w2 E (forL (fun d a h => match asgTg t d a with
      | some a1 => ΦS a1 h
      | none => .bad) (ds.drop (i + 1)) a2 w2.hh), fun σ' H' hh => ⟨ds.length - (i + 1), by omega, rfl, hh.1, hh.2⟩, fun x H' y => ?_⟩
    obtain ⟨w3, le3, rfl, hh3, RH3, S3, d, hd3, fz3⟩ := IO.yld w2 i x H' le2.sub RH2 (hG w2 le2.sub RH2) hlt y
    have hdrop : ds.drop i = d :: ds.drop (i + 1) := by
      rw [List.drop_eq_getElem_cons hlt]
      congr 1
      rw [List.getElem?_eq_getElem hlt] at hd3
      exact Option.some.inj hd3
    rw [hdrop, ← hh3] at q2
    cases ht : asgTg t d a2 with
    | none =>
      have q2 : PostS T Wx w2 E ((match asgTg t d a2 with
        | some a1 => ΦS a1 w3.hh
        | none => .bad).seq _) := q2
      rw [ht] at q2
      exact q2.elim
    | some a1 =>
      have q2 : PostS T Wx w2 E ((match asgTg t d a2 with
        | some a1 => ΦS a1 w3.hh
        | none => .bad).seq (forL (fun d a h => match asgTg t d a with
          | some a1 => ΦS a1 h
          | none => .bad) (ds.drop (i + 1)))) := q2
      rw [ht] at q2
      have q3 := PostS.mono le3 q2
      refine ⟨w3, a2, d, a1, rfl, RH3, S3 _ _ RS2, fz3, ht, fun σ1 RS4 sm => ⟨w3, a1, rfl, RH3, RS4, ?_⟩⟩
      exact q3.seq rfl fun σ' w' a' l RH' RS' q4 => ⟨hlt, w', a', (le2.trans le3).trans l, rfl, RH', RS', q4⟩
  · have e : i = ds.length := by omega
    subst e
    rw [List.drop_length] at q2
    exact .inl ⟨IO.stop w2 le2.sub RH2 (hG w2 le2.sub RH2), q2.next RH2 RS2⟩
/-! ### targets and pairs -/
theorem ds_asgT {tg : Expr} {t : Tg} (h : DE T Wx X x Φ) (hl : lcE x = true) (hg : PG X tg (tGt T t)) (hw : swappedStores [tg] x X.env = pure none) (h1 : (assignEach [tg] X.env).map (·.2) = [assign tg X.env]) :
    DS T Wx X (.Assign [tg] x pos) (fun a h => (Φ a h).thenS a fun d h1 => match asgTg t d a with
      | some a1 => .nx a1 h1
      | none => .bad) := by
  refine ps_imp (ps_asg h hg (swapsS_lc hl _ _) hw h1) fun E σ H ⟨w, a, e, RH, RS, p⟩ => ⟨w, a, e, RH, RS, ?_⟩
  refine (p.thenS (Rel := rF T a σ)).imp fun v H1 ⟨w1, d, le, eH, RH1, RS1, f1, q⟩ => ?_
  dsimp only at q
  cases ht : asgTg t d a with
  | none => rw [ht] at q; exact q.elim
  | some a1 =>
    rw [ht] at q
    refine ⟨w1, a, d, a1, eH, RH1, RS1, f1, ht, fun σ1 RS4 sm => ?_⟩
    rw [← eH]
    exact q.next RH1 RS4
def lenTg : Tg → Nat
  | .cons _ r => lenTg r + 1
  | _ => 0
theorem asgTgs_len : ∀ {t : Tg} {l : List D} {a a1 : List SL}, asgTgs t l a = some a1 → l.length = lenTg t
  | .name i, l, a, a1, h => by cases l <;> simp [asgTgs] at h
  | .nil, [], a, a1, h => rfl
  | .nil, x :: l, a, a1, h => by simp [asgTgs] at h
  | .cons t r, [], a, a1, h => by simp [asgTgs] at h
  | .cons t r, x :: l, a, a1, h => by
    rw [asgTgs] at h
    obtain ⟨a2, h1, h2⟩ := Option.bind_eq_some_iff.mp h
    rw [List.length_cons, asgTgs_len h2]; rfl
theorem ds_asgP {tg : Expr} {t r : Tg} {k : Nat} {p2 : Pos} (h : DA T Wx X es Φs) (hsz : szOk (lenTg (.cons t r)) = true) (hg : PG X tg (tGt T (.cons t r))) (hw : swappedStores [tg] (.Tuple es k p2) X.env = pure none) (h1 : (assignEach [tg] X.env).map (·.2) = [assign tg X.env]) :
    DS T Wx X (.Assign [tg] (.Tuple es k p2) pos) (fun a h => (Φs a h).thenS a fun l h1 => match asgTgs (.cons t r) l a with
      | some a1 => .nx a1 h1
      | none => .bad) := by
  refine ps_imp (ds_asgT (Φ := fun a hh => (Φs a hh).bind fun l h1 => if szOk l.length then .ok (.tup l) h1 else .bad) (de_of_dp (de_tup h)) rfl hg hw h1) fun E σ H ⟨w, a, e, RH, RS, p⟩ => ⟨w, a, e, RH, RS, ?_⟩
  dsimp only at p ⊢
  cases q : Φs a w.hh with
  | ok l hh =>
    rw [q, RE.thenS_ok] at p
    rw [RE.bind_ok]
    cases ht : asgTgs (.cons t r) l a with
    | none => rw [ht] at p; exact p.elim
    | some a1 =>
      rw [ht] at p
      have hl := asgTgs_len ht
      rw [if_pos (by rw [hl]; exact hsz), RE.thenS_ok]
      have : asgTg (.cons t r) (.tup l) a = some a1 := by
        cases l with
        | nil => simp [asgTgs] at ht
        | cons x l => rw [asgTg]; rw [asgTgs] at ht; exact ht
      rw [this]
      exact p
  | exc c ds hh => rw [q] at p; exact p
  | bad => rw [q] at p; exact p.elim
theorem ds_par {i j : Nat} {z1 z2 : PySem.Str} {x y : Expr} {p1 p2 p3 : Pos} {k1 k2 p4} (hc : X.calm = true) (hN : X.N.Nodup) (hi : X.N[i]? = some z1) (hj : X.N[j]? = some z2) (hij : i ≠ j) (l1 : X.env.scope.names.lookup z1 = some .local) (l2 : X.env.scope.names.lookup z2 = some .local) (h : DA T Wx X [x, y] Φs)
    (hw : swappedStores [.Tuple [.Name z1 p1, .Name z2 p2] k1 p3] (.Tuple [x, y] k2 p4) X.env = pure (some [z1, z2])) :
    DS T Wx X (.Assign [.Tuple [.Name z1 p1, .Name z2 p2] k1 p3] (.Tuple [x, y] k2 p4) pos) (fun a h => (Φs a h).thenS a fun l h1 => match asgTgs (.cons (.name i) (.cons (.name j) .nil)) l a with
      | some a1 => .nx a1 h1
      | none => .bad) := by
  refine ps_imp (ps_par hc hN hi hj hij l1 l2 h hw rfl) fun E σ H ⟨w, a, e, RH, RS, p⟩ => ⟨w, a, e, RH, RS, ?_⟩
  refine (p.thenS (Rel := rFL T a σ)).imp fun vs H1 ⟨w1, ds, le, eH, RH1, RS1, f1, q⟩ => ?_
  dsimp only at q
  match ds, f1, q with
  | [], f1, q => simp [asgTgs] at q; exact q.elim
  | [d], f1, q => simp [asgTgs, asgTg] at q; exact q.elim
  | d :: d2 :: d3 :: ds, f1, q => simp [asgTgs, asgTg] at q; exact q.elim
  | [d, d2], f1, q =>
    obtain ⟨v, r, rfl, g1, f2⟩ := f1.uncons
    obtain ⟨u, r, rfl, g2, f3⟩ := f2.uncons
    cases f3.unnil
    simp only [asgTgs, asgTg, Option.bind_some] at q
    refine ⟨v, u, rfl, ?_⟩
    rw [← eH]
    exact q.next RH1 ((RS1.set g1).set g2)
theorem ds_par3 {i j l : Nat} {z1 z2 z3 : PySem.Str} {x y z : Expr} {p1 p2 p3 p5 : Pos} {k1 k2 p4} (hc : X.calm = true) (hN : X.N.Nodup) (hi : X.N[i]? = some z1) (hj : X.N[j]? = some z2) (hl : X.N[l]? = some z3) (hij : i ≠ j) (hil : i ≠ l) (hjl : j ≠ l) (l1 : X.env.scope.names.lookup z1 = some .local) (l2 : X.env.scope.names.lookup z2 = some .local)
    (l3 : X.env.scope.names.lookup z3 = some .local) (h : DA T Wx X [x, y, z] Φs) (hw : swappedStores [.Tuple [.Name z1 p1, .Name z2 p2, .Name z3 p5] k1 p3] (.Tuple [x, y, z] k2 p4) X.env = pure (some [z1, z2, z3])) :
    DS T Wx X (.Assign [.Tuple [.Name z1 p1, .Name z2 p2, .Name z3 p5] k1 p3] (.Tuple [x, y, z] k2 p4) pos) (fun a h => (Φs a h).thenS a fun l0 h1 => match asgTgs (.cons (.name i) (.cons (.name j) (.cons (.name l) .nil))) l0 a with
      | some a1 => .nx a1 h1
      | none => .bad) := by
  refine ps_imp (ps_par3 hc hN hi hj hl hij hil hjl l1 l2 l3 h hw rfl) fun E σ H ⟨w, a, e, RH, RS, p⟩ => ⟨w, a, e, RH, RS, ?_⟩
  refine (p.thenS (Rel := rFL T a σ)).imp fun vs H1 ⟨w1, ds, le, eH, RH1, RS1, f1, q⟩ => ?_
  dsimp only at q
  match ds, f1, q with
  | [], f1, q => simp [asgTgs] at q; exact q.elim
  | [d], f1, q => simp [asgTgs, asgTg] at q; exact q.elim
  | [d, d2], f1, q => simp [asgTgs, asgTg] at q; exact q.elim
  | d :: d2 :: d3 :: d4 :: ds, f1, q => simp [asgTgs, asgTg] at q; exact q.elim
  | [d, d2, d3], f1, q =>
    obtain ⟨v, r, rfl, g1, f2⟩ := f1.uncons
    obtain ⟨u, r, rfl, g2, f3⟩ := f2.uncons
    obtain ⟨t, r, rfl, g3, f4⟩ := f3.uncons
    cases f4.unnil
    simp only [asgTgs, asgTg, Option.bind_some] at q
    refine ⟨v, u, t, rfl, ?_⟩
    rw [← eH]
    exact q.next RH1 (((RS1.set g1).set g2).set g3)
/-! ### op= -/
theorem ds_aug {i : Nat} {z : PySem.Str} {p2 : Pos} {op : Bop} (ho : op = .add ∨ op = .sub) (hN : X.N.Nodup) (hz : NmOk X i z) (h : DE T Wx X x Φ) :
    DS T Wx X (.AugAssign (.Name z p2) (opP op) x pos) (fun a h => match a[i]? with
      | some (.pu (.int d)) => (Φ a h).thenS a fun v h1 => match opB op (.int d) v with
        | some r => .nx (a.set i (.pu r)) h1
        | none => .bad
      | _ => .bad) := by
  have key : ∀ (f : Int → Int → Int), PIp X (opP op) (ipI f) → (∀ i j, opB op (.int i) (.int j) = some (.int (f i j))) → (∀ i v r, opB op (.int i) v = some r → ∃ j, v = .int j) → DS T Wx X (.AugAssign (.Name z p2) (opP op) x pos) (fun a h => match a[i]? with
      | some (.pu (.int d)) => (Φ a h).thenS a fun v h1 => match opB op (.int d) v with
        | some r => .nx (a.set i (.pu r)) h1
        | none => .bad
      | _ => .bad) := fun f hp hf hg => by
    refine ps_imp (ps_aug hN hz.at_ hz.loc h hp hz.fn) fun E σ H ⟨w, a, e, RH, RS, p⟩ => ?_
    dsimp only at p
    split at p
    · rename_i d hd
      obtain ⟨v, h1, h2⟩ := RS.sl i _ hd
      cases h2
      refine ⟨_, h1, w, a, e, RH, RS, ?_⟩
      refine (p.thenS (Rel := rF T a σ)).imp fun v H1 ⟨w1, d2, le, eH, RH1, RS1, f1, q⟩ => ?_
      dsimp only at q
      cases ho : opB op (.int d) d2 with
      | none => rw [ho] at q; exact q.elim
      | some r =>
        obtain ⟨j, rfl⟩ := hg _ _ _ ho
        rw [hf] at ho
        cases ho
        rw [hf] at q
        cases f1
        refine ⟨_, _, rfl, rfl, ?_⟩
        rw [← eH]
        exact q.next RH1 (RS1.set (.int _))
    · exact p.elim
  rcases ho with rfl | rfl
  · refine key _ ip_add (fun i j => rfl) fun i v r h => ?_
    unfold opB at h
    split at h <;> first | contradiction | exact ⟨_, rfl⟩ | skip
    all_goals (rename_i e1 e2; cases e2)
  · refine key _ ip_sub (fun i j => rfl) fun i v r h => ?_
    unfold opB at h
    split at h <;> first | contradiction | exact ⟨_, rfl⟩ | skip
    all_goals (rename_i e1 e2; cases e2)
end
end Ev
end
section
set_option Elab.async false
set_option linter.all false
set_option maxRecDepth 100000
set_option maxHeartbeats 2000000
/-! Ev, part J: stores into objects. -/
namespace Ev
open PySem PySem.Spec PyProof.Rows L2
section
variable {T : Tb} {Wx : WX} {X : Cx} {st : Stmt} {x y : Expr} {es : List Expr} {pos : Pos} {Φ Ψ Θ : List SL → List D → RE D} {ΦR : List SL → List D → RE RV}
/-- the object that a slot holds, or names -/
def Tgt (T : Tb) (a : List SL) (σ : Ev.St) (w : Wo) (i : Nat) (p : Addr) (d : D) : Prop := σ[i]? = some (some (.ref p)) ∧ Ob T w.m w.F w.H p d ∧ (a[i]? = some (.ow d) ∨ ∃ n, a[i]? = some (.pu (.loc n)) ∧ w.m[n]? = some p ∧ w.hh[n]? = some d)
/-- it is written anew -/
theorem Tgt.put {a : List SL} {σ : Ev.St} {w : Wo} {i : Nat} {p : Addr} {d d' : D} {o : HO} {E : L2.Ends} {f : D → Option D} (RH : RepH T w) (RS : RepS T w a σ) (ht : Tgt T a σ w i p d) (hf : f d = some d') (ob : Ob T w.m w.F (upd w.H p o) p d')
    (h : PostS T Wx w E (mutS a w.hh i f)) : E.nx σ (upd w.H p o) := by
  obtain ⟨e1, ob0, h0 | ⟨n, h0, hm, hd⟩⟩ := ht
  · obtain ⟨q, e2, k1, k2, k3, k4⟩ := RS.sl i _ h0
    rw [e1] at e2
    cases e2
    unfold mutS at h
    simp only [h0, hf] at h
    have le : w.le { w with H := upd w.H p o } := ⟨rfl, rfl, fun _ _ z => z, fun _ _ z => z, rfl⟩
    refine h σ { w with H := upd w.H p o } le rfl ⟨fun q u e => ?_, fun q u e => ?_, RH.fp, RH.f0, RH.mp, RH.ml, RH.nd, fun m q e g1 g2 => ?_⟩ ⟨?_, fun j s e => ?_, fun j k x y q g1 g2 g3 g4 => ?_, fun y x g1 g2 => ?_⟩
    · show upd w.H p o q = some u
      rw [upd_ne (fun z => by rw [z, k1] at e; cases e)]; exact RH.sub _ _ e
    · show upd w.H p o q = some u
      rw [upd_ne (fun z => by rw [z, k2] at e; cases e)]; exact RH.pr _ _ e
    · obtain ⟨r1, r2⟩ := RH.lo m q e g1 g2
      exact ⟨r1, r2.mono (fun _ _ z => z) (fun _ _ z => z) (upd_ne (fun z => by subst z; exact k3 (List.mem_of_getElem? g1)))⟩
    · rw [List.length_set]; exact RS.ln
    · by_cases hj : j = i
      · subst hj
        rw [List.getElem?_set_self (List.getElem?_eq_some_iff.mp h0).1] at e
        cases e
        exact ⟨p, e1, k1, k2, k3, ob⟩
      · rw [List.getElem?_set_ne (Ne.symm hj)] at e
        have so := RS.sl j s e
        cases s with
        | no => trivial
        | pu d => exact so
        | ow d2 =>
          obtain ⟨q, r1, r2, r3, r4, r5⟩ := so
          have hne : q ≠ p := fun z => hj (RS.oo j i d2 d p e h0 (by rw [r1, z]) e1)
          exact ⟨q, r1, r2, r3, r4, r5.mono (fun _ _ z => z) (fun _ _ z => z) (upd_ne hne)⟩
        | bo d => exact so
        | ex c ds => exact so
    · have back : ∀ (j : Nat) (x : D), (a.set i (.ow d'))[j]? = some (.ow x) → ∃ x', a[j]? = some (.ow x') := fun j x e => by
        by_cases hj : j = i
        · exact ⟨d, by rw [hj]; exact h0⟩
        · rw [List.getElem?_set_ne (Ne.symm hj)] at e; exact ⟨x, e⟩
      obtain ⟨x', g1⟩ := back j x g1
      obtain ⟨y', g2⟩ := back k y g2
      exact RS.oo j k x' y' q g1 g2 g3 g4
    · by_cases hi : i = 0
      · subst hi
        exact RS.me d x g1 h0
      · rw [List.getElem?_set_ne hi] at g2
        exact RS.me y x g1 g2
  · unfold mutS at h
    simp only [h0, hd, Option.bind_some, hf] at h
    obtain ⟨k1, _⟩ := RH.lo n p d hm hd
    have k2 := RH.mp p (List.mem_of_getElem? hm)
    have le : w.le { w with H := upd w.H p o, hh := w.hh.set n d' } := ⟨rfl, rfl, fun _ _ z => z, fun _ _ z => z, rfl⟩
    refine h σ { w with H := upd w.H p o, hh := w.hh.set n d' } le rfl ⟨fun q u e => ?_, fun q u e => ?_, RH.fp, RH.f0, RH.mp, ?_, RH.nd, fun m q e g1 g2 => ?_⟩ (RS.mono le fun q hq => ⟨?_, (RS.own hq).1, (RS.own hq).2.2.1⟩)
    · show upd w.H p o q = some u
      rw [upd_ne (fun z => by rw [z, k1] at e; cases e)]; exact RH.sub _ _ e
    · show upd w.H p o q = some u
      rw [upd_ne (fun z => by rw [z, k2] at e; cases e)]; exact RH.pr _ _ e
    · show w.m.length = (w.hh.set n d').length
      rw [List.length_set]; exact RH.ml
    · by_cases hn : m = n
      · subst hn
        have g2 : (w.hh.set m d')[m]? = some e := g2
        rw [List.getElem?_set_self (List.getElem?_eq_some_iff.mp hd).1] at g2
        cases g2
        rw [hm] at g1
        cases g1
        exact ⟨k1, ob⟩
      · have g2 : (w.hh.set n d')[m]? = some e := g2
        rw [List.getElem?_set_ne (Ne.symm hn)] at g2
        obtain ⟨r1, r2⟩ := RH.lo m q e g1 g2
        refine ⟨r1, r2.mono (fun _ _ z => z) (fun _ _ z => z) (upd_ne fun z => ?_)⟩
        subst z
        exact hn ((List.getElem?_inj (List.getElem?_eq_some_iff.mp g1).1 RH.nd).mp (g1.trans hm.symm))
    · show upd w.H p o q = w.H q
      exact upd_ne (fun z => by subst z; exact (RS.own hq).2.2.1 (List.mem_of_getElem? hm))
/-- what a store was that went well -/
theorem mutS_tgt {a : List SL} {σ : Ev.St} {w : Wo} {i : Nat} {E : L2.Ends} {f : D → Option D} {v : V} (RH : RepH T w) (RS : RepS T w a σ) (hv : σ[i]? = some (some v)) (h : PostS T Wx w E (mutS a w.hh i f)) : ∃ p d d', v = .ref p ∧ Tgt T a σ w i p d ∧ f d = some d' := by
  unfold mutS at h
  split at h
  · rename_i d hd
    cases hf : f d with
    | none => rw [hf] at h; exact h.elim
    | some d' =>
      obtain ⟨p, e1, _, _, _, e5⟩ := RS.sl i _ hd
      rw [hv] at e1
      cases e1
      exact ⟨p, d, d', rfl, ⟨hv, e5, .inl hd⟩, hf⟩
  · rename_i n hn
    cases hd : w.hh[n]? with
    | none => rw [hd] at h; exact h.elim
    | some d =>
      rw [hd, Option.bind_some] at h
      cases hf : f d with
      | none => rw [hf] at h; exact h.elim
      | some d' =>
        obtain ⟨u, e1, e2⟩ := RS.sl i _ hn
        rw [hv] at e1
        cases e1
        cases e2 with
        | loc hm => exact ⟨_, d, d', rfl, ⟨hv, (RH.lo n _ d hm hd).2, .inr ⟨n, hn, hm, hd⟩⟩, hf⟩
  · exact h.elim
theorem lstAt_ty {a : List SL} {σ : Ev.St} {w : Wo} {i : Nat} (RH : RepH T w) (RS : RepS T w a σ) (h : lstAt a w.hh i = true) : ∃ p, σ[i]? = some (some (.ref p)) ∧ tyV X.K "list" (.ref p) w.H := by
  unfold lstAt at h
  split at h
  · rename_i l hl
    obtain ⟨p, e1, _, _, _, xs, e2, _⟩ := RS.sl i _ hl
    exact ⟨p, e1, .inl ⟨rfl, xs, .of e2⟩⟩
  · rename_i n hn
    split at h
    · rename_i l hl
      obtain ⟨u, e1, e2⟩ := RS.sl i _ hn
      cases e2 with
      | loc hm =>
        obtain ⟨_, xs, e3, _⟩ := RH.lo n _ _ hm hl
        exact ⟨_, e1, .inl ⟨rfl, xs, .of e3⟩⟩
    · exact absurd h Bool.false_ne_true
  · exact absurd h Bool.false_ne_true
/-- what is asked of a name that is read -/
structure RdOk (X : Cx) (i : Nat) (z : PySem.Str) : Prop where
  at_ : X.N[i]? = some z
  vis : Vis X.env.scope z
  d1 : (z == ("__debug__" : PySem.Str)) = false
  d2 : (z == ("__classdict__" : PySem.Str)) = false
theorem RdOk.pe {i : Nat} {z : PySem.Str} (h : RdOk X i z) {p : Pos} : PE X (.Name z p) (tVar i) := pe_var h.at_ h.vis h.d1 h.d2
theorem appD_inv {v d d' : D} (h : appD v d = some d') : ∃ l, d = .lst l ∧ szOk (l.length + 1) = true ∧ d' = .lst (l ++ [v]) := by
  cases d with
  | lst l =>
    simp only [appD] at h
    split at h
    · rename_i hs; cases h; exact ⟨l, rfl, hs, rfl⟩
    · cases h
  | _ => cases h
theorem few_pl {es : List Expr} {env : Env} {cpos : Pos} (h : es.all plE = true) (hl : es.length < 20) :
    ((backTo cpos (starEach es env)).all (fun x => !x.1) && (backToKw cpos (keywordEach [] env)).all (fun x => x.1.isSome)
      && decide (es.length + ([] : List Keyword).length + (if ([] : List Keyword).isEmpty then 0 else 1) < 30)) = true := by
  have h1 : ∀ {es : List Expr}, es.all plE = true → (backTo cpos (starEach es env)).all (fun x => !x.1) = true := by
    intro es
    induction es with
    | nil => intro _; rfl
    | cons e r ih =>
      intro h
      rw [List.all_cons, Bool.and_eq_true] at h
      rw [star_pl h.1]
      show (!false && (backTo cpos (starEach r env)).all (fun x => !x.1)) = true
      rw [ih h.2]; rfl
  rw [h1 h, Bool.true_and, Bool.and_eq_true]
  refine ⟨rfl, ?_⟩
  rw [decide_eq_true_eq]
  show es.length + 0 + 0 < 30
  omega
theorem ds_app {i : Nat} {z : PySem.Str} {p1 p2 p3 : Pos} (hz : RdOk X i z) (h : DE T Wx X x Φ) (hp : plE x = true) (hline : (p2.endLine == p3.line) = true) :
    DS T Wx X (.Expr (.Call (.Attribute (.Name z p1) "append" p2) [x] [] p3) pos) (fun a h => if lstAt a h i then (Φ a h).thenS a fun v h1 => mutS a h1 i (appD v) else .bad) := by
  refine ps_imp (ps_expr (pe_bm PySem.F.plainAttrs_list PySem.F.slot_list_append PySem.F.type_list_append mt_append hz.pe (pa_cons h pa_nil (star_pl hp)) rfl (few_pl (es := [x]) (by rw [List.all_cons, hp]; rfl) (by show 1 < 20; omega)) hline (star_pl hp) rfl) rfl) fun E σ H ⟨w, a, e, RH, RS, p⟩ => ?_
  dsimp only at p
  split at p
  · rename_i hl
    obtain ⟨p0, e1, ty⟩ := lstAt_ty (X := X) RH RS hl
    refine ⟨_, e1, by rw [← e]; exact ty, w, a, e, RH, RS, ?_⟩
    refine (p.thenS (Rel := rF T a σ)).imp fun v H1 ⟨w1, d, le, eH, RH1, RS1, f1, q⟩ => ?_
    obtain ⟨p1, d0, d', hv, tg, hf⟩ := mutS_tgt RH1 RS1 e1 q
    cases hv
    obtain ⟨l, rfl, hs, rfl⟩ := appD_inv hf
    obtain ⟨xs, o1, o2⟩ := tg.2.1
    rw [← eH]
    refine ⟨p0, xs, v, rfl, rfl, o1, by have := szOk_le hs; rw [o2.1]; omega, ?_⟩
    exact tg.put RH1 RS1 hf ⟨xs ++ [v], upd_same, o2.append (.cons f1 .nil)⟩ q
  · exact p.elim
theorem extD_inv {v d d' : D} (h : extD v d = some d') : ∃ l r, d = .lst l ∧ v = .lst r ∧ szOk (l.length + r.length) = true ∧ d' = .lst (l ++ r) := by
  cases d with
  | lst l =>
    cases v with
    | lst r =>
      simp only [extD] at h
      split at h
      · rename_i hs; cases h; exact ⟨l, r, rfl, rfl, hs, rfl⟩
      · cases h
    | _ => cases h
  | _ => cases h
theorem ds_ext {i : Nat} {z : PySem.Str} {p1 p2 p3 : Pos} (hz : RdOk X i z) (h : DR T Wx X x ΦR) (hp : plE x = true) (hline : (p2.endLine == p3.line) = true) :
    DS T Wx X (.Expr (.Call (.Attribute (.Name z p1) "extend" p2) [x] [] p3) pos) (fun a h => if lstAt a h i then (ΦR a h).thenS a fun r h1 => (match look a h1 r with
      | some v => mutS a h1 i (extD v)
      | none => .bad) else .bad) := by
  refine ps_imp (ps_expr (pe_bm PySem.F.plainAttrs_list PySem.F.slot_list_extend PySem.F.type_list_extend mt_extend hz.pe (pa_cons h pa_nil (star_pl hp)) rfl (few_pl (es := [x]) (by rw [List.all_cons, hp]; rfl) (by show 1 < 20; omega)) hline (star_pl hp) rfl) rfl) fun E σ H ⟨w, a, e, RH, RS, p⟩ => ?_
  dsimp only at p
  split at p
  · rename_i hl
    obtain ⟨p0, e1, ty⟩ := lstAt_ty (X := X) RH RS hl
    refine ⟨_, e1, by rw [← e]; exact ty, w, a, e, RH, RS, ?_⟩
    refine (p.thenS (Rel := rHd T a σ)).imp fun v H1 ⟨w1, d, le, eH, RH1, RS1, f1, q⟩ => ?_
    dsimp only at q
    split at q
    · rename_i d2 hd2
      obtain ⟨p1, d0, d', hv, tg, hf⟩ := mutS_tgt RH1 RS1 e1 q
      cases hv
      obtain ⟨l, r, rfl, rfl, hs, rfl⟩ := extD_inv hf
      obtain ⟨xs, o1, o2⟩ := tg.2.1
      obtain ⟨b, zs, rfl, o3, o4⟩ := (look_ok RH1 RS1 f1 hd2).lst RH1
      rw [← eH]
      refine ⟨p0, b, xs, zs, rfl, rfl, o1, o3, by rw [o2.1, o4.1]; exact szOk_le hs, ?_⟩
      exact tg.put RH1 RS1 hf ⟨xs ++ zs, upd_same, o2.append o4⟩ q
    · exact q.elim
  · exact p.elim
theorem insD_inv {k v d d' : D} (h : insD k v d = some d') : ∃ l i, d = .lst l ∧ k = .int i ∧ szOk (l.length + 1) = true ∧ 0 ≤ i ∧ i ≤ l.length ∧ d' = .lst (l.take i.toNat ++ [v] ++ l.drop i.toNat) := by
  cases d with
  | lst l =>
    cases k with
    | int i =>
      simp only [insD] at h
      split at h
      · rename_i hs
        rw [Bool.and_eq_true, Bool.and_eq_true, decide_eq_true_eq, decide_eq_true_eq] at hs
        cases h
        exact ⟨l, i, rfl, rfl, hs.1.1, hs.1.2, hs.2, rfl⟩
      · cases h
    | _ => cases h
  | _ => cases h
theorem ds_insr {i : Nat} {z : PySem.Str} {p1 p2 p3 : Pos} (hz : RdOk X i z) (h : DE T Wx X x Φ) (h2 : DE T Wx X y Ψ) (hp : plE x = true) (hp2 : plE y = true) (hline : (p2.endLine == p3.line) = true) :
    DS T Wx X (.Expr (.Call (.Attribute (.Name z p1) "insert" p2) [x, y] [] p3) pos) (fun a h => if lstAt a h i then (Φ a h).thenS a fun kv h1 => (Ψ a h1).thenS a fun v h2 => mutS a h2 i (insD kv v) else .bad) := by
  refine ps_imp (ps_expr (pe_bm PySem.F.plainAttrs_list PySem.F.slot_list_insert PySem.F.type_list_insert mt_insert hz.pe (pa_cons h (pa_cons h2 pa_nil (star_pl hp2)) (star_pl hp)) rfl
    (few_pl (es := [x, y]) (by rw [List.all_cons, List.all_cons, hp, hp2]; rfl) (by show 2 < 20; omega)) hline (star_pl hp) (by rw [star_pl hp2]; rfl)) rfl) fun E σ H ⟨w, a, e, RH, RS, p⟩ => ?_
  dsimp only at p
  split at p
  · rename_i hl
    obtain ⟨p0, e1, ty⟩ := lstAt_ty (X := X) RH RS hl
    refine ⟨_, e1, by rw [← e]; exact ty, w, a, e, RH, RS, ?_⟩
    refine (p.thenS (Rel := rF T a σ)).imp fun kv H1 ⟨w1, d1, le, eH, RH1, RS1, f1, q⟩ => ⟨w1, a, eH, RH1, RS1, ?_⟩
    refine (PostS.thenS (Rel := rF T a σ) q).imp fun v H2 ⟨w2, d2, le2, eH2, RH2, RS2, f2, q2⟩ => ?_
    obtain ⟨p1, d0, d', hv, tg, hf⟩ := mutS_tgt RH2 RS2 e1 q2
    cases hv
    obtain ⟨l, i, rfl, rfl, hs, h0, hle, rfl⟩ := insD_inv hf
    obtain ⟨xs, o1, o2⟩ := tg.2.1
    cases f1
    have hs := szOk_le hs
    have hsz : sizeLine = 16777216 := sizeLine_eq
    rw [← eH2]
    refine ⟨p0, xs, _, v, rfl, rfl, o1, by rw [o2.1]; omega, h0, by omega, ?_⟩
    exact tg.put RH2 RS2 hf ⟨_, upd_same, ((o2.take _).append (.cons f2 .nil)).append (o2.drop _)⟩ q2
  · exact p.elim
theorem setIx_inv {k v d d' : D} (h : setIx k v d = some d') : ∃ l i j, d = .lst l ∧ k = .int i ∧ ixI l.length i = some j ∧ d' = .lst (l.set j v) := by
  cases d with
  | lst l =>
    cases k with
    | int i =>
      obtain ⟨j, h1, h2⟩ := Option.map_eq_some_iff.mp (show (ixI l.length i).map _ = some d' from h)
      exact ⟨l, i, j, rfl, rfl, h1, h2.symm⟩
    | _ => cases h
  | _ => cases h
theorem plIx_assign {o i : Expr} {pos : Pos} {env : Env} (h : plE i = true) : ∀ v, assign (.Subscript o i pos) env v = (do
      let ov ← holding [v] (eval o env)
      let iv ← holding [v, ov] (eval i env)
      standAt pos
      holding [v, ov, iv] (setItem ov iv v)
      release [v, ov, iv] []) := by intro v; cases i <;> first | rfl | (exact (Bool.false_ne_true h).elim)
theorem ds_sto {i : Nat} {z : PySem.Str} {p1 p2 : Pos} (hz : RdOk X i z) (h : DE T Wx X x Φ) (h2 : DE T Wx X y Ψ) (hl : lcE x = true) (hp : plE y = true) (hw : swappedStores [.Subscript (.Name z p1) y p2] x X.env = pure none) :
    DS T Wx X (.Assign [.Subscript (.Name z p1) y p2] x pos) (fun a h => if heldAt a i then (Φ a h).thenS a fun v h1 => (Ψ a h1).thenS a fun kv h2 => mutS a h2 i (setIx kv v) else .bad) := by
  refine ps_imp (ps_asg h (pg_sub hz.pe h2 set_list (plIx_assign hp)) (swapsS_lc hl _ _) hw rfl) fun E σ H ⟨w, a, e, RH, RS, p⟩ => ?_
  dsimp only at p
  split at p
  case isFalse => exact p.elim
  rename_i hh
  refine ⟨w, a, e, RH, RS, ?_⟩
  refine (p.thenS (Rel := rF T a σ)).imp fun v H1 ⟨w1, d1, le, eH, RH1, RS1, f1, q⟩ => ?_
  have hb : ∃ u, σ[i]? = some (some u) := by
    unfold heldAt at hh
    split at hh
    · rename_i d hd; obtain ⟨p, e1, _⟩ := RS1.sl i _ hd; exact ⟨_, e1⟩
    · rename_i n hn; obtain ⟨u, e1, _⟩ := RS1.sl i _ hn; exact ⟨_, e1⟩
    · exact absurd hh Bool.false_ne_true
  obtain ⟨u, hu⟩ := hb
  refine ⟨u, hu, w1, a, eH, RH1, RS1, ?_⟩
  refine (PostS.thenS (Rel := rF T a σ) q).imp fun kv H2 ⟨w2, d2, le2, eH2, RH2, RS2, f2, q2⟩ => ?_
  obtain ⟨p1, d0, d', hv, tg, hf⟩ := mutS_tgt RH2 RS2 hu q2
  subst hv
  obtain ⟨l, i, j, rfl, rfl, hix, rfl⟩ := setIx_inv hf
  obtain ⟨xs, o1, o2⟩ := tg.2.1
  cases f2
  rw [← eH2]
  refine ⟨p1, xs, _, j, rfl, rfl, o1, by rw [o2.1, ← ixI_eq]; exact hix, ?_⟩
  exact tg.put RH2 RS2 hf ⟨_, upd_same, o2.set j (Fz.mono le2.f le2.m f1)⟩ q2
end
end Ev
end
section
set_option Elab.async false
set_option linter.all false
set_option maxRecDepth 100000
set_option maxHeartbeats 2000000
/-! Ev, part K: fields stored, a comprehension given a name. -/
namespace Ev
open PySem PySem.Spec PyProof.Rows L2
section
variable {T : Tb} {Wx : WX} {X : Cx} {x y : Expr} {pos : Pos} {Φ Ψ : List SL → List D → RE D}
theorem putF_set {f : PySem.Str} {v : V} : ∀ {names : List PySem.Str} {xs : List V} {j : Nat}, names.Nodup → names[j]? = some f → j < xs.length → putF f v (names.zip xs) = names.zip (xs.set j v)
  | [], _, _, _, h, _ => by simp at h
  | n :: r, [], j, _, _, h => by simp at h
  | n :: r, y :: ys, 0, nd, h, _ => by
    simp at h
    subst h
    rw [List.zip_cons_cons, putF, if_pos rfl]
    rfl
  | n :: r, y :: ys, j + 1, nd, h, hl => by
    rw [List.nodup_cons] at nd
    have h' : r[j]? = some f := by simpa using h
    have hne : ¬ n = f := fun z => nd.1 (by rw [z]; exact List.mem_of_getElem? h')
    rw [List.zip_cons_cons, putF, if_neg hne, putF_set nd.2 h' (by simpa using hl)]
    rfl
theorem putF_new {f : PySem.Str} {v : V} : ∀ {names : List PySem.Str} {xs : List V}, names.Nodup → names[xs.length]? = some f → putF f v (names.zip xs) = names.zip (xs ++ [v])
  | [], _, _, h => by simp at h
  | n :: r, [], nd, h => by
    simp at h
    subst h
    simp [putF]
  | n :: r, y :: ys, nd, h => by
    rw [List.nodup_cons] at nd
    have h' : r[ys.length]? = some f := by simpa using h
    have hne : ¬ n = f := fun z => nd.1 (by rw [z]; exact List.mem_of_getElem? h')
    rw [List.zip_cons_cons, putF, if_neg hne, putF_new nd.2 h']
    rfl
theorem setF_inv {g : G} {f : Nat} {v d d' : D} (h : setF g f v d = some d') : ∃ c vs j, d = .ins c vs ∧ g.fld c f = some j ∧ ((j < vs.length ∧ d' = .ins c (vs.set j v)) ∨ (j = vs.length ∧ d' = .ins c (vs ++ [v]))) := by
  cases d with
  | ins c vs =>
    simp only [setF] at h
    cases hf : g.fld c f with
    | none => rw [hf] at h; cases h
    | some j =>
      rw [hf] at h
      dsimp only at h
      split at h
      · rename_i hj; cases h; exact ⟨c, vs, j, rfl, hf, .inl ⟨hj, rfl⟩⟩
      · split at h
        · rename_i hj; cases h; exact ⟨c, vs, j, rfl, hf, .inr ⟨hj, rfl⟩⟩
        · cases h
  | _ => cases h
theorem swapsA {e o : Expr} {env : Env} {f : PySem.Str} {p : Pos} {l : Nat} : swapsWith e (some (.Attribute o f p)) l env = pure false := by cases e <;> rfl
theorem ds_stf {g : G} {i f : Nat} {z nm : PySem.Str} {p1 p2 : Pos} (hK : X.K = T.K) (hz : RdOk X i z) (hf : FldOk T g f nm) (hsz : ∀ c, (T.flds c).length < 1000) (h : DE T Wx X x Φ) :
    DS T Wx X (.Assign [.Attribute (.Name z p1) nm p2] x pos) (fun a h => (Φ a h).thenS a fun v h1 => mutS a h1 i (setF g f v)) := by
  refine ps_imp (ps_fld hz.pe h swapsA) fun E σ H ⟨w, a, e, RH, RS, p⟩ => ⟨w, a, e, RH, RS, ?_⟩
  refine (p.thenS (Rel := rF T a σ)).imp fun v H1 ⟨w1, d1, le, eH, RH1, RS1, f1, q⟩ => ?_
  have hu : ∃ u, σ[i]? = some (some u) := by
    unfold mutS at q
    split at q
    · rename_i d hd; obtain ⟨p, e1, _⟩ := RS1.sl i _ hd; exact ⟨_, e1⟩
    · rename_i n hn; obtain ⟨u, e1, _⟩ := RS1.sl i _ hn; exact ⟨_, e1⟩
    · exact q.elim
  obtain ⟨u, hu⟩ := hu
  obtain ⟨p1, d0, d', hv, tg, hs⟩ := mutS_tgt RH1 RS1 hu q
  subst hv
  obtain ⟨c, vs, j, rfl, hj, hc⟩ := setF_inv hs
  obtain ⟨k1, k2, k3, k4⟩ := hf.ok c j hj
  obtain ⟨dx, xs, o1, o2, o3⟩ := tg.2.1
  refine ⟨_, hu, p1, T.cls c, dx, _, rfl, by rw [← eH]; exact o1, by rw [hK]; exact k1, by rw [hK]; exact k2, ?_, ?_⟩
  · have := hsz c
    rw [List.length_zip]
    omega
  · rw [← eH]
    have hjl : j < (T.flds c).length := (List.getElem?_eq_some_iff.mp k3).1
    rcases hc with ⟨hlt, rfl⟩ | ⟨he, rfl⟩
    · rw [putF_set k4 k3 (by rw [o3.1]; exact hlt)]
      exact tg.put RH1 RS1 hs ⟨dx, _, upd_same, by rw [List.length_set]; exact o2, o3.set j f1⟩ q
    · have k3' : (T.flds c)[xs.length]? = some nm := by rw [o3.1, ← he]; exact k3
      rw [putF_new k4 k3']
      refine tg.put RH1 RS1 hs ⟨dx, _, upd_same, ?_, o3.append (.cons f1 .nil)⟩ q
      rw [List.length_append, o3.1, ← he]
      exact hjl
/-- name = [elt for target in iter if ..], the list bound while the block stands -/
theorem ds_setLcG {k : Bool} {i : Nat} {z : PySem.Str} {py spos : Pos} {elt tg iter : Expr} {ifs : List Expr} {scope : Scope} {own : List Nat} {t : Tg} {Φl : List SL → List D → RE (List D)} {Φc : List SL → List D → RE Bool} {Φe : List SL → List D → RE D} {ownN : List (PySem.Str × Nat)}
    {F : List SL → D → List D → RS} (hF : ∀ (E : L2.Ends) (a : List SL) (σ : Ev.St) (w : Wo) (v : V) (d : D), RepH T w → RepS T w a σ → rP T a σ w v d → PostS T Wx w E (F a d w.hh) → E.nx (σ.set i (some v)) w.H)
    (ho : ownN.map (·.2) = own) (hc : X.calm = true) (hN : X.N.Nodup) (hy : X.N[i]? = some z) (hyl : X.env.scope.names.lookup z = some .local)
    (hsw : swapsWith (.ListComp elt [⟨tg, iter, ifs, 0⟩] scope pos) (some (.Name z py)) spos.line X.env = pure true) (hi : DI T Wx X k tg iter Φl) (ok : BlkOk X.N X.env.scope scope ownN) (htg : ∀ j ∈ tgs t, j ∈ own)
    (hg : ∀ (s : Shared) (H : Hp) (C : Addr) (cl : List (PySem.Str × Addr)) (fp : List Addr), PG (X.blk s H scope (compEnvC scope cl C X.env) fp) tg (tGt T t)) (ht : ∀ (s : Shared) (H : Hp) (C : Addr) (cl : List (PySem.Str × Addr)) (fp : List Addr), DC T noW (X.blk s H scope (compEnvC scope cl C X.env) fp) ifs Φc)
    (he : ∀ (s : Shared) (H : Hp) (C : Addr) (cl : List (PySem.Str × Addr)) (fp : List Addr), DE T noW (X.blk s H scope (compEnvC scope cl C X.env) fp) elt Φe) (hs : ∀ x, foldedSetIterable iter X.env x = pure x) :
    DS T Wx X (.Assign [.Name z py] (.ListComp elt [⟨tg, iter, ifs, 0⟩] scope pos) spos) (fun a hh => (if ownFree a own then (Φl a hh).bind fun l h1 => (compL (turnC t own Φc Φe a) l h1).bind fun l h2 => if szOk l.length then .ok (.lst l) h2 else .bad else .bad : RE D).thenS a fun d h1 => F a d h1) := by
  subst ho
  refine ps_imp (ps_setLc hc hN hy hyl hsw hi ok hg ht he hs) fun E σ H ⟨w, a, e, RH, RS, p⟩ => ?_
  have p2 := p.thenS (σ := σ) (Rel := rP T a σ)
  split at p2
  · rename_i hfr
    refine ⟨w, a, e, RH, RS, ?_⟩
    refine (p2.bind (Rel := ItRel T k a σ)).imp fun J H1 ⟨w1, l, le, eH, RH1, RS1, f1, q⟩ => ?_
    refine comp_val (Q := fun v H => gName i v σ H E.nx) hfr htg eH RH1 RS1 f1 (q.imp fun v H ⟨w2, d, le2, eH2, RH2, RS2, f2, q2⟩ => ?_)
    show E.nx (σ.set i (some v)) H
    rw [← eH2]
    exact hF E a σ w2 v d RH2 RS2 f2 q2
  · exact p2.elim
theorem setLc_asg {i : Nat} (E : L2.Ends) (a : List SL) (σ : Ev.St) (w : Wo) (v : V) (d : D) (RH : RepH T w) (RS : RepS T w a σ) (f : rP T a σ w v d) (q : PostS T Wx w E (.nx (a.set i (.pu d)) w.hh)) : E.nx (σ.set i (some v)) w.H := by
  have f : if isObj d then Fr T a σ w v d else Fz T w.m w.F v d := f
  split at f
  · obtain ⟨w2, k1, k2, k3, k4, k5, k6⟩ := Fr.frz RH RS f
    rw [← k2]
    exact q _ w2 k1 k3 k4 (k5.set k6)
  · exact q _ w (.refl _) rfl RH (RS.set f)
theorem setLc_asgM {i : Nat} (hi : i ≠ 0) (E : L2.Ends) (a : List SL) (σ : Ev.St) (w : Wo) (v : V) (d : D) (RH : RepH T w) (RS : RepS T w a σ) (f : rP T a σ w v d) (q : PostS T Wx w E (if isObj d then .nx (a.set i (.ow d)) w.hh else .bad)) : E.nx (σ.set i (some v)) w.H := by
  split at q
  · rename_i hd
    rw [rP, if_pos hd] at f
    exact q _ w (.refl _) rfl RH (RS.setO hi f)
  · exact q.elim
end
end Ev
end
section
set_option Elab.async false
set_option linter.all false
set_option maxRecDepth 100000
set_option maxHeartbeats 2000000
/-! Ev, part G0: defs that are called where no text of an object is under way. -/
namespace Ev
open PySem PySem.Spec PyProof.Rows L2
/-- as the library's promise of a def, for places with nothing under way -/
structure FnG (Pg : Program) (wd : World) (K : PySem.W.Frag) (mg : PySem.Str → Option Value) (bs : Heap) (C : CXT) (k : Nat) (f : Addr) (fd : FuncData) (ps : List PySem.Str) (sp : Sp) : Prop where
  len : ∀ vs H Q E, sp vs H Q E → vs.length = ps.length
  run : ∀ (A : Around) (up : List Env) (st : Shared) (H : Hp) (ar : Args) (us : List Value) (vs : List V) (Q : VK) (E : XK), Room k A → A.guards = some [] → Env0 Pg wd K mg bs A up st H → BindsTo st fd ar (ps.zip us) →
    Vals vs us → sp vs H Q E → codeAny (model Pg wd) A (.call (.ref f) ar) (CR C up Pg wd H st Q E) st
theorem FnG.at {Pg : Program} {wd : World} {K : PySem.W.Frag} {mg : PySem.Str → Option Value} {bs : Heap} {C : CXT} {j k : Nat} {f : Addr} {fd : FuncData} {ps : List PySem.Str} {sp : Sp} (F : FnG Pg wd K mg bs C j f fd ps sp) (h : j ≤ k) : FnG Pg wd K mg bs C k f fd ps sp :=
  ⟨F.len, fun A up st H ar us vs Q E r => F.run A up st H ar us vs Q E (r.mono h)⟩
section
variable {X : Cx} {k : Nat} {f : Addr} {fd : FuncData} {ps : List PySem.Str} {sp : Sp}
/-- a callee's run inside a body -/
theorem go_fn {W : WX} {pins : List (Addr × Obj)} {σ : Ev.St} {H : Hp} {st : Shared} {Q : VK} {us : List Value} {vs : List V} (F : FnG X.prog X.w X.K X.mg X.base (L2.CX X.prog X.w) k f fd ps sp) (hr : Room k X.A) (hg : X.A.guards = some []) (hb : Binds X.K fd ps []) (tk : Takes X W)
    (I : Inv X pins σ H st) (r : Vals vs us) (h : sp vs H Q (WE W σ)) : wpAny (model X.prog X.w) X.A (call (.ref f) us) (EP X pins σ Q) X.xe st := by
  have e : us ++ [] = us := List.append_nil us
  have n : us.length = ps.length := r.length ▸ F.len _ _ _ _ h
  have b : BindsTo st fd ⟨us, []⟩ (ps.zip us) := by
    have := hb st us I.kIn (e.symm ▸ n)
    rwa [e] at this
  refine wpAny_call (codeAny_mono (F.run X.A X.stack st H ⟨us, []⟩ us vs Q (WE W σ) hr hg I.env0 b r h) ?_)
  intro out st2 o
  match out, o with
  | .error er, o => exact passAt tk σ pins H st er st2 I o
  | .ok (.ret u), o => exact I.after o
  | .ok .next, o => exact o.elim
  | .ok .brk, o => exact o.elim
  | .ok .cont, o => exact o.elim
theorem guards_under {A : Around} {C : Addr} {us : List Value} : (A.under (.builtin "type.__call__" ⟨.ref C :: us, []⟩)).guards = A.guards := by
  first | rfl | simp [Around.under, Code.isGuard, guardIds]
end
section
variable {Pg : Program} {wd : World} {K : PySem.W.Frag} {mg : PySem.Str → Option Value} {bs : Heap} {C : CXT} {k : Nat} {f : Addr}
/-- a def of the text by its body -/
theorem fn_body {x qual : PySem.Str} {st : Stmt} {fd : FuncData} {N ps : List PySem.Str} {sp : Sp} (F : Fun K x qual st f fd) (S : FnScope N ps (defScope st)) (len : ∀ vs H Q E, sp vs H Q E → vs.length = ps.length)
    (hbody : ∀ (cdv : Value) (A : Around) (up : List Env) (s : Shared) (H : Hp) (vs : List V) (Q : VK) (E : XK), Room k (A.deeper (envOfC qual (defScope st) s.heap.objs.size f cdv)) → A.guards = some [] → sp vs H Q E →
      ∃ t, PSs (cxOf C Pg wd K mg bs N qual (defScope st) f cdv A up s H E) (defBody st) t ∧ t { nx := fun _ H' => Q .non H', rt := Q } (L2.start N vs) H) : FnG Pg wd K mg bs C (k + 1) f fd ps sp := by
  obtain ⟨oc, od, kV, doc, pm, an, cdv, ct, osl, rfl, lk, hcd⟩ := F.ex
  refine ⟨len, fun A up s H ar us vs Q E hr hgd en bd rl pr => ?_⟩
  have old : ∀ b o, bs.get? b = some o → s.heap.get? b = some o := fun b o z => (en.bs b o z).1
  have KH : K.In s.heap := en.mod.kin.keeps old
  have NL : s.heap.NoLimit := en.mod.nolimit.keeps old
  have ks : ∀ y ∈ ps.zip us, (defScope st).names.lookup y.1 = some .local ∨ ((defScope st).names.lookup y.1 = some .cell ∧ ((cellsFrom (s.heap.objs.size + 1) (defScope st).names []).lookup y.1).isSome = true) := by
    rintro ⟨y, u⟩ hy
    exact (S.par y (List.of_mem_zip hy).1).imp (fun z => z) fun z => ⟨z, PySem.W.cellsFrom_some _ _ _ (.inl z)⟩
  refine codeAny_call_function hr.depth (KH _ _ lk) rfl S.co S.gen rfl (PySem.W.codeRec_of KH hcd) (bd _ _ _ _ (wpAny_newFunctionEnv_cells S.kind ks fun env he s1 ic => ?_))
  subst he
  obtain ⟨t, ht, hq⟩ := hbody cdv A up s H vs Q E (hr.deeper _) hgd pr
  have I : Inv (cxOf C Pg wd K mg bs N qual (defScope st) f cdv A up s H E) [] (L2.start N vs) H s1 := inv_start S hr.hd en (len _ _ _ _ pr) rl ic
  refine ⟨NL.keeps ic.toInCall.keep, codeAny_func (wpAny_mono (ht.run [] s1 (L2.start N vs) H _ I hq) (fun fl s2 z => ?_) fun _ _ z => z)⟩
  match fl, z with
  | .ret u, ⟨v, σ2, H2, J, rv, q⟩ => exact ⟨v, H2, J.os, J.bare, J.base, J.hok, rv, q⟩
  | .next, ⟨σ2, H2, J, q⟩ => exact ⟨.non, H2, J.os, J.bare, J.base, J.hok, rfl, q⟩
  | .brk, ⟨_, _, _, q⟩ => exact q.elim
  | .cont, ⟨_, _, _, q⟩ => exact q.elim
end
end Ev
end
section
set_option Elab.async false
set_option linter.all false
set_option maxRecDepth 100000
set_option maxHeartbeats 2000000
/-! Ev, part L: calls. -/
namespace Ev
open PySem PySem.Spec PyProof.Rows L2
/-- what a callee gets: all that is not shared is kept -/
def Wo.into (w : Wo) : Wo := { Pr := fun p => if p ∈ w.m then none else w.H p, F0 := w.F, F := w.F, H := w.H, m := w.m, hh := w.hh, me := none }
/-- .. and what comes back -/
def Wo.back (w wc : Wo) : Wo := { Pr := w.Pr, F0 := w.F0, F := wc.F, H := wc.H, m := wc.m, hh := wc.hh, me := w.me }
/-- a world that the callee left -/
structure InB (w wc : Wo) : Prop where
  pr : wc.Pr = w.into.Pr
  f0 : wc.F0 = w.F
  f : ∀ p o, w.F p = some o → wc.F p = some o
  m : ∀ (n : Nat) (p : Addr), w.m[n]? = some p → wc.m[n]? = some p
theorem InB.of {w wc : Wo} (le : w.into.le wc) : InB w wc := ⟨le.pr, le.f0, le.f, le.m⟩
section
variable {T : Tb} {w wc : Wo} {a : List SL} {σ : Ev.St}
theorem into_H (R : RepH T w) : RepH T w.into where
  sub := R.sub
  pr := fun p o e => by
    have e : (if p ∈ w.m then none else w.H p) = some o := e
    split at e
    · cases e
    · exact e
  fp := fun p o e => .inl e
  f0 := fun p o e => e
  mp := fun p h => if_pos h
  ml := R.ml
  nd := R.nd
  lo := R.lo
theorem into_pr {p : Addr} {o : HO} (hp : w.H p = some o) (hm : p ∉ w.m) : w.into.Pr p = some o := by
  show (if p ∈ w.m then none else w.H p) = some o
  rw [if_neg hm]; exact hp
theorem into_none {p : Addr} (R : RepH T w) (h : w.into.Pr p = none) : w.Pr p = none := by
  have h : (if p ∈ w.m then none else w.H p) = none := h
  split at h
  · rename_i hm; exact R.mp p hm
  · cases z : w.Pr p with
    | none => rfl
    | some o => rw [R.pr _ _ z] at h; cases h
theorem back_le (le : InB w wc) : w.le (w.back wc) := ⟨rfl, rfl, le.f, le.m, rfl⟩
theorem back_H (R : RepH T w) (le : InB w wc) (Rc : RepH T wc) : RepH T (w.back wc) where
  sub := Rc.sub
  pr := fun p o e => by
    have e : w.Pr p = some o := e
    have hm : p ∉ w.m := fun h => by rw [R.mp p h] at e; cases e
    exact Rc.pr p o (by rw [le.pr]; exact into_pr (R.pr _ _ e) hm)
  fp := fun p o e => by
    rcases Rc.fp p o e with h | h
    · rw [le.f0] at h
      exact R.fp p o h
    · rw [le.pr] at h
      exact .inr (show w.Pr p = none from into_none R h)
  f0 := fun p o e => le.f p o (R.f0 p o e)
  mp := fun p h => show w.Pr p = none from into_none R (by rw [← le.pr]; exact Rc.mp p h)
  ml := Rc.ml
  nd := Rc.nd
  lo := Rc.lo
theorem back_own (R : RepH T w) (S : RepS T w a σ) (le : InB w wc) (Rc : RepH T wc) {q : Addr} (h : Own a σ q) : wc.Pr q ≠ none ∧ wc.H q = w.H q ∧ wc.F q = none ∧ q ∉ wc.m := by
  obtain ⟨h1, h2, h3, o, ho⟩ := S.own h
  have hp : wc.Pr q = some o := by rw [le.pr]; exact into_pr ho h3
  refine ⟨fun z => (by rw [hp] at z; cases z), (by rw [ho]; exact Rc.pr q o hp), ?_, fun z => ?_⟩
  · cases z : wc.F q with
    | none => rfl
    | some u =>
      rcases Rc.fp q u z with k | k
      · rw [le.f0] at k
        have k : w.F q = some u := k
        rw [h1] at k; cases k
      · rw [hp] at k; cases k
  · rw [Rc.mp q z] at hp; cases hp
theorem back_S (R : RepH T w) (S : RepS T w a σ) (le : InB w wc) (Rc : RepH T wc) : RepS T (w.back wc) a σ :=
  S.mono (back_le le) fun q h => (back_own R S le Rc h).2
theorem back_fr {v : V} {d : D} (R : RepH T w) (S : RepS T w a σ) (le : InB w wc) (Rc : RepH T wc) (h : FrR T wc v d) : Fr T a σ (w.back wc) v d := by
  obtain ⟨p, e, h1, h2, h3, h4⟩ := h
  refine ⟨p, e, h1, show w.Pr p = none from into_none R (by rw [← le.pr]; exact h2), h3, fun q hq z => ?_, h4⟩
  subst z
  exact (back_own R S le Rc hq).1 h2
/-- the arguments as the callee's first slots -/
theorem pass_ok (R : RepH T w) (S : RepS T w a σ) : ∀ {ms : List Md} {rs : List RV} {ds : List D} {vs : List V}, HdL T a σ w vs rs → passA a ms rs = some ds → vs.length = ds.length ∧ ds.length = ms.length ∧
    ∀ (i : Nat) (s : SL) (v : V), (List.zipWith slotOf ms ds)[i]? = some s → vs[i]? = some v → SlOk T w.into s (some (some v)) ∧ ∀ d, s ≠ .ow d
  | [], [], ds, vs, h, e => by
    cases e
    exact ⟨h.1, rfl, fun i s v e => by simp at e⟩
  | [], r :: rs, ds, vs, h, e => by cases e
  | m :: ms, [], ds, vs, h, e => by cases e
  | m :: ms, r :: rs, ds, [], h, e => absurd h.1 (by simp)
  | m :: ms, r :: rs, ds, v :: vs, h, e => by
    rw [passA] at e
    obtain ⟨d, h1, e⟩ := Option.bind_eq_some_iff.mp e
    obtain ⟨l, h2, e⟩ := Option.bind_eq_some_iff.mp e
    cases e
    obtain ⟨k1, k2, k3⟩ := pass_ok R S (vs := vs) (rs := rs) ⟨by simpa using h.1, fun i y r e1 e2 => h.2 (i + 1) y r (by simpa using e1) (by simpa using e2)⟩ h2
    refine ⟨by simp [k1], by simp [k2], fun i s u e1 e2 => ?_⟩
    cases i with
    | succ i => exact k3 i s u (by simpa using e1) (by simpa using e2)
    | zero =>
      simp at e1 e2
      subst e1 e2
      have hd := h.2 0 v r rfl rfl
      cases m with
      | pu =>
        cases r with
        | val d' => cases h1; exact ⟨⟨v, rfl, hd⟩, fun _ z => nomatch z⟩
        | slot i => cases h1
      | bo =>
        refine ⟨?_, fun _ z => nomatch z⟩
        cases r with
        | val d' => cases h1; exact ⟨v, rfl, .inl hd⟩
        | slot i =>
          obtain ⟨e1, hd⟩ := hd
          refine ⟨v, rfl, ?_⟩
          rcases hd with ⟨d', hd⟩ | ⟨d', hd⟩
          · simp only [passOne, hd] at h1
            cases h1
            obtain ⟨p, e3, _, _, e5, e4⟩ := S.sl i _ hd
            rw [e1] at e3
            cases e3
            obtain ⟨o, ho⟩ := e4.there
            exact .inr ⟨p, rfl, e4.mono (fun _ _ z => z) (fun _ _ z => z) (by rw [ho]; exact into_pr ho e5)⟩
          · simp only [passOne, hd] at h1
            cases h1
            obtain ⟨u, e3, e4⟩ := S.sl i _ hd
            rw [e1] at e3
            cases e3
            rcases e4 with e4 | ⟨p, rfl, e4⟩
            · exact .inl e4
            · obtain ⟨o, ho⟩ := e4.there
              have hnm : p ∉ w.m := fun hm => by rw [R.mp p hm] at ho; cases ho
              exact .inr ⟨p, rfl, e4.mono (fun _ _ z => z) (fun _ _ z => z) (by rw [ho]; exact into_pr (R.pr _ _ ho) hnm)⟩
      | ow => cases r <;> cases h1
end
/-- what is wanted behind a call: init: __init__, whose own value is None -/
def PostC (T : Tb) (init : Bool) (w : Wo) (vs : List V) (Q : VK) (E : XK) : RC → Prop
  | .ok d fr h => if init = true then ∀ w', w.le w' → w'.hh = h → RepH T w' → (∃ x r, vs = .ref x :: r ∧ FrR T w' (.ref x) d) → Q .non w'.H
    else ∀ v w', w.le w' → w'.hh = h → RepH T w' → RtV T fr w' v d → Q v w'.H
  | .exc c ds h => ∀ dA w', w.le w' → w'.hh = h → RepH T w' → XAt T w' dA c ds → E (.ref (T.xcls c)) dA w'.H
  | .bad => False
/-- what a def of the table promises -/
def spEv (T : Tb) (p : P) (N : Nat → List PySem.Str) (n f : Nat) : Sp := fun vs H Q E => ∃ fd w ds, p.fns[f]? = some fd ∧ w.H = H ∧ RepH T w ∧ vs.length = ds.length ∧ ds.length = fd.modes.length ∧ RepS T w (slotsOf fd ds) (L2.start (N f) vs) ∧ (fd.init = true → ∃ x r, vs = .ref x :: r ∧ w.me = some x) ∧
  PostC T fd.init w vs Q E (p.run n f ds w.hh)
/-- the calls that a context knows -/
structure FnTab (T : Tb) (p : P) (fdt : Nat → FuncData) (N ps : Nat → List PySem.Str) (n : Nat) (X : Cx) : Prop where
  fn : ∀ f, f < p.fns.length → FnG X.prog X.w X.K X.mg X.base (L2.CX X.prog X.w) (2 * n) (T.fnA f) (fdt f) (ps f) (spEv T p N n f)
  bd : ∀ f, f < p.fns.length → Binds X.K (fdt f) (ps f) []
  kp : ∀ f, f < p.fns.length → PySem.W.keepIn X.K (.ref (T.fnA f)) = true
  ns : ∀ f fd, p.fns[f]? = some fd → (N f).length = fd.nslots
  room : Room (2 * n + 1) X.A
  gd : X.A.guards = some []
/-- a value and whether it is a new object -/
abbrev rRC (T : Tb) : List SL → Ev.St → Wo → V → D × Bool → Prop := fun a σ w v d => if d.2 = true then Fr T a σ w v d.1 else Fz T w.m w.F v d.1
abbrev DCl (T : Tb) (Wx : WX) (X : Cx) (e : Expr) (Φ : List SL → List D → RE (D × Bool)) : Prop := PE X e (tG T Wx (rRC T) Φ)
section
variable {T : Tb} {Wx : WX} {X : Cx} {x y : Expr} {pos : Pos} {Φ : List SL → List D → RE (D × Bool)}
theorem de_of_dc (h : DCl T Wx X x Φ) : DE T Wx X x (fun a hh => (Φ a hh).fst) := by
  refine pe_imp h fun σ H Q ⟨w, a, e, RH, RS, p⟩ => ⟨w, a, e, RH, RS, ?_⟩
  dsimp only at p
  cases q : Φ a w.hh with
  | ok d hh =>
    rw [q] at p
    have p : Post T Wx a σ w (rF T a σ) Q (.ok d.1 hh) := p
    refine fun v w' l e1 e2 e3 e4 => ?_
    have e4 : if d.2 = true then Fr T a σ w' v d.1 else Fz T w'.m w'.F v d.1 := e4
    split at e4
    · obtain ⟨w2, k1, k2, k3, k4, k5, k6⟩ := Fr.frz e2 e3 e4
      rw [← k2]
      exact p v w2 (l.trans k1) (k3.trans e1) k4 k5 k6
    · exact p v w' l e1 e2 e3 e4
  | exc c ds hh => rw [q] at p; exact p
  | bad => rw [q] at p; exact p
theorem df_of_dc (h : DCl T Wx X x Φ) : DF T Wx X x (fun a hh => (Φ a hh).bind fun d h1 => if d.2 then .ok d.1 h1 else .bad) := by
  refine pe_imp h fun σ H Q ⟨w, a, e, RH, RS, p⟩ => ⟨w, a, e, RH, RS, ?_⟩
  dsimp only at p
  cases q : Φ a w.hh with
  | ok d hh =>
    rw [q, RE.bind_ok] at p
    split at p
    · rename_i ho
      refine fun v w' l e1 e2 e3 e4 => ?_
      have e4 : if d.2 = true then Fr T a σ w' v d.1 else Fz T w'.m w'.F v d.1 := e4
      rw [if_pos ho] at e4
      exact p v w' l e1 e2 e3 e4
    · exact p.elim
  | exc c ds hh => rw [q] at p; exact p
  | bad => rw [q] at p; exact p.elim
end
section
variable {T : Tb} {Wx : WX} {X : Cx} {p : P} {fdt : Nat → FuncData} {N ps : Nat → List PySem.Str} {n f : Nat}
theorem slots_ok {w : Wo} {fd : Fd} {vs : List V} {ds : List D} (N : List PySem.Str) (hN : N.length = fd.nslots) (h1 : vs.length = ds.length) (h2 : ds.length = fd.modes.length) (hn : ds.length ≤ fd.nslots)
    (h : ∀ (i : Nat) (s : SL) (v : V), (List.zipWith slotOf fd.modes ds)[i]? = some s → vs[i]? = some v → SlOk T w s (some (some v)))
    (ho : ∀ (i j : Nat) (d e : D) (p : Addr), (List.zipWith slotOf fd.modes ds)[i]? = some (.ow d) → (List.zipWith slotOf fd.modes ds)[j]? = some (.ow e) → vs[i]? = some (.ref p) → vs[j]? = some (.ref p) → i = j)
    (hme : ∀ (d : D) (x : Addr), w.me = some x → (List.zipWith slotOf fd.modes ds)[0]? = some (.ow d) → vs[0]? = some (.ref x)) : RepS T w (slotsOf fd ds) (L2.start N vs) := by
  have hl : (List.zipWith slotOf fd.modes ds).length = ds.length := by rw [List.length_zipWith]; omega
  have key : ∀ (i : Nat) (s : SL), (slotsOf fd ds)[i]? = some s → (s = .no ∧ ds.length ≤ i) ∨ (i < ds.length ∧ (List.zipWith slotOf fd.modes ds)[i]? = some s ∧ ∃ v, vs[i]? = some v ∧ (L2.start N vs)[i]? = some (some v)) := fun i s e => by
    unfold slotsOf at e
    by_cases hi : i < ds.length
    · rw [List.getElem?_append_left (by rw [hl]; exact hi)] at e
      refine .inr ⟨hi, e, vs[i]'(by omega), List.getElem?_eq_getElem _, ?_⟩
      unfold L2.start
      rw [List.getElem?_append_left (by rw [List.length_map]; omega), List.getElem?_map, List.getElem?_eq_getElem (by omega)]
      rfl
    · rw [List.getElem?_append_right (by rw [hl]; omega)] at e
      rw [List.getElem?_replicate] at e
      split at e
      · cases e; exact .inl ⟨rfl, by omega⟩
      · cases e
  refine ⟨?_, fun i s e => ?_, fun i j d e q e1 e2 e3 e4 => ?_, fun d x e1 e2 => ?_⟩
  · unfold slotsOf L2.start
    simp only [List.length_append, List.length_replicate, List.length_map, hl]
    omega
  · rcases key i s e with ⟨rfl, _⟩ | ⟨hi, e1, v, e2, e3⟩
    · trivial
    · rw [e3]; exact h i s v e1 e2
  · rcases key i _ e1 with ⟨z, _⟩ | ⟨hi, k1, v, k2, k3⟩
    · cases z
    · rcases key j _ e2 with ⟨z, _⟩ | ⟨hj, g1, u, g2, g3⟩
      · cases z
      · rw [k3] at e3; rw [g3] at e4
        cases e3; cases e4
        exact ho i j d e q k1 g1 k2 g2
  · rcases key 0 _ e2 with ⟨z, _⟩ | ⟨hi, k1, v, k2, k3⟩
    · cases z
    · have := hme d x e1 k1
      rw [k2] at this
      cases this
      exact k3
/-- the promise is met where what is wanted of the outcome is wanted here -/
theorem call_ok {w : Wo} {a : List SL} {σ : Ev.St} {vs : List V} {rs : List RV} {Q : VK} (hf : ∀ fd, p.fns[f]? = some fd → (N f).length = fd.nslots ∧ fd.modes.length ≤ fd.nslots ∧ fd.init = false) (RH : RepH T w) (RS : RepS T w a σ) (hd : HdL T a σ w vs rs)
    (h : Post T Wx a σ w (rRC T a σ) Q (callG (p.g n) a f rs w.hh)) : spEv T p N n f vs w.H Q (WE Wx σ) := by
  unfold callG at h
  have hm : (p.g n).modes f = p.modes f := rfl
  rw [hm] at h
  cases hp : passA a (p.modes f) rs with
  | none => rw [hp] at h; exact h.elim
  | some ds =>
    rw [hp] at h
    obtain ⟨k1, k2, k3⟩ := pass_ok RH RS hd hp
    dsimp only at h
    cases hfd : p.fns[f]? with
    | none =>
      have hr : (p.g n).run f ds w.hh = .bad := by
        show p.run n f ds w.hh = .bad
        cases n with
        | zero => rfl
        | succ n => rw [P.run, hfd]
      rw [hr] at h
      exact h.elim
    | some fd =>
      obtain ⟨n1, n2, n3⟩ := hf fd hfd
      have hmf : p.modes f = fd.modes := by unfold P.modes; rw [hfd]
      rw [hmf] at k2 k3
      refine ⟨fd, w.into, ds, hfd, rfl, into_H RH, k1, k2, slots_ok (N f) n1 k1 k2 (by omega) (fun i s v e1 e2 => (k3 i s v e1 e2).1) (fun i j d e q e1 e2 e3 e4 => ?_) (fun d x e _ => nomatch e), fun z => (by rw [n3] at z; cases z), ?_⟩
      · exact absurd rfl ((k3 i _ _ e1 e3).2 d)
      · have h : Post T Wx a σ w (rRC T a σ) Q (p.run n f ds w.hh).reB := h
        show PostC T fd.init w.into vs Q (WE Wx σ) (p.run n f ds w.hh)
        cases hr : p.run n f ds w.hh with
        | bad => rw [hr] at h; exact h.elim
        | ok d fr hh =>
          rw [hr] at h
          rw [n3]
          show ∀ v w', _
          intro v w' le e1 R' rt
          have le := InB.of le
          refine h v (w.back w') (back_le le) e1 (back_H RH le R') (back_S RH RS le R') ?_
          show if fr = true then _ else _
          unfold RtV at rt
          split at rt
          · rename_i hfr; rw [if_pos hfr]; exact back_fr RH RS le R' rt
          · rename_i hfr; rw [if_neg hfr]; exact rt
        | exc c es hh =>
          rw [hr] at h
          intro dA w' le e1 R' xa
          have le := InB.of le
          exact h dA (w.back w') (back_le le) e1 (back_H RH le R') (back_S RH RS le R') xa
/-- .. of an __init__ -/
theorem make_ok {w : Wo} {a : List SL} {σ : Ev.St} {c : Nat} {vs : List V} {rs : List RV} {Q : VK} (hf : ∀ fd, p.fns[f]? = some fd → (N f).length = fd.nslots ∧ fd.modes.length ≤ fd.nslots ∧ fd.init = true ∧ fd.modes.head? = some .ow) (RH : RepH T w) (RS : RepS T w a σ) (hd : HdL T a σ w vs rs)
    (h : Post T Wx a σ w (rP T a σ) Q (makeG (p.g n) a c f rs w.hh)) {x dx : Addr} (hx : w.H x = none) (hdx : w.H dx = none) (hne : dx ≠ x) :
    spEv T p N n f (.ref x :: vs) (upd (upd w.H dx (.own x)) x (.ins (T.cls c) dx [])) (fun v H2 => v = .non ∧ Q (.ref x) H2) (WE Wx σ) := by
  unfold makeG at h
  have hm : (p.g n).modes f = p.modes f := rfl
  rw [hm] at h
  cases hp : passA a ((p.modes f).drop 1) rs with
  | none => rw [hp] at h; exact h.elim
  | some ds =>
    rw [hp] at h
    obtain ⟨k1, k2, k3⟩ := pass_ok RH RS hd hp
    dsimp only at h
    cases hfd : p.fns[f]? with
    | none =>
      have hr : (p.g n).run f (.ins c [] :: ds) w.hh = .bad := by
        show p.run n f _ w.hh = .bad
        cases n with
        | zero => rfl
        | succ n => rw [P.run, hfd]
      rw [hr] at h
      exact h.elim
    | some fd =>
      obtain ⟨n1, n2, n3, n4⟩ := hf fd hfd
      have hmf : p.modes f = fd.modes := by unfold P.modes; rw [hfd]
      rw [hmf] at k2 k3
      obtain ⟨ms, hms⟩ : ∃ ms, fd.modes = .ow :: ms := by
        cases hq : fd.modes with
        | nil => rw [hq] at n4; cases n4
        | cons m ms => rw [hq] at n4; cases n4; exact ⟨ms, rfl⟩
      rw [hms, List.drop_one, List.tail_cons] at k2 k3
      have R00 := into_H RH
      have R0 : RepH T { w.into with me := some x } := ⟨R00.sub, R00.pr, R00.fp, R00.f0, R00.mp, R00.ml, R00.nd, R00.lo⟩
      generalize hwi : ({ w.into with me := some x } : Wo) = wi at R0
      have i1 : wi.Pr = w.into.Pr := by rw [← hwi]
      have i2 : wi.F0 = w.F := by rw [← hwi]; rfl
      have i3 : wi.F = w.F := by rw [← hwi]; rfl
      have i4 : wi.m = w.m := by rw [← hwi]; rfl
      have i5 : wi.hh = w.hh := by rw [← hwi]; rfl
      have i6 : wi.H = w.H := by rw [← hwi]; rfl
      have i7 : wi.me = some x := by rw [← hwi]
      have hdx' : wi.H dx = none := by rw [i6]; exact hdx
      have R1 : RepH T (wi.newO dx (.own x)) := newO_H R0 hdx'
      have hx1 : (wi.newO dx (.own x)).H x = none := by
        show upd wi.H dx (.own x) x = none
        rw [upd_ne hne.symm, i6]; exact hx
      have R2 : RepH T ((wi.newO dx (.own x)).newO x (.ins (T.cls c) dx [])) := newO_H R1 hx1
      have le2 : wi.le ((wi.newO dx (.own x)).newO x (.ins (T.cls c) dx [])) := newO_le.trans newO_le
      have inb : ∀ {w'}, ((wi.newO dx (.own x)).newO x (.ins (T.cls c) dx [])).le w' → InB w w' := fun {w'} le => by
        have l := le2.trans le
        exact ⟨l.pr.trans i1, l.f0.trans i2, fun q u e => l.f q u (by rw [i3]; exact e), fun k q e => l.m k q (by rw [i4]; exact e)⟩
      have into_le : ∀ {s o}, SlOk T w.into s o → (∀ d, s ≠ .ow d) → SlOk T ((wi.newO dx (.own x)).newO x (.ins (T.cls c) dx [])) s o := fun {s o} h hn => by
        cases s with
        | no => trivial
        | ow d => exact absurd rfl (hn d)
        | ex c ds =>
          obtain ⟨b, d, e1, e2, e3⟩ := h
          exact ⟨b, d, e1, e2, e3.mono (fun q u z => by show wi.F q = some u; rw [i3]; exact z) (fun k q z => by show wi.m[k]? = some q; rw [i4]; exact z)⟩
        | pu d =>
          obtain ⟨v, e, f⟩ := h
          exact ⟨v, e, f.mono (fun q u z => by show wi.F q = some u; rw [i3]; exact z) (fun k q z => by show wi.m[k]? = some q; rw [i4]; exact z)⟩
        | bo d =>
          obtain ⟨v, e, f⟩ := h
          refine ⟨v, e, ?_⟩
          rcases f with f | ⟨q, ev, f⟩
          · exact .inl (f.mono (fun q u z => by show wi.F q = some u; rw [i3]; exact z) (fun k q z => by show wi.m[k]? = some q; rw [i4]; exact z))
          · exact .inr ⟨q, ev, f.mono (fun q u z => by show wi.F q = some u; rw [i3]; exact z) (fun k q z => by show wi.m[k]? = some q; rw [i4]; exact z) (by show wi.Pr q = _; rw [i1])⟩
      obtain ⟨g1, g2, g3⟩ := free_of R0 (show wi.H x = none by rw [i6]; exact hx)
      refine ⟨fd, (wi.newO dx (.own x)).newO x (.ins (T.cls c) dx []), .ins c [] :: ds, hfd, (by show upd (upd wi.H dx _) x _ = _; rw [i6]), R2, by simp [k1], by rw [hms]; simp [k2], slots_ok (N f) n1 (by simp [k1]) (by rw [hms]; simp [k2]) (by rw [hms] at n2; simp [k2] at n2 ⊢; exact n2) (fun i s v e1 e2 => ?_) (fun i j d e q e1 e2 e3 e4 => ?_) (fun d y e1 e2 => ?_), fun _ => ⟨x, vs, rfl, i7⟩, ?_⟩
      · rw [hms, List.zipWith_cons_cons] at e1
        cases i with
        | zero =>
          simp at e1 e2
          subst e1 e2
          exact ⟨x, rfl, g1, g2, g3, dx, [], by rw [List.zip_nil_right]; exact upd_same, Nat.zero_le _, .nil⟩
        | succ i =>
          obtain ⟨k4, k5⟩ := k3 i s v (by simpa using e1) (by simpa using e2)
          exact into_le k4 k5
      · rw [hms, List.zipWith_cons_cons] at e1 e2
        cases i with
        | succ i => exact absurd rfl ((k3 i _ _ (by simpa using e1) (by simpa using e3)).2 d)
        | zero =>
          cases j with
          | succ j => exact absurd rfl ((k3 j _ _ (by simpa using e2) (by simpa using e4)).2 e)
          | zero => rfl
      · have e1 : wi.me = some y := e1
        rw [i7] at e1
        cases e1
        rfl
      · have h : Post T Wx a σ w (rP T a σ) Q (p.run n f (.ins c [] :: ds) w.hh).reB.fst := h
        show PostC T fd.init _ (.ref x :: vs) _ (WE Wx σ) (p.run n f (.ins c [] :: ds) wi.hh)
        rw [i5]
        cases hr : p.run n f (.ins c [] :: ds) w.hh with
        | bad => rw [hr] at h; exact h.elim
        | ok d fr hh =>
          rw [hr] at h
          rw [n3]
          show ∀ w', _
          intro w' le e1 R' rt
          obtain ⟨x', r, ex, rt⟩ := rt
          cases ex
          have le' := inb le
          have h : Post T Wx a σ w (rP T a σ) Q (.ok d hh) := h
          have b := back_fr RH RS le' R' rt
          refine ⟨rfl, h (.ref x) (w.back w') (back_le le') e1 (back_H RH le' R') (back_S RH RS le' R') ?_⟩
          have ho : isObj d = true := by
            obtain ⟨q, e, _, _, _, k⟩ := rt
            cases d <;> first | rfl | exact k.elim
          rw [rP, if_pos ho]
          exact b
        | exc c es hh =>
          rw [hr] at h
          intro dA w' le e1 R' xa
          have le' := inb le
          exact h dA (w.back w') (back_le le') e1 (back_H RH le' R') (back_S RH RS le' R') xa
end
end Ev
end
section
set_option Elab.async false
set_option linter.all false
set_option maxRecDepth 100000
set_option maxHeartbeats 2000000
/-! Ev, part M: the forms of calls. -/
namespace Ev
open PySem PySem.Spec PyProof.Rows L2
section
variable {prog : Program} {wd : World} {M : Model} {A : Around} {Ex : Value → Shared → Prop} {st : Shared}
/-- o.name(args), all on one line, few plain arguments -/
theorem call_attr {env : Env} {o : Expr} {nm : PySem.Str} {ap cp : Pos} {args : List Expr} {R : Value → Shared → Prop} (hb : attributeBase o nm env (eval o env) = eval o env) (hpl : args.all plE = true) (hn : args.length < 20) (hl : (ap.endLine == cp.line) = true)
    (h : wpAny M A (eval o env) (fun u s1 => wpAny M A (getMethod u nm (do return (← importBound o env).getD true)) (fun z s2 => wpAny M A (callWith cp z.1 z.2 (backTo cp (starEach args env)) []) R Ex s2) Ex s1) Ex st) :
    wpAny M A (eval (.Call (.Attribute o nm ap) args [] cp) env) R Ex st := by
  have hform : methodCallForm (args.length + 0) (backTo cp (starEach args env)) (backToKw cp (keywordEach [] env)) = true := few_pl hpl hn
  have hpos : methodCallPos true o env ap cp = pure cp := by unfold methodCallPos; simp [hl]
  rw [arm_eval_Call, hb]
  refine wpAny_bind (thn h fun u s1 h1 => wpAny_bind (wpAny_standAt ?_))
  show wpAny M A (methodCall o nm ap cp env u (args.length + 0) (backTo cp (starEach args env)) (backToKw cp (keywordEach [] env))) R Ex s1
  unfold methodCall
  rw [hform]
  refine wpAny_bind (wpAny_holding (thn h1 fun z s2 h2 => ?_))
  exact wpAny_bind (wpAny_of_eq hpos h2)
end
section
variable {T : Tb} {Wx : WX} {X : Cx} {p : P} {fdt : Nat → FuncData} {N ps : Nat → List PySem.Str} {n f : Nat} {x e o : Expr} {es : List Expr} {pos : Pos} {Φrs : List SL → List D → RE (List RV)} {ΦR : List SL → List D → RE RV}
/-- what is asked of a def that is called -/
def ModOk (p : P) (N : Nat → List PySem.Str) (f : Nat) (init : Bool) : Prop := ∀ fd, p.fns[f]? = some fd → (N f).length = fd.nslots ∧ fd.modes.length ≤ fd.nslots ∧ fd.init = init ∧ (init = true → fd.modes.head? = some .ow)
theorem call_post {w1 : Wo} {a : List SL} {σ : Ev.St} {vs : List V} {rs : List RV} {Q : VK} (hf : ModOk p N f false) (RH : RepH T w1) (RS : RepS T w1 a σ) (hd : HdL T a σ w1 vs rs)
    (h : Post T Wx a σ w1 (rRC T a σ) Q (callG (p.g n) a f rs w1.hh)) : spEv T p N n f vs w1.H Q (WE Wx σ) :=
  call_ok (fun fd hfd => ⟨(hf fd hfd).1, (hf fd hfd).2.1, (hf fd hfd).2.2.1⟩) RH RS hd h
theorem dc_call {z : PySem.Str} {p1 : Pos} (F : FnTab T p fdt N ps n X) (hf : f < p.fns.length) (hm : ModOk p N f false) (tk : Takes X Wx) (hg : Gl X z) (hz : X.mg z = some (.ref (T.fnA f))) (hd : (z == ("__debug__" : PySem.Str)) = false)
    (ha : DAR T Wx X (e :: es) Φrs) (hp : plE e = true) (hps : es.all plE = true) : DCl T Wx X (.Call (.Name z p1) (e :: es) [] pos) (fun a hh => (Φrs a hh).bind (callG (p.g n) a f)) := by
  refine ⟨fun pins s σ H Q I ⟨w, a, eH, RH, RS, q⟩ => ?_⟩
  refine wpAny_Call_Name_kw (ld_glob I hg hz ?_ hd)
  refine PySem.W.callWith_K (h₀ := X.base) I.ok.mod.kin (F.kp f hf) (thn (ha.run pos pins s σ H _ I ⟨w, a, eH, RH, RS, q.bind (Rel := rHdL T a σ)⟩) fun us s1 ⟨vs, H1, I1, r, w1, l, le, e1, RH1, RS1, f1, q1⟩ => ⟨I1.kIn, ?_⟩) (star_pl hp) (anyStar_pl hps)
  subst e1
  exact go_fn (F.fn f hf) (F.room.mono (Nat.le_succ _)) F.gd (F.bd f hf) tk I1 r (call_post hm RH1 RS1 f1 q1)
theorem dc_call0 {z : PySem.Str} {p1 : Pos} (F : FnTab T p fdt N ps n X) (hf : f < p.fns.length) (hm : ModOk p N f false) (tk : Takes X Wx) (hg : Gl X z) (hz : X.mg z = some (.ref (T.fnA f))) (hd : (z == ("__debug__" : PySem.Str)) = false) :
    DCl T Wx X (.Call (.Name z p1) [] [] pos) (fun a hh => callG (p.g n) a f [] hh) := by
  refine ⟨fun pins s σ H Q I ⟨w, a, eH, RH, RS, q⟩ => ?_⟩
  refine wpAny_Call_Name_kw (ld_glob I hg hz ?_ hd)
  refine PySem.W.callWith_K0 I.kIn (F.kp f hf) (go_fn (us := []) (F.fn f hf) (F.room.mono (Nat.le_succ _)) F.gd (F.bd f hf) tk I .nil ?_)
  rw [← eH]
  exact call_post hm RH RS ⟨rfl, fun i v r e => by simp at e⟩ q
/-! ### methods -/
/-- o.m(..), the class seen when o is there -/
structure MethOk (T : Tb) (g : G) (X : Cx) (m : Nat) (nm : PySem.Str) : Prop where
  ok : ∀ c f, g.meth c m = some f → Cls T.K (T.cls c) ∧ Meth T.K (T.cls c) nm (T.fnA f) ∧ nm ∉ T.flds c
theorem dc_meth {m : Nat} {nm : PySem.Str} {p1 : Pos} (hK : X.K = T.K) (F : FnTab T p fdt N ps n X) (hM : MethOk T (p.g n) X m nm) (hfs : ∀ c f, (p.g n).meth c m = some f → f < p.fns.length ∧ ModOk p N f false) (tk : Takes X Wx) (ho : DR T Wx X o ΦR) (hs : supE o = true)
    (ha : DAR T Wx X (e :: es) Φrs) (hp : plE e = true) (hps : es.all plE = true) (hn : es.length < 19) (hl : (p1.endLine == pos.line) = true) :
    DCl T Wx X (.Call (.Attribute o nm p1) (e :: es) [] pos) (fun a hh => (ΦR a hh).bind fun r h1 => match look a h1 r with
      | some (.ins c _) => (match (p.g n).meth c m with
        | some f => (Φrs a h1).bind fun l h2 => callG (p.g n) a f (r :: l) h2
        | none => .bad)
      | _ => .bad) := by
  refine ⟨fun pins s σ H Q I ⟨w, a, eH, RH, RS, q⟩ => ?_⟩
  refine call_attr (attr_sup hs nm) (by rw [List.all_cons, hp]; exact hps) (by rw [List.length_cons]; omega) hl ?_
  refine thn (ho.run pins s σ H _ I ⟨w, a, eH, RH, RS, q.bind (Rel := rHd T a σ)⟩) fun u s1 ⟨v, H1, I1, rx, w1, r, le, e1, RH1, RS1, f1, q1⟩ => ?_
  dsimp only at q1
  split at q1
  case h_2 => exact q1.elim
  rename_i c us hl1
  obtain ⟨b, dx, xs, rfl, k1, k2, k3⟩ := (look_ok RH1 RS1 f1 hl1).ins RH1
  cases hmf : (p.g n).meth c m with
  | none => rw [hmf] at q1; exact q1.elim
  | some f =>
    rw [hmf] at q1
    dsimp only at q1
    obtain ⟨c1, c2, c3⟩ := hM.ok c f hmf
    obtain ⟨f2, f3⟩ := hfs c f hmf
    cases rx
    rw [← hK] at c1 c2
    refine getmeth_ok I1 (by rw [← e1]; exact k1) c1 c2 (zip_lookup_none c3) ?_
    refine PySem.W.callWith_K (first := [.ref b]) (h₀ := X.base) I.ok.mod.kin c2.kp (thn (ha.run pos pins s1 σ H1 _ I1 ⟨w1, a, e1, RH1, RS1, q1.bind (Rel := rHdL T a σ)⟩) fun us2 s2 ⟨vs, H2, I2, r2, w2, l, le2, e2, RH2, RS2, g1, q2⟩ => ⟨I2.kIn, ?_⟩) (star_pl hp) (anyStar_pl hps)
    refine go_fn (us := .ref b :: us2) (vs := .ref b :: vs) (F.fn f f2) (F.room.mono (Nat.le_succ _)) F.gd (F.bd f f2) tk I2 (.cons rfl r2) ?_
    rw [← e2]
    refine call_post f3 RH2 RS2 ⟨by simp [g1.1], fun i y z h1 h2 => ?_⟩ q2
    cases i with
    | zero => simp at h1 h2; subst h1 h2; exact Hd.mono le2 f1
    | succ i => exact g1.2 i y z (by simpa using h1) (by simpa using h2)
theorem dc_meth0 {m : Nat} {nm : PySem.Str} {p1 : Pos} (hK : X.K = T.K) (F : FnTab T p fdt N ps n X) (hM : MethOk T (p.g n) X m nm) (hfs : ∀ c f, (p.g n).meth c m = some f → f < p.fns.length ∧ ModOk p N f false) (tk : Takes X Wx) (ho : DR T Wx X o ΦR) (hs : supE o = true)
    (hl : (p1.endLine == pos.line) = true) :
    DCl T Wx X (.Call (.Attribute o nm p1) [] [] pos) (fun a hh => (ΦR a hh).bind fun r h1 => match look a h1 r with
      | some (.ins c _) => (match (p.g n).meth c m with
        | some f => callG (p.g n) a f [r] h1
        | none => .bad)
      | _ => .bad) := by
  refine ⟨fun pins s σ H Q I ⟨w, a, eH, RH, RS, q⟩ => ?_⟩
  refine call_attr (attr_sup hs nm) rfl (Nat.zero_lt_succ _) hl ?_
  refine thn (ho.run pins s σ H _ I ⟨w, a, eH, RH, RS, q.bind (Rel := rHd T a σ)⟩) fun u s1 ⟨v, H1, I1, rx, w1, r, le, e1, RH1, RS1, f1, q1⟩ => ?_
  dsimp only at q1
  split at q1
  case h_2 => exact q1.elim
  rename_i c us hl1
  obtain ⟨b, dx, xs, rfl, k1, k2, k3⟩ := (look_ok RH1 RS1 f1 hl1).ins RH1
  cases hmf : (p.g n).meth c m with
  | none => rw [hmf] at q1; exact q1.elim
  | some f =>
    rw [hmf] at q1
    dsimp only at q1
    obtain ⟨c1, c2, c3⟩ := hM.ok c f hmf
    obtain ⟨f2, f3⟩ := hfs c f hmf
    cases rx
    rw [← hK] at c1 c2
    refine getmeth_ok I1 (by rw [← e1]; exact k1) c1 c2 (zip_lookup_none c3) ?_
    refine PySem.W.callWith_K0 (first := [.ref b]) I1.kIn c2.kp (go_fn (us := [.ref b]) (vs := [.ref b]) (F.fn f f2) (F.room.mono (Nat.le_succ _)) F.gd (F.bd f f2) tk I1 (.cons rfl .nil) ?_)
    rw [← e1]
    refine call_post f3 RH1 RS1 ⟨rfl, fun i y z h1 h2 => ?_⟩ q1
    cases i with
    | zero => simp at h1 h2; subst h1 h2; exact f1
    | succ i => simp at h1
/-! ### instances -/
theorem made_run {c : Nat} {pins : List (Addr × Obj)} {σ : Ev.St} {s : Shared} {Q : VK} {us : List Value} {vs : List V} {w : Wo} {a : List SL} {rs : List RV} (hK : X.K = T.K) (F : FnTab T p fdt N ps n X) (hf : f < p.fns.length) (hm : ModOk p N f true) (tk : Takes X Wx) (C : Mk X.K (T.cls c) (T.fnA f))
    (I : Inv X pins σ w.H s) (RH : RepH T w) (RS : RepS T w a σ) (r : Vals vs us) (hd : HdL T a σ w vs rs) (h : Post T Wx a σ w (rP T a σ) Q (makeG (p.g n) a c f rs w.hh)) :
    wpAny (model X.prog X.w) X.A (call (.ref (T.cls c)) us) (EP X pins σ Q) X.xe s := by
  have lt : s.heap.objs.size < s.heap.objs.size + 1 := Nat.lt_succ_self _
  have sp := make_ok (f := f) (fun fd hfd => ⟨(hm fd hfd).1, (hm fd hfd).2.1, (hm fd hfd).2.2.1, (hm fd hfd).2.2.2 rfl⟩) RH RS hd h (I.hok.fresh (Nat.le_of_lt lt)) (I.hok.fresh (Nat.le_refl _)) (Nat.ne_of_lt lt)
  have J := Inv.made (C := T.cls c) I
  have rr : Vals (V.ref (s.heap.objs.size + 1) :: vs) (Value.ref (s.heap.objs.size + 1) :: us) := .cons rfl r
  have FN := F.fn f hf
  have hlen : (Value.ref (s.heap.objs.size + 1) :: us).length = (ps f).length := by rw [← rr.length]; exact FN.len _ _ _ _ sp
  have B := F.bd f hf
  have run := FN.run (X.A.under (.builtin "type.__call__" ⟨.ref (T.cls c) :: us, []⟩)) X.stack _ _ ⟨Value.ref (s.heap.objs.size + 1) :: us, []⟩ (Value.ref (s.heap.objs.size + 1) :: us) _ _ _ (F.room.make (T.cls c) us []) (guards_under.trans F.gd) (J.env0.make (T.cls c) us [])
    (by have b := B _ (Value.ref (s.heap.objs.size + 1) :: us) J.kIn (by rw [List.append_nil]; exact hlen); rw [List.append_nil] at b; exact b) rr sp
  refine wpAny_call (make_map (f := T.fnA f) I.kIn C.makes C.init (beq_iff_eq.mp C.fn) (codeAny_mono run fun out s2 hq => ?_))
  cases out with
  | error e => exact passAt tk σ pins _ _ e s2 J hq
  | ok fl =>
    cases fl with
    | next => exact hq.elim
    | brk => exact hq.elim
    | cont => exact hq.elim
    | ret u =>
      obtain ⟨v, H2, J2, rv, rfl, q2⟩ := J.after hq
      exact ⟨rv, .ref (s.heap.objs.size + 1), H2, J2, rfl, q2⟩
theorem dp_mk {c : Nat} {z : PySem.Str} {p1 : Pos} (hK : X.K = T.K) (F : FnTab T p fdt N ps n X) (hf : f < p.fns.length) (hm : ModOk p N f true) (tk : Takes X Wx) (C : Mk X.K (T.cls c) (T.fnA f)) (hg : Gl X z) (hz : X.mg z = some (.ref (T.cls c))) (hd : (z == ("__debug__" : PySem.Str)) = false)
    (ha : DAR T Wx X (e :: es) Φrs) (hp : plE e = true) (hps : es.all plE = true) : DP T Wx X (.Call (.Name z p1) (e :: es) [] pos) (fun a hh => (Φrs a hh).bind (makeG (p.g n) a c f)) := by
  refine ⟨fun pins s σ H Q I ⟨w, a, eH, RH, RS, q⟩ => ?_⟩
  refine wpAny_Call_Name_kw (ld_glob I hg hz ?_ hd)
  refine PySem.W.callWith_K (h₀ := X.base) I.ok.mod.kin C.kp (thn (ha.run pos pins s σ H _ I ⟨w, a, eH, RH, RS, q.bind (Rel := rHdL T a σ)⟩) fun us s1 ⟨vs, H1, I1, r, w1, l, le, e1, RH1, RS1, f1, q1⟩ => ⟨I1.kIn, ?_⟩) (star_pl hp) (anyStar_pl hps)
  subst e1
  exact made_run hK F hf hm tk C I1 RH1 RS1 r f1 q1
theorem dp_mk0 {c : Nat} {z : PySem.Str} {p1 : Pos} (hK : X.K = T.K) (F : FnTab T p fdt N ps n X) (hf : f < p.fns.length) (hm : ModOk p N f true) (tk : Takes X Wx) (C : Mk X.K (T.cls c) (T.fnA f)) (hg : Gl X z) (hz : X.mg z = some (.ref (T.cls c))) (hd : (z == ("__debug__" : PySem.Str)) = false) :
    DP T Wx X (.Call (.Name z p1) [] [] pos) (fun a hh => makeG (p.g n) a c f [] hh) := by
  refine ⟨fun pins s σ H Q I ⟨w, a, eH, RH, RS, q⟩ => ?_⟩
  refine wpAny_Call_Name_kw (ld_glob I hg hz ?_ hd)
  subst eH
  exact PySem.W.callWith_K0 I.kIn C.kp (made_run (us := []) (vs := []) (rs := []) hK F hf hm tk C I RH RS .nil ⟨rfl, fun i v r e => by simp at e⟩ q)
end
end Ev
end
section
set_option Elab.async false
set_option linter.all false
set_option maxRecDepth 100000
set_option maxHeartbeats 2000000
/-! Ev, part N: a def's body, level by level. -/
namespace Ev
open PySem PySem.Spec PyProof.Rows L2
section
variable {T : Tb} {Wx : WX} {w : Wo} {vs : List V} {Q : VK} {E : XK}
theorem post_end {init : Bool} {r : RS} (hi : init = true → ∃ x us, vs = .ref x :: us ∧ w.me = some x) (h : PostC T init w vs Q E (endF init r)) : PostS T (fun cls d _ H => E cls d H) w { nx := fun _ H' => Q .non H', rt := Q } r := by
  cases r with
  | nx a hh =>
    intro σ' w' le e1 R' S'
    cases init with
    | false => exact h .non w' le e1 R' (by rw [RtV, if_neg Bool.false_ne_true]; exact .non)
    | true =>
      obtain ⟨x, us, ev, hm⟩ := hi rfl
      have h : PostC T true w vs Q E (match (a[0]? : Option SL) with
        | some (.ow d) => .ok d true hh
        | _ => .bad) := h
      split at h
      · rename_i d hd
        refine h w' le e1 R' ⟨x, us, ev, ?_⟩
        obtain ⟨q, k1, k2, k3, k4, k5⟩ := S'.sl 0 _ hd
        have := S'.me d x (by rw [le.me]; exact hm) hd
        rw [k1] at this
        cases this
        exact ⟨_, rfl, k2, k3, k4, k5⟩
      · exact h.elim
  | ret d fr hh =>
    cases init with
    | false => exact h
    | true => exact h.elim
  | exc c ds a hh => exact fun dA σ' w' le e1 R' S' xa => h dA w' le e1 R' xa
  | bad => cases init <;> exact h.elim
end
section
variable {T : Tb} {p : P} {fdt : Nat → FuncData} {N ps : Nat → List PySem.Str} {n f : Nat}
variable {prog : Program} {wd : World} {K : PySem.W.Frag} {mg : PySem.Str → Option Value} {base : Heap}
/-- one level more -/
theorem fn_step {x qual : PySem.Str} {st : Stmt} {fd : FuncData} {b : Fd} (hb : p.fns[f]? = some b) (F : Fun K x qual st (T.fnA f) fd) (S : FnScope (N f) (ps f) (defScope st)) (hl : (ps f).length = b.modes.length)
    (body : ∀ (cdv : Value) (A : Around) (outer : List Env) (s : Shared) (H : Hp) (E : XK), Room (2 * n + 1) (A.deeper (envOfC qual (defScope st) s.heap.objs.size (T.fnA f) cdv)) → A.guards = some [] →
      DSs T (fun cls d _ H => E cls d H) (cxOf (L2.CX prog wd) prog wd K mg base (N f) qual (defScope st) (T.fnA f) cdv A outer s H E) (defBody st) (fun a h => evSs (p.g n) b.body a h)) :
    FnG prog wd K mg base (L2.CX prog wd) (2 * (n + 1)) (T.fnA f) fd (ps f) (spEv T p N (n + 1) f) := by
  have len : ∀ vs H Q E, spEv T p N (n + 1) f vs H Q E → vs.length = (ps f).length := fun vs H Q E ⟨b', w, ds, e, _, _, h1, h2, _⟩ => by
    rw [hb] at e
    cases e
    rw [h1, h2, hl]
  refine fn_body F S len fun cdv A outer s H vs Q E hr hgd ⟨b', w, ds, e, eH, RH, h1, h2, RS, hi, q⟩ => ⟨_, body cdv A outer s H E hr hgd, w, _, eH, RH, RS, ?_⟩
  rw [hb] at e
  cases e
  rw [P.run, hb] at q
  dsimp only at q
  rw [if_pos h2] at q
  exact post_end hi q
theorem fn_zero {fd : FuncData} : FnG prog wd K mg base (L2.CX prog wd) (2 * 0) (T.fnA f) fd (ps f) (spEv T p N 0 f) :=
  ⟨fun vs H Q E ⟨b, w, ds, e, _, _, _, _, _, _, q⟩ => q.elim, fun A outer s H args us vs Q E _ _ _ _ _ ⟨b, w, ds, e, _, _, _, _, _, _, q⟩ => q.elim⟩
end
end Ev
end
section
set_option Elab.async false
set_option linter.all false
set_option maxRecDepth 100000
set_option maxHeartbeats 2000000
/-! Ev, part O: isinstance; built-in names; list(range(..)). -/
namespace Ev
open PySem PySem.Spec PyProof.Rows L2
section
variable {T : Tb} {Wx : WX} {X : Cx} {x y z : Expr} {es : List Expr} {pos : Pos} {Φ Ψ : List SL → List D → RE D} {ΦR : List SL → List D → RE RV}
theorem pe_tyname {nm : PySem.Str} {n : String} {p : Pos} (hg : Gl X nm) (hm : X.mg nm = none) (hv : bootBuiltins nm = some (.type n)) (hn : nm ≠ "__name__") (hd : (nm == ("__debug__" : PySem.Str)) = false) : PE X (.Name nm p) (tC (.ty n)) :=
  ⟨fun pins s σ H Q I h => ld_blt I hg hm hv ⟨.ty n, H, I, rfl, h⟩ hn hd⟩
/-- a class, as the tracked value and as the value -/
def clsV (T : Tb) : Ty → V
  | .int => .ty "int"
  | .bool => .ty "bool"
  | .str => .ty "str"
  | .list => .ty "list"
  | .tuple => .ty "tuple"
  | .cls c => .ref (T.cls c)
  | .exc c => .ref (T.xcls c)
  | .bexc x => .ty x
def clsU (T : Tb) : Ty → Value
  | .int => .type "int"
  | .bool => .type "bool"
  | .str => .type "str"
  | .list => .type "list"
  | .tuple => .type "tuple"
  | .cls c => .ref (T.cls c)
  | .exc c => .ref (T.xcls c)
  | .bexc x => .type x
theorem clsV_ok (T : Tb) (t : Ty) : ClsV (clsV T t) (clsU T t) := by cases t <;> constructor
/-- a datum's type -/
def tyD (T : Tb) : D → Value
  | .non => .type "NoneType"
  | .bl _ => .type "bool"
  | .int _ => .type "int"
  | .str _ => .type "str"
  | .tup _ => .type "tuple"
  | .lst _ => .type "list"
  | .zst _ => .type "list"
  | .dct _ _ => .type "dict"
  | .ins c _ => .ref (T.cls c)
  | .loc _ => .none
  | .fn _ => .type "function"
/-- what is to be known of the program's classes -/
structure IsiT (T : Tb) (n : Nat) : Prop where
  ins : ∀ c, c < n → Cls T.K (T.cls c) ∧ PySem.W.findIn T.K (.ref (T.cls c)) "__class__" = some (some (.builtin "object.__class__")) ∧ PySem.W.specialIn T.K (.builtin "object.__class__") "__get__" = some (some (.builtin "getset_descriptor.__get__")) ∧
    PySem.W.takesIn T.K (.builtin "object.__class__") = some true ∧ PySem.W.mroIn T.K (T.cls c) (.type "object") = some true
  own : ∀ c k, c < n → k < n → PySem.W.kitOne T.K (.ref (T.cls c)) (.ref (T.cls k)) = some (c == k)
  blt : ∀ c, c < n → ∀ t ∈ ["int", "bool", "str", "list", "tuple"], PySem.W.kitOne T.K (.ref (T.cls c)) (.type t) = some false
  rev : ∀ k, k < n → ∀ t ∈ ["NoneType", "int", "bool", "str", "list", "tuple"], PySem.W.kitOne T.K (.type t) (.ref (T.cls k)) = some false
theorem sqT_ty {K : PySem.W.Frag} {H : Hp} {a : Addr} {xs : List V} (h : SqT K H a xs) : TyX K H (.ref a) (.type "tuple") := by
  rcases h with (h | ⟨o, h⟩) | h
  · exact .base (.tup h)
  · exact .fTuple h
  · obtain ⟨o, its, n, h1, h2, _⟩ := h
    exact .kTuple h1 h2
theorem sqL_ty {K : PySem.W.Frag} {H : Hp} {a : Addr} {xs : List V} (h : SqL K H a xs) : TyX K H (.ref a) (.type "list") := by
  rcases h with (h | ⟨o, h⟩) | h
  · exact .base (.lst h)
  · exact .base (.frz h)
  · obtain ⟨o, its, n, h1, h2, _⟩ := h
    exact .kList h1 h2
theorem vw_ty {n : Nat} {w : Wo} {v : V} {d : D} (I : IsiT T n) (R : RepH T w) (h : Vw T w v d) (hd : tyOk n d = true) : TyX T.K w.H v (tyD T d) := by
  cases d with
  | non => cases h.non; exact .base .non
  | bl b => cases h.bl; exact .base (.bl b)
  | int i => cases h.int; exact .base (.int i)
  | str z => cases h.str; exact .base (.str z)
  | tup l => obtain ⟨a, xs, rfl, e, _⟩ := h.sqT R; exact sqT_ty e
  | lst l => obtain ⟨a, xs, rfl, e, _⟩ := h.lst R; exact .base (.lst e)
  | zst l => obtain ⟨a, xs, rfl, e, _⟩ := h.zst R; exact sqL_ty e
  | dct ks vs => exact absurd hd Bool.false_ne_true
  | loc n => exact absurd hd Bool.false_ne_true
  | fn n => exact absurd hd Bool.false_ne_true
  | ins c vs =>
    obtain ⟨a, dx, xs, rfl, e, _⟩ := h.ins R
    obtain ⟨k1, k2, k3, k4, k5⟩ := I.ins c (of_decide_eq_true hd)
    exact .base (.ins e k1 k2 k3 k4 k5)
theorem kit_d {n : Nat} {sub : Nat → Nat → Bool} {d : D} {t : Ty} (I : IsiT T n) (hd : tyOk n d = true) (ht : tyOk2 n t = true) : PySem.W.kitOne T.K (tyD T d) (clsU T t) = some (isTy sub d t) := by
  cases t with
  | cls k =>
    have hk := of_decide_eq_true ht
    cases d with
    | ins c vs => exact I.own c k (of_decide_eq_true hd) hk
    | dct ks vs => exact absurd hd Bool.false_ne_true
    | loc n => exact absurd hd Bool.false_ne_true
    | fn n => exact absurd hd Bool.false_ne_true
    | _ => exact I.rev k hk _ (by simp)
  | exc c => exact absurd ht Bool.false_ne_true
  | bexc c => exact absurd ht Bool.false_ne_true
  | _ =>
    cases d with
    | ins c vs => exact I.blt c (of_decide_eq_true hd) _ (by simp)
    | dct ks vs => exact absurd hd Bool.false_ne_true
    | loc n => exact absurd hd Bool.false_ne_true
    | fn n => exact absurd hd Bool.false_ne_true
    | _ => first | exact kit_ty (r := true) (by decide +kernel) | exact kit_ty (r := false) (by decide +kernel)
theorem kit_all {n : Nat} {sub : Nat → Nat → Bool} {d : D} (I : IsiT T n) (hd : tyOk n d = true) : ∀ {ts : List Ty}, ts.all (tyOk2 n) = true → PySem.W.kitAny T.K (tyD T d) (ts.map (clsU T)) = some (ts.any (isTy sub d))
  | [], _ => rfl
  | t :: ts, h => by
    rw [List.all_cons, Bool.and_eq_true] at h
    rw [List.map_cons, List.any_cons]
    refine kitAny_cons (kit_d (sub := sub) I hd h.1) (fun e => ?_) (fun e => ?_)
    · rw [e, Bool.false_or]; exact kit_all I hd h.2
    · rw [e]; rfl
/-- isinstance(x, C) -/
theorem de_isi1 {n : Nat} {sub : Nat → Nat → Bool} {t : Ty} {p1 : Pos} (hK : X.K = T.K) (I : IsiT T n) (hg : Gl X "isinstance") (hm : X.mg "isinstance" = none) (hx : DR T Wx X x ΦR) (hp : plE x = true) (hc : PE X y (tC (clsV T t))) (hp2 : plE y = true) :
    DE T Wx X (.Call (.Name "isinstance" p1) [x, y] [] pos) (fun a hh => (ΦR a hh).bind fun r h1 => RE.lift ((look a h1 r).bind fun d => if tyOk n d && [t].all (tyOk2 n) then some (.bl ([t].any (isTy sub d))) else none) h1) := by
  refine pe_imp (pe_callB call_isi hg hm PyProof.Rows.Boot.«isinstance» (pa_cons hx (pa_cons hc pa_nil (star_pl hp2)) (star_pl hp)) (by decide) (by decide) (star_pl hp) (anyStar_pl (by rw [List.all_cons, hp2]; rfl))) fun σ H Q ⟨w, a, e, RH, RS, p⟩ => ⟨w, a, e, RH, RS, ?_⟩
  refine (p.bind (Rel := rHd T a σ)).imp fun v H1 ⟨w1, d, le, eH, RH1, RS1, f1, q⟩ => ?_
  obtain ⟨b, hb, q2⟩ := Post.lift q
  obtain ⟨d1, h1, h2⟩ := Option.bind_eq_some_iff.mp hb
  split at h2
  · rename_i hc
    cases h2
    rw [Bool.and_eq_true] at hc
    have ht : tyOk2 n t = true := by simpa using hc.2
    have vw := look_ok RH1 RS1 f1 h1
    refine ⟨v, clsV T t, _, _, _, rfl, clsV_ok T t, by rw [hK, ← eH]; exact vw_ty I RH1 vw hc.1, by rw [hK]; exact kit_d (sub := sub) I hc.1 ht, ?_⟩
    rw [← eH]
    have q3 := q2.val RH1 RS1 (.bl _)
    simpa using q3
  · cases h2
theorem paired_cls (T : Tb) : ∀ ts : List Ty, Paired ClsV (ts.map (clsV T)) (ts.map (clsU T))
  | [] => .nil
  | t :: ts => .cons (clsV_ok T t) (paired_cls T ts)
def tCs (T : Tb) : List Ty → TA
  | [] => tNil
  | t :: ts => tCons (tC (clsV T t)) (tCs T ts)
theorem tCs_run {σ : Ev.St} {H : Hp} : ∀ {ts : List Ty} {Q : List V → Hp → Prop}, Q (ts.map (clsV T)) H → tCs T ts σ H Q
  | [], Q, h => h
  | t :: ts, Q, h => tCs_run (ts := ts) (Q := fun vs H1 => Q (clsV T t :: vs) H1) h
/-- isinstance(x, (C1, C2, ..)) -/
theorem de_isiT {n k : Nat} {sub : Nat → Nat → Bool} {ts : List Ty} {p1 p2 : Pos} (hK : X.K = T.K) (I : IsiT T n) (hg : Gl X "isinstance") (hm : X.mg "isinstance" = none) (hx : DR T Wx X x ΦR) (hp : plE x = true) (hc : PA X es (tCs T ts)) (hl : ts.length < 100) :
    DE T Wx X (.Call (.Name "isinstance" p1) [x, .Tuple es k p2] [] pos) (fun a hh => (ΦR a hh).bind fun r h1 => RE.lift ((look a h1 r).bind fun d => if tyOk n d && ts.all (tyOk2 n) then some (.bl (ts.any (isTy sub d))) else none) h1) := by
  refine pe_imp (pe_callB call_isiT hg hm PyProof.Rows.Boot.«isinstance» (pa_cons hx (pa_cons (pe_tup hc) pa_nil rfl) (star_pl hp)) (by decide) (by decide) (star_pl hp) rfl) fun σ H Q ⟨w, a, e, RH, RS, p⟩ => ⟨w, a, e, RH, RS, ?_⟩
  refine (p.bind (Rel := rHd T a σ)).imp fun v H1 ⟨w1, d, le, eH, RH1, RS1, f1, q⟩ => ?_
  obtain ⟨b, hb, q2⟩ := Post.lift q
  obtain ⟨d1, h1, h2⟩ := Option.bind_eq_some_iff.mp hb
  split at h2
  · rename_i hc
    cases h2
    rw [Bool.and_eq_true] at hc
    have vw := look_ok RH1 RS1 f1 h1
    have ty := vw_ty I RH1 vw hc.1
    refine tCs_run (T := T) (ts := ts) (show _ from ?_)
    refine ⟨by rw [List.length_map]; have : sizeLine = 16777216 := sizeLine_eq; omega, fun p hp => ?_⟩
    subst eH
    have le2 := newF_le (o := .tup (ts.map (clsV T))) RH1 hp
    have R2 := newF_H (o := .tup (ts.map (clsV T))) RH1 hp
    have S2 := newF_S (o := .tup (ts.map (clsV T))) RH1 RS1 hp
    have vw2 : Vw T (w1.newF p (.tup (ts.map (clsV T)))) v d1 := look_ok R2 S2 (Hd.mono le2 f1) h1
    exact ⟨v, p, ts.map (clsV T), _, _, _, rfl, upd_same, paired_cls T ts, by rw [hK]; exact vw_ty I R2 vw2 hc.1, by rw [hK]; exact kit_all (sub := sub) I hc.1 hc.2, q2 _ _ le2 rfl R2 S2 (.bl _)⟩
  · cases h2
/-! ### list(range(..)), tuple(range(..)) -/
theorem dg_1 {p : Pos} (hg : Gl X "range") (hm : X.mg "range" = none) (h : DE T Wx X x Φ) (hp : plE x = true) : DG2 T Wx X (.Call (.Name "range" p) [x] [] pos) (fun a hh => (Ev.iOf (Φ a hh)).bind fun i h1 => .ok (0, i) h1) := by
  intro pins s σ H Q I ⟨w, a, e, RH, RS, q⟩
  refine prg_1 hg hm h (star_pl hp) pins s σ H Q I ⟨w, a, e, RH, RS, ?_⟩
  refine (Post.iOf (q.bind (Rel := fun _ (b : Int) (c : Int) => b = c))).imp fun v H1 ⟨c, hv, w1, d, le, eH, RH1, RS1, f1, q1⟩ => ⟨c, hv, ?_⟩
  cases f1
  rw [← eH]
  exact q1 _ w1 (.refl _) rfl RH1 RS1 rfl
theorem dg_2 {p : Pos} (hg : Gl X "range") (hm : X.mg "range" = none) (h : DE T Wx X x Φ) (h2 : DE T Wx X y Ψ) (hp : plE x = true) (hp2 : plE y = true) :
    DG2 T Wx X (.Call (.Name "range" p) [x, y] [] pos) (fun a hh => (Ev.iOf (Φ a hh)).bind fun i h1 => (Ev.iOf (Ψ a h1)).bind fun j h2 => .ok (i, j) h2) := by
  intro pins s σ H Q I ⟨w, a, e, RH, RS, q⟩
  refine prg_2 hg hm h h2 (star_pl hp) (star_pl hp2) (by rw [star_pl hp2]; rfl) pins s σ H Q I ⟨w, a, e, RH, RS, ?_⟩
  refine (Post.iOf (q.bind (Rel := fun _ (b : Int) (c : Int) => b = c))).imp fun v H1 ⟨c, hv, w1, d, le, eH, RH1, RS1, f1, q1⟩ => ⟨w1, a, eH, RH1, RS1, ?_⟩
  cases f1
  subst hv
  refine (Post.iOf (q1.bind (Rel := fun _ (b : Int) (c : Int) => b = c))).imp fun v H2 ⟨c2, hv, w2, d, le2, eH2, RH2, RS2, f2, q2⟩ => ⟨c, c2, rfl, hv, ?_⟩
  cases f2
  rw [← eH2]
  exact q2 _ w2 (.refl _) rfl RH2 RS2 rfl
theorem dp_rngL {p : Pos} {Φ2 : List SL → List D → RE (Int × Int)} (hc : X.calm = true) (hg : Gl X "list") (hm : X.mg "list" = none) (h : DG2 T Wx X x Φ2) (hp : plE x = true) :
    DP T Wx X (.Call (.Name "list" p) [x] [] pos) (fun a hh => (Φ2 a hh).bind fun i h1 => if rngOk i.1 && rngOk i.2 && szOk (i.2 - i.1).toNat then .ok (.lst (rngD i.1 (i.2 - i.1).toNat)) h1 else .bad) := by
  refine pe_imp (pe_listRg hc hg hm h (star_pl hp)) fun σ H Q ⟨w, a, e, RH, RS, q⟩ => ⟨w, a, e, RH, RS, ?_⟩
  refine (q.bind (Rel := fun _ (b : Int × Int) (c : Int × Int) => b = c)).imp fun v H1 ⟨w1, d, le, eH, RH1, RS1, f1, q1⟩ => ?_
  subst f1
  split at q1
  · rename_i hr
    rw [Bool.and_eq_true, Bool.and_eq_true] at hr
    refine ⟨rg_ok hr.1.1 hr.1.2 (by unfold rngD; rw [List.length_map, List.length_range]; exact hr.2), fun p hp => ?_⟩
    subst eH
    exact q1.lst RH1 RS1 hp (rgV_fz _ _)
  · exact q1.elim
theorem dp_rngT {p : Pos} {Φ2 : List SL → List D → RE (Int × Int)} (hc : X.calm = true) (hg : Gl X "tuple") (hm : X.mg "tuple" = none) (h : DG2 T Wx X x Φ2) (hp : plE x = true) :
    DP T Wx X (.Call (.Name "tuple" p) [x] [] pos) (fun a hh => (Φ2 a hh).bind fun i h1 => if rngOk i.1 && rngOk i.2 && szOk (i.2 - i.1).toNat then .ok (.tup (rngD i.1 (i.2 - i.1).toNat)) h1 else .bad) := by
  refine pe_imp (pe_tupRg hc hg hm h (star_pl hp)) fun σ H Q ⟨w, a, e, RH, RS, q⟩ => ⟨w, a, e, RH, RS, ?_⟩
  refine (q.bind (Rel := fun _ (b : Int × Int) (c : Int × Int) => b = c)).imp fun v H1 ⟨w1, d, le, eH, RH1, RS1, f1, q1⟩ => ?_
  subst f1
  split at q1
  · rename_i hr
    rw [Bool.and_eq_true, Bool.and_eq_true] at hr
    refine ⟨rg_ok hr.1.1 hr.1.2 (by unfold rngD; rw [List.length_map, List.length_range]; exact hr.2), fun p hp => ?_⟩
    subst eH
    exact q1.tup RH1 RS1 hp (rgV_fz _ _)
  · exact q1.elim
end
end Ev
end
section
set_option Elab.async false
set_option linter.all false
set_option maxRecDepth 100000
set_option maxHeartbeats 2000000
/-! Ev, part P: try, the caught exception's fields, texts of data. -/
namespace Ev
open PySem PySem.Spec PyProof.Rows L2
/-! ### the same with another caught exception -/
abbrev Tb.wx (T : Tb) (z : Option (Addr × Nat × Option Addr)) : Tb := { T with xa := z }
section
variable {T : Tb} {m : List Addr} {F H : Hp} {w : Wo} {z : Option (Addr × Nat × Option Addr)}
theorem Fz.wx {v : V} {d : D} (h : Fz T m F v d) : Fz (T.wx z) m F v d := by
  induction h with
  | non => exact .non
  | bl b => exact .bl b
  | int i => exact .int i
  | str x => exact .str x
  | tup h1 h2 _ ih => exact .tup h1 h2 ih
  | lst h1 h2 _ ih => exact .lst h1 h2 ih
  | zst h1 h2 _ ih => exact .zst h1 h2 ih
  | ins h1 h2 h3 _ ih => exact .ins h1 h2 h3 ih
  | loc h => exact .loc h
  | fn n => exact .fn (T := T.wx z) n
theorem FzL.wx {xs : List V} {ds : List D} (h : FzL T m F xs ds) : FzL (T.wx z) m F xs ds := ⟨h.1, fun i x d e1 e2 => (h.2 i x d e1 e2).wx⟩
theorem Ob.wx {a : Addr} {d : D} (h : Ob T m F H a d) : Ob (T.wx z) m F H a d := by
  cases d with
  | lst ds => obtain ⟨xs, e, r⟩ := h; exact ⟨xs, e, r.wx⟩
  | ins c ds => obtain ⟨dx, xs, e, hl, r⟩ := h; exact ⟨dx, xs, e, hl, r.wx⟩
  | _ => exact h.elim
theorem XAt.wx {d : Option Addr} {c : Nat} {ds : List D} (h : XAt T w d c ds) : XAt (T.wx z) w d c ds := by
  rcases h with h | ⟨dA, xs, e, h1, h2, h3⟩
  · exact .inl h
  · exact .inr ⟨dA, xs, e, h1, h2, h3.wx⟩
theorem RepH.wx (R : RepH T w) : RepH (T.wx z) w := ⟨R.sub, R.pr, R.fp, R.f0, R.mp, R.ml, R.nd, fun n p d e1 e2 => ⟨(R.lo n p d e1 e2).1, (R.lo n p d e1 e2).2.wx⟩⟩
theorem RtV.wx {fr : Bool} {v : V} {d : D} (h : RtV T fr w v d) : RtV (T.wx z) fr w v d := by
  unfold RtV at h ⊢
  split at h
  · rename_i hf
    rw [if_pos hf]
    obtain ⟨p, h1, h2, h3, h4, h5⟩ := h
    exact ⟨p, h1, h2, h3, h4, h5.wx⟩
  · rename_i hf
    rw [if_neg hf]
    exact h.wx
theorem noEx_get {a : List SL} {i : Nat} {s : SL} (h : (noEx a)[i]? = some s) : s = .no ∨ (a[i]? = some s ∧ ∀ c ds, s ≠ .ex c ds) := by
  unfold noEx at h
  rw [List.getElem?_map] at h
  cases q : a[i]? with
  | none => rw [q] at h; cases h
  | some t =>
    rw [q] at h
    cases t <;> cases h <;> first | exact .inl rfl | exact .inr ⟨rfl, fun _ _ z => nomatch z⟩
theorem RepS.noEx {a : List SL} {σ : Ev.St} (S : RepS T w a σ) : RepS (T.wx z) w (noEx a) σ := by
  have back : ∀ {i : Nat} {d : D}, (Ev.noEx a)[i]? = some (.ow d) → a[i]? = some (.ow d) := fun {i d} e => by
    rcases noEx_get e with h | h
    · cases h
    · exact h.1
  refine ⟨by unfold Ev.noEx; rw [List.length_map]; exact S.ln, fun i s e => ?_, fun i j d e p e1 e2 => S.oo i j d e p (back e1) (back e2), fun d x e1 e2 => S.me d x e1 (back e2)⟩
  rcases noEx_get e with rfl | ⟨h, hx⟩
  · trivial
  · have so := S.sl i s h
    cases s with
    | no => trivial
    | pu d => obtain ⟨v, e, f⟩ := so; exact ⟨v, e, f.wx⟩
    | ow d => obtain ⟨p, e, h1, h2, h3, h4⟩ := so; exact ⟨p, e, h1, h2, h3, h4.wx⟩
    | bo d =>
      obtain ⟨v, e, f⟩ := so
      exact ⟨v, e, f.imp (fun k => k.wx) fun ⟨p, k1, k2⟩ => ⟨p, k1, k2.wx⟩⟩
    | ex c ds => exact absurd rfl (hx c ds)
/-- the slot of the caught one -/
theorem RepS.setX {a : List SL} {σ : Ev.St} {i : Nat} {c : Nat} {ds : List D} {v : Addr} {d : Option Addr} (S : RepS (T.wx (some (v, c, d))) w a σ) (x : XAt T w d c ds) : RepS (T.wx (some (v, c, d))) w (a.set i (.ex c ds)) (σ.set i (some (.ref v))) := by
  refine ⟨by simp [S.ln], fun j s e => ?_, fun j k y1 y2 p e1 e2 e3 e4 => ?_, fun y x e1 e2 => ?_⟩
  · rw [List.getElem?_set] at e ⊢
    split at e
    · rename_i h
      subst h
      split at e
      · rename_i hl
        cases e
        rw [if_pos rfl, if_pos (by rw [← S.ln]; exact hl)]
        exact ⟨v, d, rfl, rfl, x.wx⟩
      · cases e
    · rename_i h
      rw [if_neg h]
      exact S.sl j s e
  · rw [List.getElem?_set] at e1 e2 e3 e4
    have n1 : ¬ i = j := fun z => by
      rw [if_pos z] at e1
      split at e1 <;> cases e1
    have n2 : ¬ i = k := fun z => by
      rw [if_pos z] at e2
      split at e2 <;> cases e2
    rw [if_neg n1] at e1 e3
    rw [if_neg n2] at e2 e4
    exact S.oo j k y1 y2 p e1 e2 e3 e4
  · rw [List.getElem?_set] at e2 ⊢
    split at e2
    · split at e2 <;> cases e2
    · rename_i h
      rw [if_neg h]
      exact S.me y x e1 e2
end
/-! ### the rule for try -/
abbrev Sui := Addr → Value → Option Addr → TS
/-- behind a suite its name is gone -/
def gone (io : Option Nat) (E : L2.Ends) : L2.Ends := match io with
  | none => E
  | some i => { nx := fun σ H => E.nx (σ.set i none) H, rt := E.rt, bk := fun σ H => E.bk (σ.set i none) H, ct := fun σ H => E.ct (σ.set i none) H }
def bound (io : Option Nat) (a : Addr) (σ : Ev.St) : Ev.St := match io with
  | none => σ
  | some i => σ.set i (some (.ref a))
/-- what the clauses want, from the first on -/
def wCl (K : PySem.W.Frag) (W : WX) (E : L2.Ends) : List (Value × Option Nat × Sui) → WX
  | [] => W
  | (c, io, ts) :: r => fun cls d σ H => ∃ b, PySem.W.exmOne K cls c = some b ∧ (b = true → ∀ a, H a = none → ts a cls d (gone io E) (bound io a σ) H) ∧ (b = false → wCl K W E r cls d σ H)
inductive Cls2 (X : Cx) : List ExceptHandler → List (Value × Option Nat × Sui) → Prop
  | nil : Cls2 X [] []
  | bare {x : PySem.Str} {c : Value} {ts : Sui} {b0 : Stmt} {bs : List Stmt} {p1 p2 : Pos} {hs : List ExceptHandler} {l : List (Value × Option Nat × Sui)} (hc : Names X x c)
      (su : ∀ (a : Addr) (oe : Obj) (cls : Value) (d : Option Addr) (pn : List (Addr × Obj)), Zc cls d oe → (∃ vs, oe.data = .fields vs) → PSs (X.suite a ((a, oe) :: pn)) (b0 :: bs) (ts a cls d)) (r : Cls2 X hs l) :
      Cls2 X (.ExceptHandler (some (.Name x p1)) none (b0 :: bs) p2 :: hs) ((c, none, ts) :: l)
  | as {x n : PySem.Str} {i : Nat} {c : Value} {ts : Sui} {b0 : Stmt} {bs : List Stmt} {p1 p2 : Pos} {hs : List ExceptHandler} {l : List (Value × Option Nat × Sui)} (hc : Names X x c) (hi : X.N[i]? = some n) (hl : X.env.kindOf n = some .local)
      (su : ∀ (a : Addr) (oe : Obj) (cls : Value) (d : Option Addr) (pn : List (Addr × Obj)), Zc cls d oe → (∃ vs, oe.data = .fields vs) → PSs (X.suite a ((a, oe) :: pn)) (b0 :: bs) (ts a cls d)) (r : Cls2 X hs l) :
      Cls2 X (.ExceptHandler (some (.Name x p1)) (some n) (b0 :: bs) p2 :: hs) ((c, some i, ts) :: l)
section
variable {X : Cx} {body : List Stmt} {h0 : ExceptHandler} {hs : List ExceptHandler} {l : List (Value × Option Nat × Sui)} {pos : Pos} {tb : WX → TS} {W0 : WX}
theorem ps_clauses (hst : X.stack = X.env :: X.outer) (hfr : X.env.frame = some X.env.locals) (hN : X.N.Nodup) (tk : Takes X W0)
    (hb : ∀ (W : WX) (pn : List (Addr × Obj)) (xe : Value → Shared → Prop), Takes (X.tr pn xe) W → PassesOwn (model X.prog X.w) X.A X.env xe → PSs (X.tr pn xe) body (tb W))
    (hh : Cls2 X (h0 :: hs) l) : PS X (.Try body (h0 :: hs) [] [] pos) (fun E σ H => tb (wCl X.K W0 E l) E σ H) := by
  refine ⟨fun pins s σ H E I want => ?_⟩
  have ok := I.ok
  have fr2 : X.A.frames = some (X.env :: X.outer) := ok.frames.trans (congrArg some hst)
  have air : Takes (X.tr (X.pn ++ pins) (fun e s1 => wpAny (model X.prog X.w) X.A (noteFrame e X.env) (fun _ s2 => wpAny (model X.prog X.w) X.A (setFlight e none) (fun _ s3 => wpAny (model X.prog X.w) X.A (handleBy e X.env (h0 :: hs)) (SP X pins E) X.xe s3) X.xe s2) X.xe s1)) (wCl X.K W0 E l) := by
    intro u s' xx
    obtain ⟨a, B, sI, pins', σ', H', cls, d, rfl, J', nb, up, sky, na, os, ag, w⟩ := xx
    have J : Inv X pins σ' H' sI := J'.ofTry ok
    have sky2 : Sky B (X.env :: X.outer) a (Zc cls d) X.env.locals s'.heap := hst ▸ sky
    show wpAny (model X.prog X.w) X.A (noteFrame (.ref a) X.env) _ X.xe s'
    refine Sky.land Zc.steady fr2 hfr sky2 fun h3 fl3 up3 => ?_
    have K3 : Inv X pins σ' H' { s' with heap := h3 } := J.landed nb fl3.1 (up.trans up3) os ag
    obtain ⟨o3, v3, at3, z3, d3⟩ := fl3.there
    have apart : a ∉ frs (X.env :: X.outer) := fun hm => by
      obtain ⟨_, o, eo, no⟩ := fl3.2.2.1.mem hm
      rw [at3] at eo
      cases eo
      exact no _ d3
    have aL : a ≠ X.env.locals := fun z => apart (List.mem_filterMap.mpr ⟨X.env, List.mem_cons_self, by rw [hfr, z]⟩)
    have aF : a ∉ X.fs := fun hm => by
      obtain ⟨e, he, q⟩ := List.mem_filterMap.mp hm
      exact apart (List.mem_filterMap.mpr ⟨e, List.mem_cons_of_mem _ he, q⟩)
    have S3 := K3.suite at3 d3 na aL aF
    have ask : ∀ {x : PySem.Str} {c : Value} {np : Pos} {Q : Value → Shared → Prop} {E' : Value → Shared → Prop}, Names X x c → Q c { s' with heap := h3 } → wpAny (model X.prog X.w) (X.A.mark (some (.ref a))) (eval (.Name x np) X.env) Q E' { s' with heap := h3 } := by
      rintro x c np Q E' ⟨g1, g2, g3 | ⟨g3, g4, g5⟩⟩ q
      · exact ld_glob (X := X.suite a ((a, o3) :: (X.pn ++ pins))) S3 g1 g3 q g2
      · exact ld_blt (X := X.suite a ((a, o3) :: (X.pn ++ pins))) S3 g1 g3 g4 q g5 g2
    have look : ∀ {c : Value} {b : Bool}, PySem.W.exmOne X.K cls c = some b → PySem.W.Looks (model X.prog X.w) h3 (excMatches (.ref a) c) b := fun {c b} e =>
      PySem.W.exm_one (M := model X.prog X.w) K3.kIn (fun A Q E s k q => wpAny_typeOf_ref (k _ _ at3) (by rw [z3.1]; exact q)) e
    have walk : ∀ {hs' : List ExceptHandler} {l' : List (Value × Option Nat × Sui)}, Cls2 X hs' l' → wCl X.K W0 E l' cls d σ' H' → wpAny (model X.prog X.w) X.A (handleBy (.ref a) X.env hs') (SP X pins E) X.xe { s' with heap := h3 } := by
      intro hs' l' hc
      induction hc with
      | nil =>
        intro q
        refine wpAny_handleBy_nil ?_
        obtain ⟨_, _, _, oe, vs, T0, oT, ts0, he, _, hd, h1, _⟩ := id fl3
        unfold PySem.passOn
        refine wpAny_bind (wpAny_field he hd h1 ?_)
        rw [if_neg (show ¬ ((Value.ref T0 == Value.none) = true) from by simp)]
        have last : wpAny (model X.prog X.w) X.A (setFlight (.ref a) X.env.frame) (fun _ s4 => wpAny (model X.prog X.w) X.A (throw (.ref a) : Sem Flow) (SP X pins E) X.xe s4) X.xe { s' with heap := h3 } := by
          rw [hfr]
          exact HandSPX.setFlight_upZ fl3 fun h4 up5 up4 => wpAny_throw (tk _ _ ⟨a, B, sI, pins, σ', H', cls, d, rfl, J, nb, (up.trans up3).trans up4, .inr (.inr (hst ▸ up5)), na, os, ag, q⟩)
        first
          | exact wpAny_bind (wpAny_pure (wpAny_bind last))
          | exact wpAny_bind last
      | bare hc su r ih =>
        rintro ⟨b, e1, yes, no⟩
        refine wpAny_handleBy_cons (codeAny_handlers_test (ask hc ((look e1).here ?_))) (by intro q; cases q)
        cases b with
        | false => exact ih (no rfl)
        | true =>
          refine codeAny_handlers_suite (HandSPX.lands_againZ fl3 fun h4 fl4 up4 => ?_)
          obtain ⟨o4, v4, at4, z4, d4⟩ := fl4.there
          have S4 := (J.landed nb fl4.1 ((up.trans up3).trans up4) os ag : Inv X pins σ' H' { s' with heap := h4 }).suite at4 d4 na aL aF
          refine wpAny_mono ((su a o4 cls d (X.pn ++ pins) z4 ⟨_, d4⟩).run [] _ _ H' _ S4 (yes rfl a na)) (fun f s6 sp => ?_) (fun _ _ z => z.elim)
          match f, sp with
          | .next, ⟨σ6, H6, S6, q6⟩ => exact ⟨_, _, S6.unsuite ok, q6⟩
          | .brk, ⟨σ6, H6, S6, q6⟩ => exact ⟨_, _, S6.unsuite ok, q6⟩
          | .cont, ⟨σ6, H6, S6, q6⟩ => exact ⟨_, _, S6.unsuite ok, q6⟩
          | .ret u, ⟨v6, σ6, H6, S6, r6, q6⟩ => exact ⟨_, _, _, S6.unsuite ok, r6, q6⟩
      | as hc hi hl su r ih =>
        rintro ⟨b, e1, yes, no⟩
        refine wpAny_handleBy_cons (codeAny_handlers_test (ask hc ((look e1).here ?_))) (by intro q; cases q)
        cases b with
        | false => exact ih (no rfl)
        | true =>
          refine codeAny_handlers_suite_as (HandSPX.lands_againZ fl3 fun h4 fl4 up4 => ?_)
          obtain ⟨o4, v4, at4, z4, d4⟩ := fl4.there
          have S4 := (J.landed nb fl4.1 ((up.trans up3).trans up4) os ag : Inv X pins σ' H' { s' with heap := h4 }).suite at4 d4 na aL aF
          refine store_ok (X := X.suite a ((a, o4) :: (X.pn ++ pins))) (v := .ref a) S4 hN hi (.inl hl) rfl (fun s5 S5 => ?_) (.inr hl)
          refine wpAny_mono ((su a o4 cls d (X.pn ++ pins) z4 ⟨_, d4⟩).run [] s5 _ H' _ S5 (yes rfl a na)) (fun f s6 sp => ?_) (fun _ _ z => z.elim)
          match f, sp with
          | .next, ⟨σ6, H6, S6, q6⟩ => exact gone_ok (S6.unsuite ok) hN hi hl fun s7 J7 => ⟨_, _, J7, q6⟩
          | .brk, ⟨σ6, H6, S6, q6⟩ => exact gone_ok (S6.unsuite ok) hN hi hl fun s7 J7 => ⟨_, _, J7, q6⟩
          | .cont, ⟨σ6, H6, S6, q6⟩ => exact gone_ok (S6.unsuite ok) hN hi hl fun s7 J7 => ⟨_, _, J7, q6⟩
          | .ret u, ⟨v6, σ6, H6, S6, r6, q6⟩ => exact gone_ok (S6.unsuite ok) hN hi hl fun s7 J7 => ⟨_, _, _, J7, r6, q6⟩
    exact walk hh w
  refine wpAny_Try_except (wpAny_mono ((hb (wCl X.K W0 E l) (X.pn ++ pins) _ air PassesOwn.looking).run [] s σ H E (I.toTry _) want) (fun f s1 sp => ?_) fun _ _ z => z)
  match f, sp with
  | .next, ⟨σ', H', J, q⟩ => exact wpAny_execs_nil ⟨σ', H', J.ofTry ok, q⟩
  | .brk, ⟨σ', H', J, q⟩ => exact ⟨σ', H', J.ofTry ok, q⟩
  | .cont, ⟨σ', H', J, q⟩ => exact ⟨σ', H', J.ofTry ok, q⟩
  | .ret u, ⟨v, σ', H', J, r, q⟩ => exact ⟨v, σ', H', J.ofTry ok, r, q⟩
end
end Ev
end
section
set_option Elab.async false
set_option linter.all false
set_option maxRecDepth 100000
set_option maxHeartbeats 2000000
/-! Ev, part Q: try and raise by the evaluator. -/
namespace Ev
open PySem PySem.Spec PyProof.Rows L2
section
variable {T : Tb} {Wx : WX} {X : Cx} {g : G} {pos : Pos}
/-- the clauses -/
inductive DHs (T : Tb) (g : G) (X : Cx) : List ExceptHandler → Hs → Prop
  | nil : DHs T g X [] .nil
  | bare {x : PySem.Str} {k : Nat} {b : Ss} {b0 : Stmt} {bs : List Stmt} {p1 p2 : Pos} {hs : List ExceptHandler} {r : Hs} (hc : Names X x (.ref (T.xcls k))) (he : ∀ c v, g.sub c k = some v → PySem.W.exmOne X.K (.ref (T.xcls c)) (.ref (T.xcls k)) = some v)
      (su : ∀ (a : Addr) (oe : Obj) (c : Nat) (d : Option Addr) (pn : List (Addr × Obj)), Zc (.ref (T.xcls c)) d oe → (∃ vs, oe.data = .fields vs) → DSs (T.wx (some (a, c, d))) noW (X.suite a ((a, oe) :: pn)) (b0 :: bs) (fun a h => evSs g b a h)) (t : DHs T g X hs r) :
      DHs T g X (.ExceptHandler (some (.Name x p1)) none (b0 :: bs) p2 :: hs) (.cons k none b r)
  | as {x n : PySem.Str} {i k : Nat} {b : Ss} {b0 : Stmt} {bs : List Stmt} {p1 p2 : Pos} {hs : List ExceptHandler} {r : Hs} (hc : Names X x (.ref (T.xcls k))) (he : ∀ c v, g.sub c k = some v → PySem.W.exmOne X.K (.ref (T.xcls c)) (.ref (T.xcls k)) = some v)
      (hi : X.N[i]? = some n) (hl : X.env.kindOf n = some .local)
      (su : ∀ (a : Addr) (oe : Obj) (c : Nat) (d : Option Addr) (pn : List (Addr × Obj)), Zc (.ref (T.xcls c)) d oe → (∃ vs, oe.data = .fields vs) → DSs (T.wx (some (a, c, d))) noW (X.suite a ((a, oe) :: pn)) (b0 :: bs) (fun a h => evSs g b a h)) (t : DHs T g X hs r) :
      DHs T g X (.ExceptHandler (some (.Name x p1)) (some n) (b0 :: bs) p2 :: hs) (.cons k (some i) b r)
/-- a suite's reading -/
def tsOf (T : Tb) (g : G) (b : Ss) : Sui := fun a cls d E σ H => ∃ c, cls = .ref (T.xcls c) ∧ tS (T.wx (some (a, c, d))) noW (fun a h => evSs g b a h) E σ H
def clsOf (T : Tb) (g : G) : Hs → List (Value × Option Nat × Sui)
  | .nil => []
  | .cons k x b r => (.ref (T.xcls k), x, tsOf T g b) :: clsOf T g r
theorem DHs.cls2 {hs : List ExceptHandler} {h : Hs} (d : DHs T g X hs h) : Cls2 X hs (clsOf T g h) := by
  induction d with
  | nil => exact .nil
  | bare hc he su t ih =>
    exact .bare hc (fun a oe cls d pn z f => ⟨fun pins s σ H E I ⟨c, e, q⟩ => (su a oe c d pn (by rw [← e]; exact z) f).run pins s σ H E I q⟩) ih
  | as hc he hi hl su t ih =>
    exact .as hc hi hl (fun a oe cls d pn z f => ⟨fun pins s σ H E I ⟨c, e, q⟩ => (su a oe c d pn (by rw [← e]; exact z) f).run pins s σ H E I q⟩) ih
/-- a suite's end -/
theorem suite_post {z : Option (Addr × Nat × Option Addr)} {w : Wo} {E : L2.Ends} {io : Option Nat} {r : RS} (h : PostS T Wx w E (match r with
      | .exc _ _ _ _ => .bad
      | .nx a1 h1 => .nx (outX io a1) h1
      | q => q)) : PostS (T.wx z) noW w (gone io E) r := by
  cases r with
  | nx a hh =>
    intro σ' w' le e1 R' S'
    have R2 : RepH T w' := R'.wx (z := T.xa)
    have S2 : RepS T w' (noEx a) σ' := RepS.noEx (T := T.wx z) (z := T.xa) S'
    cases io with
    | none => exact h σ' w' le e1 R2 S2
    | some i => exact h (σ'.set i none) w' le e1 R2 S2.forget
  | ret d fr hh =>
    intro v w' le e1 R' rt
    have rt2 : RtV T fr w' v d := rt.wx (z := T.xa)
    cases io with
    | none => exact h v w' le e1 (R'.wx (z := T.xa)) rt2
    | some i => exact h v w' le e1 (R'.wx (z := T.xa)) rt2
  | exc c ds a hh => exact h.elim
  | bad => exact h.elim
theorem clauses_post {hs : List ExceptHandler} {h : Hs} (d : DHs T g X hs h) {w : Wo} {E : L2.Ends} {c : Nat} {ds : List D} {a : List SL} {σ : Ev.St} {dA : Option Addr} (R : RepH T w) (S : RepS T w a σ) (xat : XAt T w dA c ds) (q : PostS T Wx w E (evHs g h c ds a w.hh)) :
    wCl X.K Wx E (clsOf T g h) (.ref (T.xcls c)) dA σ w.H := by
  induction d with
  | nil =>
    have q : PostS T Wx w E (.exc c ds a w.hh) := by simpa only [evHs] using q
    exact q dA σ w (.refl _) rfl R S xat
  | @bare x k b b0 bs p1 p2 hs r hc he su t ih =>
    simp only [evHs] at q
    cases hs : g.sub c k with
    | none => rw [hs] at q; exact q.elim
    | some v =>
      rw [hs] at q
      refine ⟨v, he c v hs, fun hv b1 hb => ?_, fun hv => ?_⟩
      · subst hv
        exact ⟨c, rfl, w, noEx a, rfl, R.wx, S.noEx, suite_post (io := none) q⟩
      · subst hv
        exact ih q
  | @as x n i k b b0 bs p1 p2 hs r hc he hi hl su t ih =>
    simp only [evHs] at q
    cases hs : g.sub c k with
    | none => rw [hs] at q; exact q.elim
    | some v =>
      rw [hs] at q
      refine ⟨v, he c v hs, fun hv b1 hb => ?_, fun hv => ?_⟩
      · subst hv
        exact ⟨c, rfl, w, (noEx a).set i (.ex c ds), rfl, R.wx, RepS.setX S.noEx xat, suite_post (io := some i) q⟩
      · subst hv
        exact ih q
theorem ds_try {body : List Stmt} {h0 : ExceptHandler} {hs : List ExceptHandler} {h : Hs} {ΦS : List SL → List D → RS} (hst : X.stack = X.env :: X.outer) (hfr : X.env.frame = some X.env.locals) (hN : X.N.Nodup) (tk : Takes X Wx)
    (hb : ∀ (W : WX) (pn : List (Addr × Obj)) (xe : Value → Shared → Prop), Takes (X.tr pn xe) W → PassesOwn (model X.prog X.w) X.A X.env xe → DSs T W (X.tr pn xe) body ΦS) (hh : DHs T g X (h0 :: hs) h) :
    DS T Wx X (.Try body (h0 :: hs) [] [] pos) (fun a hp => match ΦS a hp with
      | .exc c ds a1 h1 => evHs g h c ds a1 h1
      | r => r) := by
  refine ps_imp (ps_clauses (tb := fun W => tS T W ΦS) hst hfr hN tk hb hh.cls2) fun E σ H ⟨w, a, e, RH, RS, p⟩ => ⟨w, a, e, RH, RS, ?_⟩
  dsimp only at p
  cases q : ΦS a w.hh with
  | nx a1 h1 => rw [q] at p; exact p
  | ret d fr h1 => rw [q] at p; exact p
  | bad => rw [q] at p; exact p.elim
  | exc c ds a1 h1 =>
    rw [q] at p
    intro dA σ' w' le e1 R' S' x
    subst e1
    exact clauses_post hh R' S' x (PostS.mono le p)
/-! ### the caught exception's fields -/
/-- what is known of an exception field's name -/
structure XFldOk (T : Tb) (g : G) (f : Nat) (nm : PySem.Str) : Prop where
  ok : ∀ c j, g.xfld c f = some j → XfC T.K (T.xcls c) ∧ PySem.W.findIn T.K (.ref (T.xcls c)) nm = some none ∧ (T.xflds c)[j]? = some nm ∧ (T.xflds c).Nodup
/-- e.f may be read here -/
def XfR (T : Tb) (Wx : WX) (g : G) (X : Cx) : Prop := ∀ (i f : Nat) (z nm : PySem.Str) (p1 p2 : Pos), RdOk X i z → XFldOk T g f nm → DE T Wx X (.Attribute (.Name z p1) nm p2) (fun a h => evE g a (.xfld i f) h)
theorem xfr_none (hx : T.xa = none) : XfR T Wx g X := by
  intro i f z nm p1 p2 hz hf
  refine ⟨fun pins s σ H Q I ⟨w, a, e, RH, RS, p⟩ => ?_⟩
  simp only [evE] at p
  split at p
  · rename_i c ds hc
    obtain ⟨b, d, e1, _⟩ := RS.sl i _ hc
    rw [hx] at e1
    cases e1
  · exact p.elim
theorem xfr_suite {Y : Cx} {a0 : Addr} {c0 : Nat} {d0 : Option Addr} {oe : Obj} {pn : List (Addr × Obj)} (hK : Y.K = T.K) (hx : T.xa = some (a0, c0, d0)) (hz : Zc (.ref (T.xcls c0)) d0 oe) (hf : ∃ vs, oe.data = .fields vs) : XfR T Wx g (Y.suite a0 ((a0, oe) :: pn)) := by
  intro i f z nm p1 p2 hr hF
  refine ⟨fun pins s σ H Q I ⟨w, a, e, RH, RS, p⟩ => ?_⟩
  simp only [evE] at p
  split at p
  · rename_i c ds hc
    obtain ⟨b, d, e1, e2, xa⟩ := RS.sl i _ hc
    rw [hx] at e1
    cases e1
    obtain ⟨y, hy, p⟩ := Post.lift p
    obtain ⟨j, h1, h2⟩ := Option.bind_eq_some_iff.mp hy
    obtain ⟨k1, k2, k3, k4⟩ := hF.ok c0 j h1
    rcases xa with ⟨_, rfl⟩ | ⟨dA, xs, rfl, x1, x2, x3⟩
    · simp at h2
    · obtain ⟨v, v1, v2⟩ := x3.at h2
      refine (pe_xf (by rw [hK]; exact k1) (by rw [hK]; exact k2) hz hf hr.pe rfl).run pins s σ H Q I ⟨_, e2, rfl, rfl, dA, _, v, rfl, by rw [← e]; exact RH.sub _ _ x1, zip_lookup k4 k3 v1, ?_⟩
      rw [← e]
      exact p v w (.refl _) rfl RH RS v2
  · exact p.elim
/-! ### texts -/
theorem noDict_d : ∀ (n : Nat) (d : D), D.ok n d = true → d.py.hasDict = false := fun n d h => by
  have := (py_lay n d h).1
  exact PyData.hasDict_of_canLay d.py this
theorem bi_repr (hK : X.K = T.K) (hg : X.A.guards = some []) (hu : X.A.units + 70 < cLine) : BiR T Wx X (.builtin "repr") .repr := by
  refine ⟨fun vs H Q => ∃ v d, vs = [v] ∧ Dp X.K H v d ∧ d.showable = true ∧ d.hasDict = false ∧ d.depth ≤ 60 ∧ d.shown.length ≤ sizeLine ∧ Q (.str d.shown) H, fun pins s σ H xs us Q I r h => ?_, fun w a σ vs ds z Q RH RS vw h p => ?_⟩
  · obtain ⟨v, d, rfl, dp, h1, h2, h3, h4, q⟩ := h
    obtain ⟨u, rfl, ru⟩ := vals1 r
    obtain ⟨as, rd⟩ := Dp.reads I d v u dp ru
    have go : ∀ {h' : Heap} {t : Tok} {tk : Nat}, (∀ b o, s.heap.get? b = some o → h'.get? b = some o) → EP X pins σ Q (.str d.shown t) { s with heap := h', toks := tk } := fun {h' t tk} k => ⟨.str d.shown, H, I.kept k, ⟨_, rfl⟩, q⟩
    cases rd with
    | none => simp only [PyData.shown] at go; exact P.repr_of_none (go fun _ _ e => e)
    | bool b => simp only [PyData.shown] at go; exact P.repr_of_bool (go fun _ _ e => e)
    | int i t => simp only [PyData.shown] at go; exact P.repr_of_int (by simpa [PyData.showable] using h1) (go fun _ _ e => e)
    | str x t => simp only [PyData.shown] at go h4; exact P.repr_of_str (go fun _ _ e => e) h4
    | list e1 e2 e3 e4 => exact repr_of_reads' (.list e1 e2 e3 e4) h1 (PyData.noDict_hsm h2) hg (by omega) (fun _ _ e => e) (fun h' u tk k => go k) h4
    | tuple e1 e2 e3 e4 => exact repr_of_reads' (.tuple e1 e2 e3 e4) h1 (PyData.noDict_hsm h2) hg (by omega) (fun _ _ e => e) (fun h' u tk k => go k) h4
    | _ => simp [PyData.hasDict] at h2
  · rw [hK]
    unfold opBi at h
    split at h <;> first | contradiction | skip
    rename_i d _
    split at h
    · rename_i hc
      rw [Bool.and_eq_true, Bool.and_eq_true] at hc
      cases h
      obtain ⟨v, rfl, v1⟩ := vw.one
      refine ⟨v, d.py, rfl, vw_dp RH v1 hc.1.1, hc.1.2, noDict_d _ _ hc.1.1, ?_, szOk_le hc.2, p.valP RH RS (.str _)⟩
      have : d.py.depth ≤ 50 := (py_lay 50 d hc.1.1).2
      omega
    · cases h
/-! ### raise -/
/-- the making of an exception, as a reading -/
def tMkX (T : Tb) (Wx : WX) (c : Nat) (Φ : List SL → List D → RE (List D)) : Ev.St → Hp → XK → Prop := fun σ H Q => ∃ w a, w.H = H ∧ RepH T w ∧ RepS T w a σ ∧
  Post T Wx a σ w (rFL T a σ) (Mid T a σ w (rFL T a σ) fun w1 vs ds => ∀ d w2, w1.le w2 → w2.hh = w1.hh → RepH T w2 → RepS T w2 a σ → XAt T w2 d c ds → Q (.ref (T.xcls c)) d w2.H) (Φ a w.hh)
theorem ds_raise {e : Expr} {c : Nat} {Φs : List SL → List D → RE (List D)} (hc : X.calm = true) (tk : Takes X Wx) (he : PMk X e (tMkX T Wx c Φs)) : DS T Wx X (.Raise (some e) none pos) (fun a h => (Φs a h).thenS a fun ds h1 => .exc c ds a h1) := by
  refine ps_imp (ps_raise hc tk he) fun E σ H ⟨w, a, eH, RH, RS, p⟩ => ⟨w, a, eH, RH, RS, ?_⟩
  refine (p.thenS (Rel := rFL T a σ)).imp fun vs H1 ⟨w1, ds, le, e1, RH1, RS1, f1, q⟩ => ⟨w1, ds, le, e1, RH1, RS1, f1, fun d w2 le2 hh2 R2 S2 x => q d σ w2 le2 hh2 R2 S2 x⟩
end
end Ev
end
section
set_option Elab.async false
set_option linter.all false
set_option maxRecDepth 100000
set_option maxHeartbeats 2000000
/-! Ev, part Xi: isinstance of a caught exception, with a dict or without. -/
namespace Ev
open PySem PySem.Spec PySem.Calls PyProof.Rows L2
section
variable {pr : Program} {wd : World} {Ar : Around} {Xe : Value → Shared → Prop} {K : PySem.W.Frag} {x D : Addr} {ox : Obj} {od : Option Obj}
theorem found_dt {nm : PySem.Str} {a g : Value} (hc : (PySem.W.clsIn K D).isSome = true) (h1 : PySem.W.findIn K (.ref D) nm = some (some a)) (h2 : PySem.W.specialIn K a "__get__" = some (some g)) (h3 : PySem.W.takesIn K a = some true) : PySem.W.findObj K D od nm = some (.bind g a) := by
  obtain ⟨cd, hc⟩ := Option.isSome_iff_exists.mp hc
  unfold PySem.W.findObj
  rw [hc, Option.bind_some, h1, Option.bind_some]
  simp [h2, h3]
theorem cls_of {Q : Option Value → Shared → Prop} {s : Shared} (C : ExcC K D) (X : K.In s.heap) (I : PySem.W.InstAt s.heap x ox D od) (fin : Q (some (.ref D)) { s with toks := s.toks + 1 }) : wpAny (model pr wd) Ar (getAttr? (.ref x) "__class__") Q Xe s := by
  have hf : PySem.W.findObj K D od "__class__" = some (.bind (.builtin "getset_descriptor.__get__") (.builtin "object.__class__")) := found_dt (by obtain ⟨cd, hc, _⟩ := PySem.W.any_some C.hd; rw [hc]; rfl) C.ha C.hn C.ht
  obtain ⟨hp, gn, dr, tk, os⟩ := s
  have M0 := I.type (M := model pr wd)
  have M1 := PySem.W.looks_findIn (M := model pr wd) X C.hg
  have M2 := PySem.W.looks_findIn (M := model pr wd) X C.hk
  have M3 := PySem.W.looks_find (M := model pr wd) X I hf
  have isB : PySem.W.Looks (model pr wd) hp (isInstance (.ref x) (.type "BaseException")) true := M0.andThen (PySem.W.looks_subIn X C.hs)
  have n0 : (false && onTheHeap (Value.builtin "BaseException.__getattribute__")) = false := rfl
  have n2 : (Value.builtin "BaseException.__getattribute__" == Value.builtin "object.__getattribute__") = false := by decide +kernel
  have n1 : (onTheHeap (Value.ref D) && Value.builtin "BaseException.__getattribute__" == Value.builtin "object.__getattribute__") = false := by rw [n2]; rfl
  unfold getAttr? getAttrBy? getAttrBy
  refine wpAny_bind (wpAny_mkText (wpAny_bind (wpAny_attempt (wpAny_holding (wpAny_bind (M0.at (wpAny_bind (M1.at ?_))))))))
  show wpAny _ _ (if (onTheHeap (Value.ref D) && Value.builtin "BaseException.__getattribute__" == Value.builtin "object.__getattribute__") = true then _ else _) _ _ _
  rw [n1, if_neg Bool.false_ne_true]
  unfold getAttrByItsOwn hookBefore
  refine wpAny_bind ?_
  rw [if_pos (show onTheHeap (Value.ref D) = true from rfl)]
  refine M2.at ?_
  refine wpAny_bind (wpAny_attempt (wpAny_holding ?_))
  unfold callGetattribute
  rw [n0, if_neg Bool.false_ne_true]
  unfold boundAndCalled
  rw [PySem.F.excAttr_ValueError.ga.bind (.ref x)]
  refine wpAny_bind (wpAny_pure ?_)
  show wpAny _ _ (call (.builtin "BaseException.__getattribute__") [.ref x, .str "__class__" tk]) _ _ _
  refine wpAny_call (codeAny_call_builtin PySem.F.excAttr_ValueError.ga.plain PySem.F.entry_bexc_ga ?_)
  refine @PySem.W.check_slot (model pr wd) _ _ ⟨hp, gn, dr, tk + 1, os⟩ "BaseException.__getattribute__" "BaseException" "__getattribute__" (.ref x) [.str "__class__" tk] [] _ (by decide +kernel) (by decide +kernel) isB (PySem.F.args_bexc_ga (.ref x) (.str "__class__" tk)) ?_
  unfold Builtin.«object.__getattribute__»
  refine wpAny_bind (wpAny_of_eq (a := ((Value.ref x : Value), [Value.str "__class__" tk])) (by first | rfl | (simp only [slotArgs]; rfl)) ?_)
  refine wpAny_bind (wpAny_pure (wpAny_bind (M0.at (wpAny_bind (M3.at ?_)))))
  show wpAny _ _ (holding [Value.builtin "object.__class__"] (call (.builtin "getset_descriptor.__get__") [.builtin "object.__class__", .ref x, .ref D]) >>= ret) _ _ _
  refine wpAny_bind (wpAny_holding (wpAny_call (PySem.W.class_get (s := ⟨hp, gn, dr, tk + 1, os⟩) (ox := ox) (od := od) X I C.hm ?_)))
  refine wpAny_pure ?_
  show wpAny _ _ (handedOut (.ref D)) _ _ _
  rw [PySem.W.handedOut_of (v := .ref D) rfl]
  first
    | exact wpAny_pure (wpAny_pure fin)
    | exact wpAny_pure fin
    | exact wpAny_pure (wpAny_bind (wpAny_pure (wpAny_pure fin)))
theorem kit_exc (C : ExcC K D) : PySem.W.KitX K (.ref x) (.ref D) (fun h => PySem.W.InstAt h x ox D od) where
  ty := fun _ _ _ I => I.type
  it := fun _ _ X _ => by
    obtain ⟨cdD, hcD, _⟩ := PySem.W.any_some C.hd
    unfold PySem.W.clsIn at hcD
    split at hcD
    · rename_i c1 d1 cd1 sl1 ho
      intro A1 Q1 E1 s1 k q
      unfold isType loadHead
      exact wpAny_bind (wpAny_loadPart (k _ _ (X _ _ ho)) (wpAny_pure q))
    · cases hcD
  ne := fun h tp dd its n sl X htp => by
    obtain ⟨cdD, hcD, _⟩ := PySem.W.any_some C.hd
    refine Bool.eq_false_iff.mpr fun q => ?_
    have e : D = tp := Value.ref.inj (beq_iff_eq.mp q)
    subst e
    unfold PySem.W.clsIn at hcD
    split at hcD
    · rename_i c1 d1 cd1 sl1 ho
      have z := (X _ _ ho).symm.trans htp
      cases z
    · cases hcD
  ca := fun X I k => cls_of C X I k
end
/-- isinstance(e, c): e the exception of the suite -/
def rIsX (K : PySem.W.Frag) (D a : Addr) (d : Option Addr) : List V → Hp → VK → Prop := fun xs H Q => ∃ (c : V) (cv : Value) (b : Bool), xs = [.ref a, c] ∧ ClsV c cv ∧ PySem.W.kitOne K (.ref D) cv = some b ∧ (d = none ∨ ∃ dd fs, d = some dd ∧ H dd = some (.xd fs)) ∧ Q (.bl b) H
theorem call_isX {X : Cx} {a D : Addr} {d : Option Addr} {oe : Obj} {pn : List (Addr × Obj)} (C : ExcC X.K D) (hz : Zc (.ref D) d oe) (hf : ∃ vs, oe.data = .fields vs) : CallR (X.suite a ((a, oe) :: pn)) (.builtin "isinstance") (rIsX X.K D a d) := by
  intro pins s σ H xs us Q I r h
  obtain ⟨c, cv, b, rfl, hcv, e, hd, q⟩ := h
  obtain ⟨u1, u2, rfl, r1, r2⟩ := vals2 r
  cases (show u1 = Value.ref a from r1)
  have ec := hcv.eq r2
  subst ec
  obtain ⟨ha, _⟩ := I.pin (a, oe) (List.mem_append_left _ List.mem_cons_self)
  obtain ⟨vs, hv⟩ := hf
  obtain ⟨od, J⟩ : ∃ od, PySem.W.InstAt s.heap a oe D od := by
    rcases hd with rfl | ⟨dd, fs, rfl, ea⟩
    · exact ⟨none, ha, hz.1, by unfold PySem.W.notCls; rw [hv] <;> rfl, by rw [hz.2]; trivial⟩
    · have hx : ObjOk X.prog X.w H s.heap dd (.xd fs) := I.hok dd _ ea
      obtain ⟨mA, hns, hr⟩ := hx
      obtain ⟨od, ho, hl⟩ := lookIn_ns hns
      exact ⟨some od, ha, hz.1, by unfold PySem.W.notCls; rw [hv] <;> rfl, by rw [hz.2]; exact ho⟩
  exact PySem.W.kia_one (kit_exc C) I.kIn J e (fun z => nomatch z) fun tk => ⟨.bl b, H, I.kept (t' := tk) fun _ _ z => z, rfl, q⟩
/-! ### as a reading -/
section
variable {T : Tb} {Wx : WX} {X : Cx} {g : G}
/-- what is known of a class that is asked for -/
structure XiOk (T : Tb) (g : G) (t : Ty) : Prop where
  ok : ∀ c b, xtyG g.sub c t = some b → ExcC T.K (T.xcls c) ∧ PySem.W.kitOne T.K (.ref (T.xcls c)) (clsU T t) = some b
def XiR (T : Tb) (Wx : WX) (g : G) (X : Cx) : Prop := ∀ (i : Nat) (t : Ty) (z : PySem.Str) (y : Expr) (p1 p3 pos : Pos), Gl X "isinstance" → X.mg "isinstance" = none → RdOk X i z → PE X y (tC (clsV T t)) → plE y = true → XiOk T g t →
  DE T Wx X (.Call (.Name "isinstance" p1) [.Name z p3, y] [] pos) (fun a h => evE g a (.isx i t) h)
theorem xir_none (hx : T.xa = none) : XiR T Wx g X := by
  intro i t z y p1 p3 pos hg hm hz hy hp hF
  refine ⟨fun pins s σ H Q I ⟨w, a, e, RH, RS, p⟩ => ?_⟩
  simp only [evE] at p
  split at p
  · rename_i c ds hc
    obtain ⟨b, d, e1, _⟩ := RS.sl i _ hc
    rw [hx] at e1
    cases e1
  · exact p.elim
theorem xir_suite {Y : Cx} {a0 : Addr} {c0 : Nat} {d0 : Option Addr} {oe : Obj} {pn : List (Addr × Obj)} (hK : Y.K = T.K) (hx : T.xa = some (a0, c0, d0)) (hz : Zc (.ref (T.xcls c0)) d0 oe) (hf : ∃ vs, oe.data = .fields vs) : XiR T Wx g (Y.suite a0 ((a0, oe) :: pn)) := by
  intro i t z y p1 p3 pos hg hm hr hy hp hF
  refine ⟨fun pins s σ H Q I ⟨w, a, e, RH, RS, p⟩ => ?_⟩
  simp only [evE] at p
  split at p
  · rename_i c ds hc
    obtain ⟨b, d, e1, e2, xa⟩ := RS.sl i _ hc
    rw [hx] at e1
    cases e1
    obtain ⟨v, hv, p⟩ := Post.lift p
    obtain ⟨b1, hb, rfl⟩ := Option.map_eq_some_iff.mp hv
    obtain ⟨k1, k2⟩ := hF.ok _ _ hb
    refine (pe_callB (call_isX (by rw [hK]; exact k1) hz hf) hg hm PyProof.Rows.Boot.«isinstance» (pa_cons hr.pe (pa_cons hy pa_nil (star_pl hp)) rfl) (by decide) (by decide) rfl (anyStar_pl (by rw [List.all_cons, hp]; rfl))).run pins s σ H Q I ?_
    refine ⟨_, e2, clsV T t, clsU T t, b1, rfl, clsV_ok T t, by rw [hK]; exact k2, ?_, ?_⟩
    · rcases xa with ⟨rfl, _⟩ | ⟨dA, xs, rfl, x1, x2, x3⟩
      · exact .inl rfl
      · exact .inr ⟨dA, _, rfl, by rw [← e]; exact RH.sub _ _ x1⟩
    · rw [← e]
      exact p.val RH RS (.bl _)
  · exact p.elim
end
end Ev
end
section
set_option Elab.async false
set_option linter.all false
set_option maxRecDepth 100000
set_option maxHeartbeats 2000000
/-! Ev, part Xk: an own exception's class called, keywords among the arguments. -/
namespace Ev
open PySem PySem.Spec PySem.Calls PyProof.Rows PySem.HandSPX
section
variable {Md : Model} {Ar : Around} {Xe : Value → Shared → Prop} {hh : Heap} {gg : Array GenState} {dd0 : Drawn} {tt : Nat} {oo : OsState}
variable {nm q : PySem.Str} {C N : Addr} {bs bm bmB : List Value} {hdct : Bool} {sn : List PySem.Str} {sub : List Value} {ab : Bool} {col : Option Bool} {dd : Option Addr} {k0 k1 k2 k3 k5 : Option Value} {B newId initId : String} {rs : List Value} {kw : List (PySem.Str × Value)}
theorem ck_new (Fb : ExcBaseFacts B newId initId bmB) (hT : ∀ Y : String, bm.contains (.type Y) = bmB.contains (.type Y)) {Q : Unit → Shared → Prop}
    (cC : hh.get? C = some (excClassObj nm q C N bs bm hdct sn sub ab col dd k0 k1 k2 k3 k5 newId)) (fin : Q () ⟨hh, gg, dd0, tt, oo⟩) : wpAny Md Ar (checkBuiltinCall newId ⟨.ref C :: rs, kw⟩) Q Xe ⟨hh, gg, dd0, tt, oo⟩ := by
  have c1 : (Value.ref C :: bm).contains (.type B) = true := by rw [List.contains_cons, hT, Fb.hasB, Bool.or_true]
  have c2 := Fb.noStar
  simp only [checkBuiltinCall, Fb.newKind, Fb.newSplit, Fb.newRow]
  repeat (first | refine wpAny_loadPart_at cC ?_ | (refine wpAny_isSubtype_exc cC ?_; rw [c1]) | refine wpAny_staticBase_exc cC ?_ | refine wpAny_madeBy_exc cC ?_ | simp only [bne_self_eq_false, Bool.false_eq_true, if_false] | wp_step)
  exact fin
end
section
variable {pr : Program} {wd : World} {Ar : Around} {Xe : Value → Shared → Prop} {R : Result → Shared → Prop} {hh : Heap} {gg : Array GenState} {dd0 : Drawn} {tt : Nat} {oo : OsState}
variable {nm q : PySem.Str} {C N : Addr} {bs bm bmB : List Value} {hdct : Bool} {sn : List PySem.Str} {sub : List Value} {ab : Bool} {col : Option Bool} {dd : Option Addr} {k0 k1 k2 k3 k5 : Option Value} {B newId initId : String} {rs : List Value} {kw : List (PySem.Str × Value)}
theorem new_k (Fb : ExcBaseFacts B newId initId bmB) (hT : ∀ Y : String, bm.contains (.type Y) = bmB.contains (.type Y))
    (cC : hh.get? C = some (excClassObj nm q C N bs bm hdct sn sub ab col dd k0 k1 k2 k3 k5 newId))
    (fin : R (.ok (.ret (.ref (hh.objs.size + 1)))) ⟨(hh.push (PySem.W.kdv_tup rs)).push (excO C hh.objs.size), gg, dd0, tt, oo⟩) (fits : rs.length ≤ sizeLine) :
    codeAny (model pr wd) Ar (.builtin newId ⟨.ref C :: rs, kw⟩) R ⟨hh, gg, dd0, tt, oo⟩ := by
  have c0 := Fb.ends
  have c1 : (Value.ref C :: bm).contains (.type B) = true := by rw [List.contains_cons, hT, Fb.hasB, Bool.or_true]
  have c2 : (Value.ref C :: bm).contains (.type "AttributeError") = false := by rw [List.contains_cons, hT, Fb.noAttr]; rfl
  have c3 : (Value.ref C :: bm).contains (.type "NameError") = false := by rw [List.contains_cons, hT, Fb.noName]; rfl
  refine codeAny_builtinAt Fb.entry ?_
  unfold Builtin.«BaseException.__new__»
  refine _root_.PySem.wpAt_bind ?_
  show _root_.PySem.wpAt _ _ _ (stack >>= _) _ _ _
  refine _root_.PySem.wpAt_bind (_root_.PySem.wpAt_stack fun p below => _root_.PySem.wpAt_of_wpAny ?_)
  wp_walk
  refine _root_.PySem.wpAt_of_wpAny ?_
  rw [Fb.owner]
  repeat (first | with_reducible refine wpAny_madeHere_exc Fb.canon cC ?_ | with_reducible refine wpAny_loadPart_at cC ?_ | (with_reducible refine wpAny_isSubtype_exc cC ?_; first | rw [c1] | rw [c2] | rw [c3]) | wp_step)
  show R _ _
  rw [Heap.size_push]
  exact fin
theorem tcall_k (Fb : ExcBaseFacts B newId initId bmB) (hT : ∀ Y : String, bm.contains (.type Y) = bmB.contains (.type Y)) {fI : Addr} {Q : Fin → Shared → Prop}
    (cC : hh.get? C = some (excClassObj nm q C N bs bm hdct sn sub ab col dd k0 k1 k2 k3 k5 newId))
    (li : PySem.W.Looks (model pr wd) hh (typeLookup (.ref C) "__init__") (some (.ref fI))) (lb : ∀ x, PySem.W.Looks (model pr wd) hh (bindSpecial (.ref fI) x) (.ref fI, [x])) (fits : rs.length ≤ sizeLine)
    (fin : codeAny (model pr wd) Ar (.call (.ref fI) ⟨.ref (hh.objs.size + 1) :: rs, kw⟩)
      (fun r z => match r with | .ok (.ret v) => v = .none ∧ Q (.done (.ret (.ref (hh.objs.size + 1)))) z | .ok _ => False | .error e => Xe e z)
      ⟨(hh.push (PySem.W.kdv_tup rs)).push (excO C hh.objs.size), gg, dd0, tt, oo⟩) :
    wpAny (model pr wd) Ar (Builtin.«type.__call__» ⟨.ref C :: rs, kw⟩) Q Xe ⟨hh, gg, dd0, tt, oo⟩ := by
  repeat (first | with_reducible refine wpAny_loadPart_at cC ?_ | with_reducible refine wpAny_madeBy_exc cC ?_ | wp_step)
  refine codeAny_call_builtin_code (Code.quiet_builtin _ Fb.quiet) (ck_new Fb hT cC ?_)
  refine new_k Fb hT cC ?_ fits
  show wpAny _ _ _ _ _ _
  have up : ∀ b o, hh.get? b = some o → ((hh.push (PySem.W.kdv_tup rs)).push (excO C hh.objs.size)).get? b = some o := fun b o e => Heap.get?_push_of_some _ (Heap.get?_push_of_some _ e)
  have cC1 := up _ _ cC
  have gx : ((hh.push (PySem.W.kdv_tup rs)).push (excO C hh.objs.size)).get? (hh.objs.size + 1) = some (excO C hh.objs.size) := by heap_get
  have cc : (Value.ref C :: bm).contains (.ref C) = true := by simp
  have i1 := li.keeps up
  have b1 := (lb (.ref (hh.objs.size + 1))).keeps up
  unfold isInstance
  repeat (first | with_reducible refine wpAny_loadPart_at gx ?_ | (with_reducible refine wpAny_isSubtype_exc cC1 ?_; rw [cc]) | wp_step)
  show wpAny _ _ (typeLookup (.ref C) _) _ _ _
  refine i1.at ?_
  refine wpAny_holding (wpAny_bind (b1.at ?_))
  refine wpAny_bind (wpAny_call (codeAny_mono fin fun r z y => ?_))
  rcases r with e | (v | _ | _ | _) <;> first | exact y | exact y.elim | skip
  obtain ⟨rfl, y⟩ := y
  first
    | exact wpAny_pure (wpAny_pure y)
    | (wp_walk; exact y)
theorem call_k (Fb : ExcBaseFacts B newId initId bmB) (hT : ∀ Y : String, bm.contains (.type Y) = bmB.contains (.type Y)) {fI : Addr}
    (cC : hh.get? C = some (excClassObj nm q C N bs bm hdct sn sub ab col dd k0 k1 k2 k3 k5 newId))
    (li : PySem.W.Looks (model pr wd) hh (typeLookup (.ref C) "__init__") (some (.ref fI))) (lb : ∀ x, PySem.W.Looks (model pr wd) hh (bindSpecial (.ref fI) x) (.ref fI, [x])) (fits : rs.length ≤ sizeLine)
    (fin : codeAny (model pr wd) (Ar.under (.builtin "type.__call__" ⟨.ref C :: rs, kw⟩)) (.call (.ref fI) ⟨.ref (hh.objs.size + 1) :: rs, kw⟩) (PySem.W.InitBack (hh.objs.size + 1) R)
      ⟨(hh.push (PySem.W.kdv_tup rs)).push (excO C hh.objs.size), gg, dd0, tt, oo⟩) :
    codeAny (model pr wd) Ar (.call (.ref C) ⟨rs, kw⟩) R ⟨hh, gg, dd0, tt, oo⟩ := by
  have c1 := tc_lookup
  have c2 := tc_bind (.ref C)
  have hTy : (⟨hh, gg, dd0, tt, oo⟩ : Shared).TypeIs (.ref C) "type" := ⟨_, cC, rfl⟩
  refine codeAny_of_tree ?_
  show wpAny _ _ (callAny (.ref C) _) _ _ _
  repeat (any_goals (first | assumption | with_reducible refine wpAny_loadPart_at cC ?_ | wp_step))
  refine ⟨rfl, ?_⟩
  refine codeAny_call_builtin_at (Code.quiet_builtin _ (by decide +kernel)) entry_typeCall (wpAny_check_type_call_sub cC (tcall_k Fb hT cC li lb fits ?_))
  refine codeAny_mono fin fun r z y => ?_
  rcases r with e | (v | _ | _ | _) <;> exact y
end
end Ev
end
section
set_option Elab.async false
set_option linter.all false
set_option maxRecDepth 100000
set_option maxHeartbeats 2000000
/-! Ev, part R: own exceptions whose __init__ says super().__init__(..) and then stores what came in. -/
namespace Ev
open PySem PySem.Spec PyProof.Rows L2
/-! ### the text of such an __init__ -/
/-- self.f = x, ..: for each field the parameter -/
inductive SetsT (self : PySem.Str) : List Stmt → List (PySem.Str × PySem.Str) → Prop
  | nil : SetsT self [] []
  | cons {f x : PySem.Str} {p1 p2 p3 p4 : Pos} {r : List Stmt} {l : List (PySem.Str × PySem.Str)} (h : SetsT self r l) : SetsT self (.Assign [.Attribute (.Name self p1) f p2] (.Name x p3) p4 :: r) ((f, x) :: l)
/-- the names that are handed on -/
inductive NamesT : List Expr → List PySem.Str → Prop
  | nil : NamesT [] []
  | cons {x : PySem.Str} {p : Pos} {r : List Expr} {l : List PySem.Str} (h : NamesT r l) : NamesT (.Name x p :: r) (x :: l)
structure InitT (body : List Stmt) (slf : PySem.Str) (ps : List PySem.Str) (fl : List (PySem.Str × PySem.Str)) : Prop where
  ex : ∃ (p0 p1 p2 p3 p4 : Pos) (args : List Expr) (rest : List Stmt), body = .Expr (.Call (.Attribute (.Call (.Name "super" p0) [] [] p1) "__init__" p2) args [] p3) p4 :: rest ∧ (p2.endLine == p3.line) = true ∧ NamesT args ps ∧ SetsT slf rest fl
section
variable {prog : Program} {wd : World} {A : Around} {Ex : Value → Shared → Prop}
theorem namesT_pl {es : List Expr} {l : List PySem.Str} (h : NamesT es l) : es.all plE = true ∧ es.length = l.length := by
  induction h with
  | nil => exact ⟨rfl, rfl⟩
  | cons h ih => exact ⟨by rw [List.all_cons, ih.1]; rfl, by rw [List.length_cons, List.length_cons, ih.2]⟩
/-- local names, from the left -/
theorem names_run {env : Env} {m : PySem.Str → Option Value} {cp : Pos} {st : Shared} (hk : env.scope.kind = .function) (hn : st.heap.Ns env.locals m) : ∀ {es : List Expr} {l : List PySem.Str} {us : List Value} {R : List Value → Shared → Prop}, NamesT es l →
    (∀ x ∈ l, env.kindOf x = some .local ∧ (x == ("__debug__" : PySem.Str)) = false) → Paired (fun x u => m x = some u) l us → R us st → wpAny (model prog wd) A (spliced (backTo cp (starEach es env))) R Ex st
  | _, _, _, R, .nil, _, .nil, h => Calls.spliced_nil h
  | _, _, _, R, @NamesT.cons x p r l hr, hx, .cons h1 h2, h => by
    refine PyProof.Rows.spliced_more (wpAny_Name (wpAny_loadName_local hk (hx x (by simp)).1 hn h1 ?_) (hx x (by simp)).2) rfl
    exact names_run hk hn hr (fun y hy => hx y (List.mem_cons_of_mem _ hy)) h2 h
end
/-- as call_attr, at a place of the code -/
theorem callAt_attr {M : Model} {A : Around} {c : Code} {Ex : Value → Shared → Prop} {st : Shared} {env : Env} {o : Expr} {nm : PySem.Str} {ap cp : Pos} {args : List Expr} {R : Value → Shared → Prop} (hpl : args.all plE = true) (hn : args.length < 20) (hl : (ap.endLine == cp.line) = true)
    (h : _root_.PySem.wpAt M A c (attributeBase o nm env (eval o env)) (fun u s1 => wpAny M A (getMethod u nm (do return (← importBound o env).getD true)) (fun z s2 => wpAny M A (callWith cp z.1 z.2 (backTo cp (starEach args env)) []) R Ex s2) Ex s1) Ex st) :
    _root_.PySem.wpAt M A c (eval (.Call (.Attribute o nm ap) args [] cp) env) R Ex st := by
  have hform : methodCallForm (args.length + 0) (backTo cp (starEach args env)) (backToKw cp (keywordEach [] env)) = true := few_pl hpl hn
  have hpos : methodCallPos true o env ap cp = pure cp := by unfold methodCallPos; simp [hl]
  rw [arm_eval_Call]
  refine _root_.PySem.wpAt_bind (_root_.PySem.wpAt_mono h (fun u s1 h1 => _root_.PySem.wpAt_of_wpAny (wpAny_bind (wpAny_standAt ?_))) fun _ _ x => x)
  show wpAny M A (methodCall o nm ap cp env u (args.length + 0) (backTo cp (starEach args env)) (backToKw cp (keywordEach [] env))) R Ex s1
  unfold methodCall
  rw [hform]
  refine wpAny_bind (wpAny_holding (thn h1 fun z s2 h2 => ?_))
  exact wpAny_bind (wpAny_of_eq hpos h2)
/-! ### the bound ValueError.__init__ -/
section
variable {prog : Program} {wd : World} {A : Around} {Ex : Value → Shared → Prop} {h : Heap} {gn : Array GenState} {dr : Drawn} {tk : Nat} {os : OsState}
variable {nm q : PySem.Str} {C N : Addr} {bs bm : List Value} {hdct : Bool} {sn : List PySem.Str} {sub : List Value} {ab : Bool} {col : Option Bool} {dd : Option Addr} {k0 k1 k2 k3 k5 : Option Value}
theorem call_mw {u e t0 : Addr} {us : List Value} {R : Value → Shared → Prop} (hC : h.get? C = some (excClassObj nm q C N bs bm hdct sn sub ab col dd k0 k1 k2 k3 k5 "ValueError.__new__")) (he : h.get? e = some (HandSPX.excO C t0)) (hu : h.get? u = some (PySem.W.kxs_mw "ValueError.__init__" e)) (hz : us.length ≤ sizeLine)
    (hR : ∀ h' t1, (∀ b o, b ≠ e → h.get? b = some o → h'.get? b = some o) → h'.get? e = some (HandSPX.excO C t1) → R .none ⟨h', gn, dr, tk, os⟩) : wpAny (model prog wd) A (call (.ref u) us) R Ex ⟨h, gn, dr, tk, os⟩ := by
  have F := PySem.F.excBase_ValueError
  refine wpAny_call (codeAny_of_tree ?_)
  show wpAny _ A.in1 (callAny (.ref u) ⟨us, []⟩) _ _ _
  simp only [callAny]
  refine wpAny_bind (wpAny_load hu ?_)
  have three : (Value.type "method-wrapper" == Value.type "method" || Value.type "method-wrapper" == Value.type "builtin_function_or_method" || Value.type "method-wrapper" == Value.type "method-wrapper") = true := by decide
  simp only [PySem.W.kxs_mw, three, if_true]
  refine PySem.W.KFB.if_so (by decide) (wpAny_bind (PySem.W.check_bound_init F.toExcCallFacts hC he rfl ?_))
  refine wpAny_bind (wpAny_pure (wpAny_pure ⟨plainId_quiet F.init.plain _, codeAny_builtin F.initEntry ?_⟩))
  exact PySem.W.exc_init_tree (cls := .ref C) (t0 := t0) (dv := none) (c2 := .none) (c3 := .none) (b4 := .bool false) he hz fun h' k1 k2 _ => hR h' _ k1 k2
end
/-- what is to be known of the class -/
structure SupC (prog : Program) (K : PySem.W.Frag) (C fI : Addr) (slf : PySem.Str) (ps : List PySem.Str) (fl : List (PySem.Str × PySem.Str)) : Prop where
  oex : OexC K C
  iC : PySem.W.findIn K (.ref C) "__init__" = some (some (.ref fI))
  tI : PySem.W.typeIn K (.ref fI) = some (.type "function")
  tp : PySem.W.nsIn K cStatics "thirdparty.any" = some none
  sup : PySem.W.ks_superIn K C C "__init__" = some (some (.builtin "ValueError.__init__"))
  isB : PySem.W.subIn K (.ref C) (.type "ValueError") = some true
  isS : PySem.W.mroIn K C (.ref C) = some true
  fn : ∃ (name qual : PySem.Str) (params : Arguments) (body : List Stmt) (scope : Scope) (dV kV doc pm ct oc : Value) (an od : Option Addr) (cda cc : Addr) (osl : Array (Option Value)) (ar : Arg),
    K.lookup fI = some ⟨oc, od, .func (PySem.W.ksFn name qual params body scope dV kV doc pm an (.ref cda) ct cc), osl⟩ ∧ PySem.W.codeIn K (.ref cda) qual = true ∧
    (∃ (ccl : Value) (cdd : Option Addr) (vs : Array Value) (ccs : Array (Option Value)) (file : PySem.Str) (tf : Tok), K.lookup cda = some ⟨ccl, cdd, .fields vs, ccs⟩ ∧ vs[2]? = some (.str file tf) ∧ ((prog.main.file : PySem.Str) == file) = true) ∧
    (∃ (cl : Value) (cld : Option Addr) (csl : Array (Option Value)), K.lookup cc = some ⟨cl, cld, .cell (some (.ref C)), csl⟩) ∧
    scope.names.lookup ("super" : PySem.Str) = some .globalImplicit ∧ scope.names.lookup ("__class__" : PySem.Str) = some .free ∧ (∀ x ∈ slf :: ps, scope.names.lookup x = some .local ∧ (x == ("__debug__" : PySem.Str)) = false) ∧ (∀ x ∈ scope.names, x.2 ≠ .cell) ∧
    scope.isCoroutine = false ∧ scope.isGenerator = false ∧ scope.kind = .function ∧ (params.posonlyargs ++ params.args).head? = some ar ∧ ar.arg = slf ∧
    (∀ us : List Value, us.length = ps.length + 1 → bindArgs (PySem.W.ksFn name qual params body scope dV kV doc pm an (.ref cda) ct cc) ⟨us, []⟩ = pure ((slf :: ps).zip us)) ∧ InitT body slf ps fl
  flds : ∀ p ∈ fl, PySem.W.findIn K (.ref C) p.1 = some none
  nd : (slf :: ps).Nodup
  few : ps.length < 20 ∧ fl.length ≤ 20
  sub : ∀ p ∈ fl, p.2 ∈ ps
  htop : (prog.main.scope.names.lookup ("super" : PySem.Str)).isSome = false
/-- the dict behind the stores -/
def dMap (m : PySem.Str → Option Value) : List (PySem.Str × Value) → PySem.Str → Option Value
  | [] => m
  | (f, u) :: r => dMap (fun y => if y = f then some u else m y) r
section
variable {prog : Program} {wd : World} {A : Around} {Ex : Value → Shared → Prop} {K : PySem.W.Frag} {C : Addr}
theorem lookup_zip {us : List Value} : ∀ {ps : List PySem.Str} {binds : List (PySem.Str × Value)}, ps.Nodup → us.length = ps.length → binds = ps.zip us → Paired (fun x u => binds.reverse.lookup x = some u) ps us := by
  have key : ∀ (ps : List PySem.Str) (us : List Value), ps.Nodup → us.length = ps.length → ∀ (i : Nat) (x : PySem.Str) (u : Value), ps[i]? = some x → us[i]? = some u → (ps.zip us).reverse.lookup x = some u := by
    intro ps
    induction ps with
    | nil => intro us _ _ i x u h; simp at h
    | cons p ps ih =>
      intro us nd hl i x u h1 h2
      cases us with
      | nil => simp at h2
      | cons w us =>
        rw [List.nodup_cons] at nd
        rw [List.zip_cons_cons, List.reverse_cons, List.lookup_append]
        cases i with
        | zero =>
          simp at h1 h2
          subst h1 h2
          have : (ps.zip us).reverse.lookup p = none := by
            rw [List.lookup_eq_none_iff]
            intro q hq
            have := (List.of_mem_zip (List.mem_reverse.mp hq)).1
            simp
            rintro rfl
            exact nd.1 this
          rw [this]
          simp [List.lookup]
        | succ i =>
          rw [ih us nd.2 (by simpa using hl) i x u (by simpa using h1) (by simpa using h2)]
          rfl
  intro ps binds nd hl hb
  subst hb
  have go : ∀ (qs : List PySem.Str) (vs : List Value) (k : Nat), vs.length = qs.length → (∀ (i : Nat), qs[i]? = ps[k + i]?) → (∀ (i : Nat), vs[i]? = us[k + i]?) → Paired (fun x u => (ps.zip us).reverse.lookup x = some u) qs vs := by
    intro qs
    induction qs with
    | nil => intro vs k hl _ _; cases vs with
      | nil => exact .nil
      | cons v vs => simp at hl
    | cons q qs ih =>
      intro vs k hl h1 h2
      cases vs with
      | nil => simp at hl
      | cons v vs =>
        refine .cons (key ps us nd (by assumption) k q v (by have := h1 0; simpa using this.symm) (by have := h2 0; simpa using this.symm)) (ih vs (k + 1) (by simpa using hl) (fun i => ?_) (fun i => ?_))
        · have := h1 (i + 1); rw [show k + 1 + i = k + (i + 1) by omega, ← this]; rfl
        · have := h2 (i + 1); rw [show k + 1 + i = k + (i + 1) by omega, ← this]; rfl
  exact go ps us 0 hl (fun i => by rw [Nat.zero_add]) (fun i => by rw [Nat.zero_add])
/-- the stores behind the first -/
theorem sets_old {env : Env} {m : PySem.Str → Option Value} {self : PySem.Str} {e dA t1 : Addr} {cd : ClassData} {hp : Heap} (hK : K.In hp) (hk : env.scope.kind = .function) (hself : env.kindOf self = some .local ∧ (self == ("__debug__" : PySem.Str)) = false) (hms : m self = some (.ref e)) (T : OexC K C)
    (hcl : PySem.W.clsIn K C = some cd) (hve : PySem.HandSPX.refsVE cd.mro = true) (hdct : cd.hasDict = true) (heL : e ≠ env.locals) :
    ∀ {sts : List Stmt} {fl : List (PySem.Str × PySem.Str)} {us : List Value} {h : Heap} {gn : Array GenState} {dr : Drawn} {tk : Nat} {os : OsState} {mA : PySem.Str → Option Value} {nl : List PySem.Str} {R : Flow → Shared → Prop}, SetsT self sts fl → (∀ p ∈ fl, PySem.W.findIn K (.ref C) p.1 = some none) →
      (∀ p ∈ fl, env.kindOf p.2 = some .local ∧ (p.2 == ("__debug__" : PySem.Str)) = false) → Paired (fun p u => m p.2 = some u) fl us → (∀ b o, hp.get? b = some o → h.get? b = some o) → hp.get? dA = none → hp.get? e = none → dA ≠ env.locals → h.Ns env.locals m →
      h.get? e = some ({ cls := .ref C, dict := some dA, data := .fields #[.ref t1, .none, .none, .none, .bool false, .none] } : Obj) → h.Ns1 dA mA → Within mA nl → nl.length + fl.length ≤ 1000 →
      (∀ h' tk', (∀ b o, hp.get? b = some o → h'.get? b = some o) → h'.get? e = some ({ cls := .ref C, dict := some dA, data := .fields #[.ref t1, .none, .none, .none, .bool false, .none] } : Obj) → h'.Ns1 dA (dMap mA ((fl.map (·.1)).zip us)) → R .next ⟨h', gn, dr, tk', os⟩) →
      wpAny (model prog wd) A (execs sts env) R Ex ⟨h, gn, dr, tk, os⟩
  | _, _, _, h, gn, dr, tk, os, mA, nl, R, .nil, _, _, .nil, k1, _, _, _, _, he, hd, _, _, hq => wpAny_execs_nil (hq h tk k1 he hd)
  | _, _, _, h, gn, dr, tk, os, mA, nl, R, @SetsT.cons _ f x p1 p2 p3 p4 r l hr, hf, hx, .cons hu hus, k1, kd, ke, dL, hn, he, hd, hw, hz, hq => by
    rename_i u us
    have hX := hx (f, x) (by simp)
    refine wpAny_execs_cons (plainObj_wpAny_Assign_Attribute (wpAny_Name (wpAny_loadName_local hk hX.1 hn hu ?_) hX.2) swapsA)
    refine wpAny_Name (wpAny_loadName_local hk hself.1 hn hms ?_) hself.2
    have hKh : K.In h := fun b o z => k1 b o (hK b o z)
    obtain ⟨oD, _, _, hoD, _, _⟩ := hd.count hw
    refine PySem.W.set_plain hKh (ox := { cls := .ref C, dict := some dA, data := .fields #[.ref t1, .none, .none, .none, .bool false, .none] }) (od := some oD) ⟨he, rfl, rfl, hoD⟩ T.sa ?_
    have hne : e ≠ dA := fun z => by
      rw [← z] at hoD
      rw [he] at hoD
      cases hoD
      obtain ⟨o, es, ep, e1, e2, _⟩ := hd
      rw [← z, he] at e1
      cases e1
      cases e2
    refine PySem.OEX.osa_old hKh he hd hw (by rw [List.length_cons] at hz; omega) hcl hve hdct (hf (f, x) (by simp)) (fun h' tk' kk hn' => ?_)
    refine sets_old hK hk hself hms T hcl hve hdct heL hr (fun p hp => hf p (List.mem_cons_of_mem _ hp)) (fun p hp => hx p (List.mem_cons_of_mem _ hp)) hus (fun b o z => kk b o (fun y => by rw [y, kd] at z; cases z) (k1 b o z)) kd ke dL (hn.at fun o z => kk _ o (Ne.symm dL) z) (kk e _ hne he) hn'
      (nl := f :: nl) (Within.cons f u hw) (by rw [List.length_cons] at hz ⊢; omega) hq
/-- C(..): the exception e with its dict dA; all else is as it was -/
theorem sup_madeK {rs : List Value} {kw : List (PySem.Str × Value)} {fI : Addr} {self : PySem.Str} {ps : List PySem.Str} {fl : List (PySem.Str × PySem.Str)} {s : Shared} {mg mb : PySem.Str → Option Value} {us : List Value} {R : Value → Shared → Prop} (S : SupC prog K C fI self ps fl) (hne : fl ≠ []) (hK : K.In s.heap) (hg : s.heap.Ns mainGlobals mg) (hgs : mg "super" = none)
    (hb : s.heap.Ns builtinsNs mb) (hbb : ∀ x : PySem.Str, x ≠ "__name__" → mb x = bootBuiltins x) (hnl : s.heap.NoLimit) (hlen : us.length = ps.length) (hrs : rs.length ≤ sizeLine) (hbd : ∀ (oc : Value) (od : Option Addr) (fd : FuncData) (osl : Array (Option Value)) (x : Value), K.lookup fI = some ⟨oc, od, .func fd, osl⟩ → bindArgs fd ⟨x :: rs, kw⟩ = pure ((self :: ps).zip (x :: us))) (hroom : (A.under (.builtin "type.__call__" ⟨.ref C :: rs, kw⟩)).depth < recursionLimit)
    (hR : ∀ e dA t1 h' tk (vs : List Value), s.heap.objs.size ≤ e → s.heap.objs.size ≤ dA → dA ≠ e → (∀ b o, s.heap.get? b = some o → h'.get? b = some o) → h'.get? e = some ({ cls := .ref C, dict := some dA, data := .fields #[.ref t1, .none, .none, .none, .bool false, .none] } : Obj) →
      Paired (fun p u => ∃ (i : Nat), ps[i]? = some p.2 ∧ us[i]? = some u) fl vs → h'.Ns1 dA (dMap (fun _ => none) ((fl.map (·.1)).zip vs)) → R (.ref e) { s with heap := h', toks := tk }) :
    wpAny (model prog wd) A (call (.ref C) rs kw) R Ex s := by
  obtain ⟨name, qual, params, body, scope, dV, kV, doc, pm, ct, oc, an, od, cda, cc, osl, ar, lk, hcode, ⟨ccl, cdd, vs0, ccs, file, tf, lc, hv2, hfile⟩, ⟨cl, cld, csl, lcell⟩, ks, kc, kl, nocell, hco, hgen, hk, har, harg, hbind, ⟨p0, p1, p2, p3, p4, args, rest, hbody, hline, hnames, hsets⟩⟩ := S.fn
  obtain ⟨nm, q, N, bs, bm, sn, sub, ab, col, dd, k0, k1, k2, k3, k5, lC, hbm⟩ := S.oex.cls
  have hcl : PySem.W.clsIn K C = some { name := nm, bases := bs, mro := .ref C :: bm, ns := N, qualname := q, hasDict := true, slotNames := sn, subclasses := sub, abstract := ab, collection := col, hasDel := false } := by
    unfold PySem.W.clsIn
    rw [lC] <;> rfl
  obtain ⟨hp, gn, dr, tk0, os⟩ := s
  have hsz : us.length ≤ sizeLine := by
    have := S.few.1
    rw [sizeLine_eq]; omega
  refine wpAny_call (call_k PySem.F.excBase_ValueError (fun Y => PySem.HandSPX.refsVE_contains Y bm hbm) (hK _ _ lC) (PySem.W.looks_findIn hK S.iC) (fun x => PySem.W.bind_fn hK x S.tI) hrs ?_)
  have up1 : ∀ b o, hp.get? b = some o → ((hp.push (PySem.W.kdv_tup rs)).push (PySem.HandSPX.excO C hp.objs.size)).get? b = some o := fun b o z => Heap.get?_push_of_some _ (Heap.get?_push_of_some _ z)
  have he1 : ((hp.push (PySem.W.kdv_tup rs)).push (PySem.HandSPX.excO C hp.objs.size)).get? (hp.objs.size + 1) = some (PySem.HandSPX.excO C hp.objs.size) := by heap_get
  generalize hh1 : (hp.push (PySem.W.kdv_tup rs)).push (PySem.HandSPX.excO C hp.objs.size) = h1 at up1 he1
  have sz1 : h1.objs.size = hp.objs.size + 2 := by rw [← hh1, Heap.size_push, Heap.size_push]
  generalize hee : hp.objs.size + 1 = e at he1
  have hK1 : K.In h1 := fun b o z => up1 b o (hK b o z)
  have hul : (Value.ref e :: us).length = ps.length + 1 := by rw [List.length_cons, hlen]
  have binds := lookup_zip (us := .ref e :: us) (binds := (self :: ps).zip (.ref e :: us)) S.nd (by rw [List.length_cons, List.length_cons, hlen]) rfl
  refine ks_codeAny_call_defAt (fd := PySem.W.ksFn name qual params body scope dV kV doc pm an (.ref cda) ct cc) (body := body) (binds := (self :: ps).zip (.ref e :: us)) hroom (hK1 _ _ lk) rfl (hnl.keeps up1) (PySem.W.codeRec_of hK1 hcode) rfl (.of_eq (hbd _ _ _ _ _ lk)) nocell (fun y hy => (kl y.1 (List.of_mem_zip hy).1).1) (fun h2 hns up2 => ?_) hco hgen hk
  have upA : ∀ b o, hp.get? b = some o → h2.get? b = some o := fun b o z => up2 b o (up1 b o z)
  have hK2 : K.In h2 := fun b o z => upA b o (hK b o z)
  have he2 := up2 _ _ he1
  generalize henv : callEnv (PySem.W.ksFn name qual params body scope dV kV doc pm an (.ref cda) ct cc) h1.objs.size fI = env
  have e1 : env.scope = scope := by rw [← henv] <;> rfl
  have e2 : env.locals = h1.objs.size := by rw [← henv] <;> rfl
  have e3 : env.func = some fI := by rw [← henv] <;> rfl
  have e4 : env.code = .ref cda := by rw [← henv] <;> rfl
  have e5 : env.cells.lookup ("__class__" : PySem.Str) = some cc := by rw [← henv] <;> rfl
  have e6 : env.globals = mainGlobals := by rw [← henv] <;> rfl
  have e7 : env.builtins = builtinsNs := by rw [← henv] <;> rfl
  have ek : env.scope.kind = .function := by rw [e1]; exact hk
  have kOf : ∀ x, env.kindOf x = scope.names.lookup x := fun x => by show env.scope.names.lookup x = _; rw [e1]
  rw [← e2] at hns
  generalize hm : (fun x => ((self :: ps).zip (Value.ref e :: us)).reverse.lookup x) = m at hns
  have bnd : Paired (fun x u => m x = some u) (self :: ps) (.ref e :: us) := by rw [← hm]; exact binds
  have hself : m self = some (.ref e) := by cases bnd with | cons a b => exact a
  have bps : Paired (fun x u => m x = some u) ps us := by cases bnd with | cons a b => exact b
  have selfL : env.kindOf self = some .local ∧ (self == ("__debug__" : PySem.Str)) = false := by rw [kOf]; exact kl self (by simp)
  have eL : e ≠ env.locals := by rw [e2, sz1]; omega
  have hpe : hp.get? e = none := by rw [← hee]; exact Heap.get?_none_of_le (by omega)
  rw [hbody]
  obtain ⟨npl, nlen⟩ := namesT_pl hnames
  refine ks_wpAt_execs_cons (ks_wpAt_Expr_any (callAt_attr npl (by rw [nlen]; exact S.few.1) hline ?_) (by unfold interactive; rw [ek]; rfl) rfl)
  refine ks_wpAt_super_base (by rw [kOf]; exact ks) (by rw [kOf]; exact kc) rfl e3 (hK2 _ _ lk) rfl har e4 (hK2 _ _ lc) rfl hv2 hfile S.htop ?_
  refine PySem.W.ks_loadName_global ek (by rw [kOf]; exact ks) (Calls.loadGlobal_builtin (mg := mg) (mb := mb) (by rw [e6]; exact hg.keeps upA) hgs (by rw [e7]; exact hb.keeps upA) ((hbb _ (by decide)).trans (by first | rfl | decide +kernel | kernel_rfl)) ⟨rfl, ?_⟩)
  refine wpAny_loadName_free ek (by rw [kOf]; exact kc) e5 ⟨_, hK2 _ _ lcell, rfl⟩ ?_
  rw [harg]
  refine wpAny_loadName_local ek selfL.1 hns hself (ks_wpAny_isType_cls (hK2 _ _ lC) rfl ⟨rfl, ?_⟩)
  refine ks_wpAny_call_super (hK2 _ _ lC) rfl he2 rfl (fun c z => nomatch z) (PySem.W.looks_mroIn hK2 S.isS) (fun h3 hso up3 => ?_)
  have upB : ∀ b o, hp.get? b = some o → h3.get? b = some o := fun b o z => up3 b o (upA b o z)
  have hK3 : K.In h3 := fun b o z => upB b o (hK b o z)
  have he3 := up3 _ _ he2
  have inst : PySem.W.InstAt h3 e (PySem.HandSPX.excO C hp.objs.size) C none := ⟨he3, rfl, rfl, trivial⟩
  have along : PySem.W.alongIn K "__init__" bm = some (some (.builtin "ValueError.__init__")) := by
    have z := S.sup
    unfold PySem.W.ks_superIn at z
    rw [hcl, Option.bind_some, ESX.drop_own] at z
    exact z
  refine PySem.W.kxs_getMethod PySem.W.kxs_ValueError hso (PySem.W.looks_opaque hK3 S.tp) (l₀ := .ref C :: bm) ((PySem.W.looks_clsIn hK3 hcl).andThen .now) (ESX.drop_own C bm) hK3 along (inst.type.andThen (PySem.W.looks_subIn hK3 S.isB)) (PySem.W.ks_ne hK3 inst hcl) rfl ?_
  have upC : ∀ b o, h3.get? b = some o → (h3.push (PySem.W.kxs_mw "ValueError.__init__" e)).get? b = some o := fun b o z => Heap.get?_push_of_some _ z
  have hu : (h3.push (PySem.W.kxs_mw "ValueError.__init__" e)).get? h3.objs.size = some (PySem.W.kxs_mw "ValueError.__init__" e) := Heap.get?_push_size _ rfl
  generalize hh4 : h3.push (PySem.W.kxs_mw "ValueError.__init__" e) = h4 at upC hu
  have hns4 : h4.Ns env.locals m := hns.keeps fun b o z => upC b o (up3 b o z)
  have he4 := upC _ _ he3
  have goal4 : ∀ {R4 : Value → Shared → Prop} {E4 : Value → Shared → Prop} {A4 : Around} {tk4 : Nat}, (∀ h5 t1, (∀ b o, b ≠ e → h4.get? b = some o → h5.get? b = some o) → h5.get? e = some (PySem.HandSPX.excO C t1) → R4 .none ⟨h5, gn, dr, tk4, os⟩) →
      wpAny (model prog wd) A4 (callWith p3 (.ref h3.objs.size) [] (backTo p3 (starEach args env)) []) R4 E4 ⟨h4, gn, dr, tk4, os⟩ := fun {R4 E4 A4 tk4} hR4 => by
    refine PySem.W.kxs_callWith (i := "ValueError.__init__") (x := e) (anyStar_pl npl) ?_
    have fin : PySem.W.KxsAt "ValueError.__init__" h3.objs.size e h4 ∧ wpAny (model prog wd) A4 (call (.ref h3.objs.size) us) R4 E4 ⟨h4, gn, dr, tk4, os⟩ :=
      ⟨hu, call_mw (upC _ _ (hK3 _ _ lC)) he4 hu hsz fun h5 t1 k5 f5 => hR4 h5 t1 k5 f5⟩
    have loc : ∀ x ∈ ps, env.kindOf x = some .local ∧ (x == ("__debug__" : PySem.Str)) = false := fun x hx => by rw [kOf]; exact kl x (List.mem_cons_of_mem _ hx)
    cases hnames with
    | nil =>
      cases bps
      exact PyProof.Rows.evalArgs_empty fin
    | @cons x p r l hr =>
      exact Calls.evalArgs_plain (names_run (cp := p3) (es := .Name x p :: r) ek hns4 (.cons hr) loc bps fin)
  refine goal4 fun h5 t1 k5 f5 => ?_
  have upD : ∀ b o, hp.get? b = some o → h5.get? b = some o := fun b o z => k5 b o (fun y => by rw [y, hpe] at z; cases z) (upC b o (upB b o z))
  have hK5 : K.In h5 := fun b o z => upD b o (hK b o z)
  have hns5 : h5.Ns env.locals m := hns4.at fun o z => k5 _ o (Ne.symm eL) z
  have sz5 : env.locals < h5.objs.size := hns5.lt
  have look : ∀ {x u}, m x = some u → x ∈ ps → ∃ (i : Nat), ps[i]? = some x ∧ us[i]? = some u := fun {x u} hx hm => by
    have go : ∀ {qs : List PySem.Str} {vs : List Value}, Paired (fun x u => m x = some u) qs vs → x ∈ qs → ∃ (i : Nat), qs[i]? = some x ∧ vs[i]? = some u := by
      intro qs vs b
      induction b with
      | nil => intro h; cases h
      | @cons q v qs vs b1 b2 ih =>
        intro h
        rcases List.mem_cons.mp h with rfl | h
        · refine ⟨0, rfl, ?_⟩
          rw [b1] at hx
          cases hx
          rfl
        · obtain ⟨i, i1, i2⟩ := ih h
          exact ⟨i + 1, by simpa using i1, by simpa using i2⟩
    exact go bps hm
  have have_ : ∀ {fl' : List (PySem.Str × PySem.Str)}, (∀ p ∈ fl', p.2 ∈ ps) → ∃ vs, Paired (fun p u => m p.2 = some u) fl' vs ∧ Paired (fun p u => ∃ (i : Nat), ps[i]? = some p.2 ∧ us[i]? = some u) fl' vs := by
    intro fl'
    induction fl' with
    | nil => intro _; exact ⟨[], .nil, .nil⟩
    | cons p fl' ih =>
      intro h
      obtain ⟨vs, v1, v2⟩ := ih fun q hq => h q (List.mem_cons_of_mem _ hq)
      have some_ : ∃ u, m p.2 = some u := by
        have go : ∀ {qs : List PySem.Str} {ws : List Value}, Paired (fun x u => m x = some u) qs ws → p.2 ∈ qs → ∃ u, m p.2 = some u := by
          intro qs ws b
          induction b with
          | nil => intro h; cases h
          | cons b1 b2 ih =>
            intro h
            rcases List.mem_cons.mp h with e | h
            · rw [e]; exact ⟨_, b1⟩
            · exact ih h
        exact go bps (h p (by simp))
      obtain ⟨u, hu⟩ := some_
      exact ⟨u :: vs, .cons hu v1, .cons (look hu (h p (by simp))) v2⟩
  obtain ⟨vs, v1, v2⟩ := have_ S.sub
  refine _root_.PySem.wpAt_of_wpAny ?_
  cases hsets with
  | nil => exact absurd rfl hne
  | @cons f x q1 q2 q3 q4 r l hr =>
    cases v1 with
    | @cons _ u _ vs hu1 hus =>
      have loc2 : ∀ p ∈ (f, x) :: l, env.kindOf p.2 = some .local ∧ (p.2 == ("__debug__" : PySem.Str)) = false := fun p hp => by rw [kOf]; exact kl _ (List.mem_cons_of_mem _ (S.sub p hp))
      have hX := loc2 (f, x) (by simp)
      refine wpAny_execs_cons (plainObj_wpAny_Assign_Attribute (wpAny_Name (wpAny_loadName_local ek hX.1 hns5 hu1 ?_) hX.2) swapsA)
      refine wpAny_Name (wpAny_loadName_local ek selfL.1 hns5 hself ?_) selfL.2
      refine PySem.W.set_plain hK5 (ox := PySem.HandSPX.excO C t1) (od := none) ⟨f5, rfl, rfl, trivial⟩ S.oex.sa ?_
      refine PySem.HandSPX.exc_osa hK5 f5 hcl (show PySem.HandSPX.refsVE (.ref C :: bm) = true from hbm) rfl (S.flds (f, x) (by simp)) (fun h6 tk6 dA k6 z6 n6 f6 d6 => ?_)
      have z7 : h5.objs.size ≤ dA := z6
      have q5 : (e : Nat) < h5.objs.size := Heap.lt_size f5
      have q6 : (hp.objs.size : Nat) + 1 = e := hee
      have q7 : (env.locals : Nat) < h5.objs.size := sz5
      have q8 : (h5.objs.size : Nat) ≤ dA := z6
      have hdn : (hp.objs.size : Nat) ≤ dA := by omega
      have hdl : dA ≠ env.locals := fun z => Nat.lt_irrefl _ (Nat.lt_of_lt_of_le (show dA < h5.objs.size by rw [z]; exact sz5) z6)
      refine sets_old (hp := hp) (nl := [f]) hK ek selfL hself S.oex hcl (show PySem.HandSPX.refsVE (.ref C :: bm) = true from hbm) rfl eL hr (fun p hp => S.flds p (List.mem_cons_of_mem _ hp)) (fun p hp => loc2 p (List.mem_cons_of_mem _ hp)) hus (fun b o z => k6 b o (fun y => by rw [y, hpe] at z; cases z) (upD b o z))
        (Heap.get?_none_of_le hdn) hpe hdl (hns5.at fun o z => k6 _ o (Ne.symm eL) z) f6 d6 (fun y hy => ?_) (by have := S.few.2; rw [List.length_cons] at this; rw [List.length_singleton]; omega) (fun h7 tk7 k7 f7 d7 => ?_)
      · by_cases hyf : y = f
        · rw [hyf]; simp
        · rw [if_neg hyf] at hy; exact absurd rfl hy
      · refine ⟨rfl, ?_⟩
        exact hR e dA t1 h7 tk7 (u :: vs) (by show hp.objs.size ≤ e; omega) hdn n6 k7 f7 v2 d7
theorem sup_made {fI : Addr} {self : PySem.Str} {ps : List PySem.Str} {fl : List (PySem.Str × PySem.Str)} {s : Shared} {mg mb : PySem.Str → Option Value} {us : List Value} {R : Value → Shared → Prop} (S : SupC prog K C fI self ps fl) (hne : fl ≠ []) (hK : K.In s.heap) (hg : s.heap.Ns mainGlobals mg) (hgs : mg "super" = none)
    (hb : s.heap.Ns builtinsNs mb) (hbb : ∀ x : PySem.Str, x ≠ "__name__" → mb x = bootBuiltins x) (hnl : s.heap.NoLimit) (hlen : us.length = ps.length) (hroom : (A.under (.builtin "type.__call__" ⟨.ref C :: us, []⟩)).depth < recursionLimit)
    (hR : ∀ e dA t1 h' tk (vs : List Value), s.heap.objs.size ≤ e → s.heap.objs.size ≤ dA → dA ≠ e → (∀ b o, s.heap.get? b = some o → h'.get? b = some o) → h'.get? e = some ({ cls := .ref C, dict := some dA, data := .fields #[.ref t1, .none, .none, .none, .bool false, .none] } : Obj) →
      Paired (fun p u => ∃ (i : Nat), ps[i]? = some p.2 ∧ us[i]? = some u) fl vs → h'.Ns1 dA (dMap (fun _ => none) ((fl.map (·.1)).zip vs)) → R (.ref e) { s with heap := h', toks := tk }) :
    wpAny (model prog wd) A (call (.ref C) us) R Ex s := by
  refine sup_madeK S hne hK hg hgs hb hbb hnl hlen (by have := S.few.1; rw [sizeLine_eq]; omega) (fun oc od fd osl x lk => ?_) hroom hR
  obtain ⟨name, qual, params, body, scope, dV, kV, doc, pm, ct, oc', an, od', cda, cc, osl', ar, lk', hcode, _, _, ks, kc, kl, nocell, hco, hgen, hk, har, harg, hbind, _⟩ := S.fn
  rw [lk] at lk'
  cases lk'
  exact hbind (x :: us) (by rw [List.length_cons, hlen])
end
end Ev
end
section
set_option Elab.async false
set_option linter.all false
set_option maxRecDepth 100000
set_option maxHeartbeats 2000000
/-! Ev, part S: an own exception as a reading. -/
namespace Ev
open PySem PySem.Spec PyProof.Rows L2
theorem dMap_at {us : List Value} : ∀ {fs : List PySem.Str} {us : List Value} {m : PySem.Str → Option Value} (f : PySem.Str), fs.Nodup → dMap m (fs.zip us) f = match (fs.zip us).lookup f with
    | some u => some u
    | none => m f
  | [], us, m, f, _ => rfl
  | n :: fs, [], m, f, _ => rfl
  | n :: fs, u :: us, m, f, nd => by
    rw [List.nodup_cons] at nd
    rw [List.zip_cons_cons, dMap, dMap_at (us := us) f nd.2, List.lookup]
    by_cases h : f = n
    · subst h
      have : (fs.zip us).lookup f = none := by
        rw [List.lookup_eq_none_iff]
        intro q hq
        simp
        rintro rfl
        exact nd.1 (List.of_mem_zip hq).1
      rw [this]
      simp
    · rw [show (f == n) = false by simpa using h]
      cases (fs.zip us).lookup f with
      | none => simp [h]
      | some w => rfl
theorem rel_zip : ∀ {fs : List PySem.Str} {vs : List V} {us : List Value} (f : PySem.Str), Vals vs us → RelO ((fs.zip vs).lookup f) ((fs.zip us).lookup f)
  | [], _, _, f, _ => True.intro
  | n :: fs, _, _, f, .nil => True.intro
  | n :: fs, v :: vs, u :: us, f, .cons r rr => by
    rw [List.zip_cons_cons, List.zip_cons_cons, List.lookup, List.lookup]
    by_cases h : f = n
    · subst h
      simp
      exact r
    · rw [show (f == n) = false by simpa using h]
      exact rel_zip f rr
theorem rel_dmap {fs : List PySem.Str} {vs : List V} {us : List Value} (nd : fs.Nodup) (r : Vals vs us) (f : PySem.Str) : RelO ((fs.zip vs).lookup f) (dMap (fun _ => none) (fs.zip us) f) := by
  rw [dMap_at (us := us) f nd]
  have z := rel_zip (fs := fs) f r
  cases q : (fs.zip us).lookup f with
  | none => rw [q] at z; exact z
  | some u => rw [q] at z; exact z
theorem same_vals {ps : List PySem.Str} {us : List Value} (nd : ps.Nodup) (hl : us.length = ps.length) : ∀ {fl : List (PySem.Str × PySem.Str)} {vs : List Value}, Paired (fun p u => ∃ (i : Nat), ps[i]? = some p.2 ∧ us[i]? = some u) fl vs → fl.map (·.2) = ps → vs = us := by
  have go : ∀ {fl : List (PySem.Str × PySem.Str)} {vs : List Value} (k : Nat), Paired (fun p u => ∃ (i : Nat), ps[i]? = some p.2 ∧ us[i]? = some u) fl vs → fl.map (·.2) = ps.drop k → vs = us.drop k := by
    intro fl
    induction fl with
    | nil =>
      intro vs k h e
      cases h
      have : ps.length ≤ k := by
        have := congrArg List.length e
        simp at this
        omega
      rw [List.drop_eq_nil_of_le (by omega)]
    | cons p fl ih =>
      intro vs k h e
      cases h with
      | @cons _ u _ vs h1 h2 =>
        have hk : k < ps.length := by
          have := congrArg List.length e
          simp at this
          omega
        rw [List.drop_eq_getElem_cons hk] at e
        rw [List.map_cons] at e
        injection e with e1 e2
        rw [List.drop_eq_getElem_cons (by omega), ← ih (k + 1) h2 e2]
        obtain ⟨i, i1, i2⟩ := h1
        have hi : i = k := by
          have : ps[i]? = ps[k]? := by rw [i1, List.getElem?_eq_getElem hk, e1]
          exact (List.getElem?_inj (List.getElem?_eq_some_iff.mp i1).1 nd).mp this
        subst hi
        rw [List.getElem?_eq_getElem (by omega)] at i2
        cases i2
        rfl
  intro fl vs h e
  have := go 0 h (by rw [List.drop_zero]; exact e)
  rwa [List.drop_zero] at this
section
variable {T : Tb} {Wx : WX} {X : Cx} {c k : Nat} {e : Expr} {es : List Expr} {pos : Pos} {Φs : List SL → List D → RE (List D)}
/-- what is to be known of an own exception's class -/
structure XcOk (T : Tb) (prog : Program) (c n : Nat) : Prop where
  ex : ∃ (fI : Addr) (slf : PySem.Str) (ps : List PySem.Str) (fl : List (PySem.Str × PySem.Str)), SupC prog T.K (T.xcls c) fI slf ps fl ∧ fl.map (·.1) = T.xflds c ∧ fl.map (·.2) = ps ∧ fl ≠ [] ∧ (T.xflds c).Nodup ∧ ps.length = n
theorem pmk_sup {n : Nat} {z : PySem.Str} {p1 : Pos} (hK : X.K = T.K) (O : XcOk T X.prog c n) (hn : ∀ a h l h', Φs a h = .ok l h' → l.length = n) (hg : Gl X z) (hm : X.mg z = some (.ref (T.xcls c))) (hgs : X.mg "super" = none) (hr : Room k X.A) (hd : (z == ("__debug__" : PySem.Str)) = false)
    (ha : DA T Wx X (e :: es) Φs) (hp : plE e = true) (hps : es.all plE = true) : PMk X (.Call (.Name z p1) (e :: es) [] pos) (tMkX T Wx c Φs) := by
  obtain ⟨fI, slf, ps, fl, S, hf1, hf2, hne, hnd, hpn⟩ := O.ex
  rw [← hK] at S
  intro pins s σ H Q I ⟨w, a, eH, RH, RS, q⟩
  refine wpAny_Call_Name_kw (ld_glob I hg hm ?_ hd)
  have q' : Post T Wx a σ w (rFL T a σ) (fun vs H1 => vs.length = n ∧ Mid T a σ w (rFL T a σ) (fun w1 vs ds => ∀ d w2, w1.le w2 → w2.hh = w1.hh → RepH T w2 → RepS T w2 a σ → XAt T w2 d c ds → Q (.ref (T.xcls c)) d w2.H) vs H1) (Φs a w.hh) := by
    cases hq : Φs a w.hh with
    | ok l hh =>
      rw [hq] at q
      exact fun v w' l1 e1 e2 e3 e4 => ⟨by rw [e4.1]; exact hn _ _ _ _ hq, q v w' l1 e1 e2 e3 e4⟩
    | exc c2 ds hh => rw [hq] at q; exact q
    | bad => rw [hq] at q; exact q
  refine PySem.W.callWith_K (h₀ := X.base) I.ok.mod.kin S.oex.kC (thn (ha.run pos pins s σ H _ I ⟨w, a, eH, RH, RS, q'⟩) fun us s1 ⟨vs, H1, I1, r, hvn, w1, ds, le, e1, RH1, RS1, f1, q1⟩ => ⟨I1.kIn, ?_⟩) (star_pl hp) (anyStar_pl hps)
  subst e1
  obtain ⟨mb, b1, b2⟩ := I1.mod.blt
  have hul : us.length = ps.length := by rw [← r.length, hvn, hpn]
  refine sup_made S hne I1.kIn (I1.mod.glob.keeps I1.bk) hgs (b1.keeps I1.bk) b2 (I1.mod.nolimit.keeps I1.bk) hul (by rw [make_depth]; have := hr.dp; omega) (fun x dA t1 h' tk ws z1 z2 z3 k1 k2 k3 k4 => ?_)
  obtain rfl := same_vals (List.nodup_cons.mp S.nd).2 hul k3 hf2
  obtain ⟨G, g1, g2⟩ := restrict h' fun b => decide (b ≠ x)
  have gk : ∀ b, b ≠ x → G.get? b = h'.get? b := fun b hb => g1 b (decide_eq_true hb)
  have gx : G.get? x = none := g2 x (by simp)
  have hdn : w1.H dA = none := I1.hok.fresh z2
  have hxn : w1.H x = none := I1.hok.fresh z1
  rw [hf1] at k4
  have rel := rel_dmap (vs := vs) hnd r
  have le2 := newF_le (o := .xd ((T.xflds c).zip vs)) RH1 hdn
  have J : Inv X pins σ (upd w1.H dA (.xd ((T.xflds c).zip vs))) { s1 with heap := G, toks := tk } :=
    I1.laid (t' := tk) (fun b o z => by rw [gk b (Nat.ne_of_lt (Nat.lt_of_lt_of_le (Heap.lt_size z) z1))]; exact k1 b o z) z2 (show ObjOk X.prog X.w _ _ _ (.xd ((T.xflds c).zip vs)) from ⟨_, k4.at fun o y => (gk dA z3).trans y, rel⟩)
  refine ⟨x, _, _, { s1 with heap := G, toks := tk }, _, .ref (T.xcls c), some dA, rfl, J, fun b o z => ?_, gx, k2, ⟨rfl, rfl⟩, rfl, rfl, ?_, rfl, J.bare, raises_own S.oex.exC S.oex.tyC, ?_⟩
  · by_cases hb : b = x
    · rw [hb, gx] at z; cases z
    · exact (gk b hb).symm.trans z
  · rw [upd_ne z3.symm]; exact hxn
  · refine q1 (some dA) (w1.newF dA (.xd ((T.xflds c).zip vs))) le2 rfl (newF_H RH1 hdn) (newF_S RH1 RS1 hdn) (.inr ⟨dA, vs, rfl, upd_same, ?_, f1.mono le2.f le2.m⟩)
    rw [← hf1, List.length_map]
    have : fl.length = ps.length := by rw [← hf2, List.length_map]
    omega
end
end Ev
end
section
set_option Elab.async false
set_option linter.all false
set_option maxRecDepth 100000
set_option maxHeartbeats 2000000
/-! Ev, part Xl: own exceptions made by keywords and read at once; those without an __init__. -/
namespace Ev
open PySem PySem.Spec PySem.Calls PyProof.Rows L2
section
variable {X : Cx} {t t' : TA}
theorem pk_imp {kws : List Keyword} (h : PK X kws t) (k : ∀ σ H Q, t' σ H Q → t σ H Q) : PK X kws t' := ⟨fun pos pins s σ H Q I q => h.run pos pins s σ H Q I (k σ H Q q)⟩
theorem kw_names {env : Env} {pos : Pos} : ∀ {kws : List Keyword} {ks : List PySem.Str}, kws.map (·.arg) = ks.map some → (backToKw pos (keywordEach kws env)).all (·.1.isSome) = true ∧ (backToKw pos (keywordEach kws env)).filterMap (·.1) = ks ∧ (backToKw pos (keywordEach kws env)).any (·.1.isNone) = false
  | [], [], _ => ⟨rfl, rfl, rfl⟩
  | [], k :: ks, h => by simp at h
  | ⟨n, e, p⟩ :: kws, [], h => by simp at h
  | ⟨n, e, p⟩ :: kws, k :: ks, h => by
    rw [List.map_cons, List.map_cons] at h
    injection h with h1 h2
    have h1 : n = some k := h1
    subst h1
    obtain ⟨a, b, c⟩ := kw_names (env := env) (pos := pos) h2
    have e1 : backToKw pos (keywordEach (⟨some k, e, p⟩ :: kws) env) = (some k, (do let v ← eval e env; standAt pos; pure v)) :: backToKw pos (keywordEach kws env) := rfl
    rw [e1, List.all_cons, List.filterMap_cons, List.any_cons, a, b, c]
    exact ⟨rfl, rfl, rfl⟩
end
section
variable {T : Tb} {Wx : WX} {X : Cx} {g : G} {c k : Nat} {kws : List Keyword} {pos : Pos} {Φ : List SL → List D → RE D} {Φs : List SL → List D → RE (List D)}
abbrev DK (T : Tb) (Wx : WX) (X : Cx) (kws : List Keyword) (Φ : List SL → List D → RE (List D)) : Prop := PK X kws (tG T Wx (rFL T) Φ)
theorem dk_nil : DK T Wx X [] (fun _ hh => .ok [] hh) := by
  refine pk_imp pk_nil fun σ H Q ⟨w, a, e, RH, RS, p⟩ => ?_
  show Q [] H
  rw [← e]
  exact p [] w (.refl _) rfl RH RS .nil
theorem dk_cons {x : Expr} {nm : Option PySem.Str} {kp : Pos} (h1 : DE T Wx X x Φ) (h2 : DK T Wx X kws Φs) : DK T Wx X (⟨nm, x, kp⟩ :: kws) (fun a hh => (Φ a hh).bind fun d h1 => (Φs a h1).bind fun l h2 => .ok (d :: l) h2) := by
  refine pk_imp (pk_cons h1 h2) fun σ H Q ⟨w, a, e, RH, RS, p⟩ => ⟨w, a, e, RH, RS, ?_⟩
  refine (p.bind (Rel := rF T a σ)).imp fun v H1 ⟨w1, d, le, eH, RH1, RS1, f1, q⟩ => ⟨w1, a, eH, RH1, RS1, ?_⟩
  refine (q.bind (Rel := rFL T a σ)).imp fun u H2 ⟨w2, s, le2, eH2, RH2, RS2, f2, q2⟩ => ?_
  rw [← eH2]
  exact q2 _ w2 (.refl _) rfl RH2 RS2 (.cons (f1.mono le2.f le2.m) f2)
theorem vals_at {zs : List V} {ws : List Value} (r : Vals zs ws) {i : Nat} {v : V} (h : zs[i]? = some v) : ∃ u, ws[i]? = some u ∧ RelV v u := by
  induction r generalizing i with
  | nil => simp at h
  | @cons a b as bs h1 h2 ih =>
    cases i with
    | zero =>
      have e : a = v := by simpa using h
      subst e
      exact ⟨b, rfl, h1⟩
    | succ i => exact ih (by simpa using h)
/-- what is to be known of a class that is made by such keywords -/
structure XkOk (T : Tb) (prog : Program) (c : Nat) (ks : List PySem.Str) (pm : List Nat) : Prop where
  ex : ∃ (fI : Addr) (slf : PySem.Str) (ps : List PySem.Str) (fl : List (PySem.Str × PySem.Str)), SupC prog T.K (T.xcls c) fI slf ps fl ∧ fl.map (·.1) = T.xflds c ∧ fl.map (·.2) = ps ∧ fl ≠ [] ∧ ps.length = pm.length ∧
    ∀ (oc : Value) (od : Option Addr) (fd : FuncData) (osl : Array (Option Value)) (x : Value) (ws us : List Value), T.K.lookup fI = some ⟨oc, od, .func fd, osl⟩ → ws.length = ks.length → us.map some = pm.map (fun i => ws[i]?) → bindArgs fd ⟨[x], ks.zip ws⟩ = pure ((slf :: ps).zip (x :: us))
  lt : ∀ i ∈ pm, i < ks.length
theorem getD_map {ws : List Value} : ∀ {pm : List Nat}, (∀ i ∈ pm, i < ws.length) → (pm.map fun i => (ws[i]?).getD .none).map some = pm.map (fun i => ws[i]?)
  | [], _ => rfl
  | i :: pm, h => by
    have hi := h i (List.mem_cons_self ..)
    rw [List.map_cons, List.map_cons, List.map_cons, getD_map fun j hj => h j (List.mem_cons_of_mem _ hj), List.getElem?_eq_getElem hi]
    rfl
theorem de_xkw {z nm : PySem.Str} {p1 p2 : Pos} {ks : List PySem.Str} {pm : List Nat} {f : Nat} (hK : X.K = T.K) (O : XkOk T X.prog c ks pm) (hF : XFldOk T g f nm) (hn : ∀ a h l h', Φs a h = .ok l h' → l.length = ks.length) (hg : Gl X z) (hm : X.mg z = some (.ref (T.xcls c))) (hgs : X.mg "super" = none) (hr : Room k X.A) (hd : (z == ("__debug__" : PySem.Str)) = false)
    (hk : kws.map (·.arg) = ks.map some) (hne : kws ≠ []) (ha : DK T Wx X kws Φs) :
    DE T Wx X (.Attribute (.Call (.Name z p1) [] kws pos) nm p2) (fun a h => (Φs a h).bind fun l h1 => RE.lift ((g.xfld c f).bind fun j => (pm[j]?).bind fun i => l[i]?) h1) := by
  obtain ⟨fI, slf, ps, fl, S, hf1, hf2, hfne, hpn, hbd⟩ := O.ex
  rw [← hK] at S
  obtain ⟨n1, n2, n3⟩ := kw_names (env := X.env) (pos := pos) hk
  refine ⟨fun pins s σ H Q I ⟨w, a, eH, RH, RS, q⟩ => ?_⟩
  refine attr_of (by cases kws with | nil => exact absurd rfl hne | cons y ys => rfl) ?_
  refine wpAny_Call_Name_kw (ld_glob I hg hm ?_ hd)
  have q0 := q.bind (Rel := rFL T a σ)
  have q' : Post T Wx a σ w (rFL T a σ) (fun vs H1 => vs.length = ks.length ∧ Mid T a σ w (rFL T a σ) (fun w1 _ d => Post T Wx a σ w1 (rF T a σ) Q (RE.lift ((g.xfld c f).bind fun j => (pm[j]?).bind fun i => d[i]?) w1.hh)) vs H1) (Φs a w.hh) := by
    cases hq : Φs a w.hh with
    | ok l hh =>
      rw [hq] at q0
      exact fun v w' l1 e1 e2 e3 e4 => ⟨by rw [e4.1]; exact hn _ _ _ _ hq, q0 v w' l1 e1 e2 e3 e4⟩
    | exc c2 ds hh => rw [hq] at q0; exact q0
    | bad => rw [hq] at q0; exact q0
  refine PySem.W.callWith_KW0 (h₀ := X.base) I.ok.mod.kin S.oex.kC n1 (thn (ha.run pos pins s σ H _ I ⟨w, a, eH, RH, RS, q'⟩) fun ws s1 ⟨zs, H1, I1, r, hzl, w1, ds, le, e1, RH1, RS1, f1, q1⟩ => ⟨I1.kIn, ?_⟩) (by rw [n3]; rfl)
  subst e1
  rw [n2]
  obtain ⟨mb, b1, b2⟩ := I1.mod.blt
  have hwl : ws.length = ks.length := by rw [← r.length, hzl]
  have hus := getD_map (ws := ws) (pm := pm) fun i hi => by rw [hwl]; exact O.lt i hi
  generalize hue : (pm.map fun i => (ws[i]?).getD .none) = us at hus
  have hul : us.length = ps.length := by rw [← hue, List.length_map, hpn]
  refine sup_madeK (rs := []) (us := us) S hfne I1.kIn (I1.mod.glob.keeps I1.bk) hgs (b1.keeps I1.bk) b2 (I1.mod.nolimit.keeps I1.bk) hul (by rw [sizeLine_eq]; exact Nat.zero_le _) (fun oc od fd osl x lk => hbd oc od fd osl x ws us (by rw [← hK]; exact lk) hwl hus) (by rw [make_depth]; have := hr.dp; omega) (fun x dA t1 h' tk vs z1 z2 z3 k1 k2 k3 k4 => ?_)
  obtain rfl := same_vals (List.nodup_cons.mp S.nd).2 hul k3 hf2
  obtain ⟨d, hd2, q2⟩ := Post.lift q1
  obtain ⟨j, j1, j2⟩ := Option.bind_eq_some_iff.mp hd2
  obtain ⟨i, i1, i2⟩ := Option.bind_eq_some_iff.mp j2
  obtain ⟨x1, x2, x3, x4⟩ := hF.ok c j j1
  obtain ⟨v, v1, v2⟩ := f1.at i2
  obtain ⟨u, u1, u2⟩ := vals_at r v1
  have hj : vs[j]? = some u := by
    have := congrArg (fun l : List (Option Value) => l[j]?) hus
    simp only [List.getElem?_map, i1, Option.map_some, u1] at this
    cases hv : vs[j]? with
    | none => rw [hv] at this; simp at this
    | some y => rw [hv] at this; simpa using this
  have hlk : dMap (fun _ => none) ((fl.map (·.1)).zip vs) nm = some u := by
    rw [hf1, dMap_at (us := vs) nm x4]
    have : ((T.xflds c).zip vs).lookup nm = some u := by
      have go : ∀ {names : List PySem.Str} {ys : List Value} {j : Nat}, names.Nodup → names[j]? = some nm → ys[j]? = some u → (names.zip ys).lookup nm = some u := by
        intro names
        induction names with
        | nil => intro ys j _ h; simp at h
        | cons n r ih =>
          intro ys j nd h1 h2
          cases ys with
          | nil => simp at h2
          | cons y ys =>
            rw [List.zip_cons_cons, List.lookup]
            rw [List.nodup_cons] at nd
            cases j with
            | zero =>
              simp at h1 h2
              subst h1 h2
              simp
            | succ j =>
              have hm1 : nm ∈ r := List.mem_of_getElem? (by simpa using h1)
              have : (nm == n) = false := by
                simp
                rintro rfl
                exact nd.1 hm1
              rw [this]
              exact ih nd.2 (by simpa using h1) (by simpa using h2)
      exact go x4 x3 hj
    rw [this]
  obtain ⟨oD, ho, hl⟩ := lookIn_ns k4
  have J : PySem.W.InstAt h' x ({ cls := .ref (T.xcls c), dict := some dA, data := .fields #[.ref t1, .none, .none, .none, .bool false, .none] } : Obj) (T.xcls c) (some oD) := ⟨k2, rfl, rfl, ho⟩
  have I2 : Inv X pins σ w1.H { s1 with heap := h', toks := tk } := I1.kept (t' := tk) k1
  exact HandSPX.exc_get I2.kIn J (by rw [hK]; exact x1.ga) (by rw [hK]; exact x1.gg) (by rw [hK]; exact x1.exC) (PySem.W.findObj_own (by rw [hK]; exact x1.hdC) (by rw [hK]; exact x2) rfl (by rw [hl, hlk])) (handed_of u2) ⟨v, w1.H, I2.tok _, u2, q2 v w1 (.refl _) rfl RH1 RS1 v2⟩
/-- what is to be known of an own exception without an __init__ -/
structure XnOk (T : Tb) (c : Nat) : Prop where
  q : PySem.W.excIn T.K (T.xcls c) [.type "ValueError", .type "Exception", .type "BaseException", .type "object"] "ValueError.__new__" = true
  kC : PySem.W.keepIn T.K (.ref (T.xcls c)) = true
  ex : PySem.W.subIn T.K (.ref (T.xcls c)) (.type "BaseException") = some true
  ty : PySem.W.typeIn T.K (.ref (T.xcls c)) = some (.type "type")
theorem pmk_no {z : PySem.Str} {p1 : Pos} (hK : X.K = T.K) (O : XnOk T c) (hg : Gl X z) (hm : X.mg z = some (.ref (T.xcls c))) (hd : (z == ("__debug__" : PySem.Str)) = false) : PMk X (.Call (.Name z p1) [] [] pos) (tMkX T Wx c (fun _ h => .ok [] h)) := by
  intro pins s σ H Q I ⟨w, a, eH, RH, RS, q⟩
  refine wpAny_Call_Name_kw (ld_glob I hg hm ?_ hd)
  refine PySem.W.callWith_K0 I.kIn (by rw [hK]; exact O.kC) ?_
  show wpAny _ _ (call (.ref (T.xcls c)) []) _ _ _
  obtain ⟨bm, N, nm, qn, bs, hdct, sn, sub, ab, col, dd, k0, k1, k2, k3, k5, mN, hC, hN, hni, Tl⟩ := exc_obj I.kIn (show PySem.W.excIn X.K (T.xcls c) [.type "ValueError", .type "Exception", .type "BaseException", .type "object"] "ValueError.__new__" = true by rw [hK]; exact O.q)
  obtain ⟨w1, ds, le, e1, RH1, RS1, f1, q1⟩ := q [] w (.refl _) rfl RH RS .nil
  have e0 : ds = [] := by
    have := f1.1
    cases ds with
    | nil => rfl
    | cons _ _ => simp at this
  subst e0
  refine wpAny_call_exc_subT PySem.F.excBase_ValueError Tl hC hN hni (fun h' e hm => ?_) (by rw [sizeLine_eq]; exact Nat.zero_le _)
  refine mk_of I hm (raises_own (by rw [hK]; exact O.ex) (by rw [hK]; exact O.ty)) ?_ (I.hok.gone hm.new)
  have := q1 none w1 (.refl _) rfl RH1 RS1 (.inl ⟨rfl, rfl⟩)
  rw [e1] at this
  rw [← eH]
  exact this
end
end Ev
end
section
set_option Elab.async false
set_option linter.all false
set_option maxRecDepth 100000
set_option maxHeartbeats 4000000
/-! Ev, part T: the check of a tree against the text; expressions. -/
namespace Ev
open PySem PySem.Spec PyProof.Rows L2
/-- the tables of names -/
structure Tt where
  bn : List PySem.Str
  fname : Nat → PySem.Str
  cname : Nat → PySem.Str
  xname : Nat → PySem.Str
  fld : Nat → PySem.Str
  mth : Nat → PySem.Str
  xfl : Nat → PySem.Str
  xar : Nat → Nat
  nx : Nat
  nh : Nat
  glf : Nat → Bool
  xis : Bool := false
  xko : Nat → List PySem.Str → List Nat → Bool := fun _ _ _ => false
  x0 : Nat → Bool := fun _ => false
def dunder (z : PySem.Str) : Bool := (z == ("__debug__" : PySem.Str)) || (z == ("__classdict__" : PySem.Str)) || (z == ("__name__" : PySem.Str))
/-- a name of ours that is read; that is set; a name of the module -/
def rdB (N : List PySem.Str) (sc : Scope) (i : Nat) (z : PySem.Str) : Bool := decide (N[i]? = some z) && !dunder z && (match sc.names.lookup z with
  | some .local => true
  | some .cell => true
  | some .free => true
  | _ => false)
def nmB (N : List PySem.Str) (sc : Scope) (i : Nat) (z : PySem.Str) : Bool := decide (N[i]? = some z) && (match sc.names.lookup z with
  | some .local => true
  | some .cell => true
  | _ => false)
def glB (sc : Scope) (z : PySem.Str) : Bool := !dunder z && decide (sc.names.lookup z = some .globalImplicit)
def bnB (t : Tt) (sc : Scope) (z : PySem.Str) : Bool := glB sc z && t.bn.contains z
/-- built-ins -/
def biNm : Bi → PySem.Str
  | .len => "len" | .tuple => "tuple" | .list => "list" | .sorted => "sorted" | .sum => "sum" | .sum2 => "sum" | .max1 => "max" | .min1 => "min" | .max2 => "max" | .min2 => "min" | .abs => "abs" | .int => "int" | .str => "str" | .all => "all" | .any => "any"
  | .dict => "dict" | .repr => "repr" | .lenset => "" | .sortedset => "" | .sortedk _ => ""
def biCold : Bi → Bool
  | .max1 => true | .min1 => true | .max2 => true | .min2 => true | .all => true | .any => true
  | _ => false
def biKnown : Bi → Bool
  | .len => true | .tuple => true | .list => true | .max1 => true | .min1 => true | .max2 => true | .min2 => true | .abs => true | .int => true | .all => true | .any => true | .repr => true
  | _ => false
def tyB (t : Tt) (sc : Scope) : Ty → Expr → Bool
  | .int, .Name z _ => bnB t sc z && decide (z = "int")
  | .bool, .Name z _ => bnB t sc z && decide (z = "bool")
  | .str, .Name z _ => bnB t sc z && decide (z = "str")
  | .list, .Name z _ => bnB t sc z && decide (z = "list")
  | .tuple, .Name z _ => bnB t sc z && decide (z = "tuple")
  | .cls c, .Name z _ => glB sc z && decide (z = t.cname c)
  | _, _ => false
/-- an exception class that isinstance is asked about -/
def tyXB (t : Tt) (sc : Scope) : Ty → Expr → Bool
  | .exc c, .Name z _ => glB sc z && decide (z = t.xname c) && decide (c < t.nh)
  | .bexc x, .Name z _ => bnB t sc z && ((decide (z = "ValueError") && decide (x = "ValueError")) || ((decide (z = "LookupError") && decide (x = "LookupError")) || (decide (z = "RuntimeError") && decide (x = "RuntimeError"))))
  | _, _ => false
abbrev argOf (k : Keyword) : Option PySem.Str := k.arg
def esLen : Es → Nat
  | .nil => 0
  | .cons _ r => esLen r + 1
def tysB (t : Tt) (sc : Scope) : List Ty → List Expr → Bool
  | [], [] => true
  | a :: as, e :: es => tyB t sc a e && tysB t sc as es
  | _, _ => false
def chOp (o : Cop) : Bool := match o with
  | .lt => true | .le => true | .gt => true | .ge => true | .eq => true
  | _ => false
mutual
def tgB (N : List PySem.Str) (sc : Scope) : Tg → Expr → Bool
  | .name i, .Name z _ => nmB N sc i z
  | .cons t r, .Tuple es _ _ => tgsB N sc (.cons t r) es
  | _, _ => false
def tgsB (N : List PySem.Str) (sc : Scope) : Tg → List Expr → Bool
  | .nil, [] => true
  | .cons t r, e :: es => tgB N sc t e && tgsB N sc r es
  | _, _ => false
end
def ownN (N : List PySem.Str) (own : List Nat) : List (PySem.Str × Nat) := own.map fun j => ((N[j]?).getD "", j)
def argsB (es : List Expr) : Bool := es.all plE && decide (es.length < 19)
/-- may it stand as a test -/
def testable : E → Expr → Bool
  | .not x, .UnaryOp .Not x' _ => testable x x'
  | .and x y, .BoolOp .And (a :: b :: r) q => testable x a && (match r with
    | [] => testable y b
    | c :: r => testable y (.BoolOp .And (b :: c :: r) q))
  | .or x y, .BoolOp .Or (a :: b :: r) q => testable x a && (match r with
    | [] => testable y b
    | c :: r => testable y (.BoolOp .Or (b :: c :: r) q))
  | .cmp _ _ _, _ => true
  | .chain _ _ _ _ _, _ => true
  | .not _, _ => false
  | .and _ _, _ => false
  | .or _ _, _ => false
  | _, x => tsE x
section
variable (t : Tt) (p : P) (N : List PySem.Str) (hot : Bool)
mutual
/-- a value's tree and its text -/
def chE (sc : Scope) : E → Expr → Bool
  | .var i, .Name z _ => rdB N sc i z
  | .int i, .Constant (.int j) _ _ => decide (i = j)
  | .str x, .Constant (.str y) _ _ => decide (x = y)
  | .bl x, .Constant (.bool y) _ _ => x == y
  | .non, .Constant .none _ _ => true
  | .fnv f, .Name z _ => glB sc z && decide (z = t.fname f) && decide (f < p.fns.length) && t.glf f
  | .bin op x y, .BinOp x' o y' _ => decide (o = opP op) && chE sc x x' && chE sc y y'
  | .cmp op x y, .Compare x' [o] [y'] _ => decide (o = opCP op) && plE y' && chE sc x x' && chE sc y y'
  | .chain o1 o2 x y z, .Compare x' [a, b] [y', z'] _ => decide (a = opCP o1) && decide (b = opCP o2) && chOp o1 && chOp o2 && chE sc x x' && chE sc y y' && chE sc z z'
  | .and x y, .BoolOp .And (a :: b :: r) q => chE sc x a && (match r with
    | [] => chE sc y b
    | c :: r => chE sc y (.BoolOp .And (b :: c :: r) q))
  | .or x y, .BoolOp .Or (a :: b :: r) q => chE sc x a && (match r with
    | [] => chE sc y b
    | c :: r => chE sc y (.BoolOp .Or (b :: c :: r) q))
  | .not x, .UnaryOp .Not x' _ => chE sc x x'
  | .neg x, .UnaryOp .USub x' _ => chE sc x x'
  | .ite c x y, .IfExp c' x' y' _ => testable c c' && chE sc c c' && chE sc x x' && chE sc y y'
  | .tup es, .Tuple es' _ _ => es'.all plE && chEs sc es es'
  | .lst es, .List es' _ => es'.all plE && chEs sc es es'
  | .sl x lo hi, .Subscript x' (.Slice lo' hi' none _) _ => chE sc x x' && chEo sc lo lo' && chEo sc hi hi'
  | .rev x, .Subscript x' (.Slice none none (some (.UnaryOp .USub (.Constant (.int k) _ _) _)) _) _ => decide (k = 1) && chE sc x x'
  | .ix x i, .Subscript x' i' _ => plE i' && chE sc x x' && chE sc i i'
  | .fld x f, .Attribute x' nm _ => decide (nm = t.fld f) && supE x' && chE sc x x'
  | .xfld i f, .Attribute (.Name z _) nm _ => decide (nm = t.xfl f) && rdB N sc i z
  | .call f es, .Call (.Name z _) es' [] _ => !hot && t.glf f && glB sc z && decide (z = t.fname f) && (match p.fns[f]? with | some b => !b.init | none => false) && argsB es' && chEs sc es es'
  | .meth x m es, .Call (.Attribute x' nm q) es' [] q2 => !hot && decide (nm = t.mth m) && supE x' && (q.endLine == q2.line) && argsB es' && chE sc x x' && chEs sc es es'
  | .mk c es, .Call (.Name z _) es' [] _ => !hot && glB sc z && decide (z = t.cname c) && argsB es' && chEs sc es es'
  | .bi b es, .Call (.Name z _) es' [] _ => biKnown b && (!hot || !biCold b) && bnB t sc z && decide (z = biNm b) && argsB es' && !es'.isEmpty && chEs sc es es'
  | .isi x [ty], .Call (.Name z _) [x', y'] [] _ => bnB t sc z && decide (z = "isinstance") && plE x' && plE y' && chE sc x x' && tyB t sc ty y' && tyOk2 p.ncls ty
  | .isi x ts, .Call (.Name z _) [x', .Tuple es' _ _] [] _ => bnB t sc z && decide (z = "isinstance") && plE x' && chE sc x x' && es'.all plE && tysB t sc ts es' && decide (ts.length < 100) && ts.all (tyOk2 p.ncls)
  | .comp tg own it c e, .ListComp elt [⟨tg', iter, ifs, 0⟩] scope _ => !hot && blkC N sc scope (ownN N own) && (tgs tg).all (own.contains ·) && tgB N scope tg tg' && plE iter && chIt sc true it iter && chIf (relS scope sc) c ifs && chE (relS scope sc) e elt
  | .isx i ty, .Call (.Name z _) [.Name y _, x'] [] _ => t.xis && bnB t sc z && decide (z = "isinstance") && rdB N sc i y && plE x' && tyXB t sc ty x'
  | .xkw c es pm f, .Attribute (.Call (.Name z _) [] kws _) nm _ => !hot && decide (nm = t.xfl f) && glB sc z && decide (z = t.xname c) && t.bn.contains "super" && !kws.isEmpty && decide (kws.map argOf = (kws.filterMap argOf).map some) && decide (esLen es = (kws.filterMap argOf).length) && t.xko c (kws.filterMap argOf) pm && chKs sc es kws
  | .rngl tp it, .Call (.Name z _) [r'] [] _ => !hot && bnB t sc z && decide (z = if tp then "tuple" else "list") && plE r' && chRg sc it r'
  | _, _ => false
def chEs (sc : Scope) : Es → List Expr → Bool
  | .nil, [] => true
  | .cons e r, x :: xs => chE sc e x && chEs sc r xs
  | _, _ => false
def chKs (sc : Scope) : Es → List Keyword → Bool
  | .nil, [] => true
  | .cons e r, ⟨_, x, _⟩ :: ks => chE sc e x && chKs sc r ks
  | _, _ => false
def chEo (sc : Scope) : Eo → Option Expr → Bool
  | .none, none => true
  | .some e, some x => chE sc e x
  | _, _ => false
def chIf (sc : Scope) : Eo → List Expr → Bool
  | .none, [] => true
  | .some e, [x] => testable e x && chE sc e x
  | _, _ => false
def chIt (sc : Scope) (k : Bool) : It → Expr → Bool
  | .seq e, x => chE sc e x
  | .rng1 a, .Call (.Name z _) [a'] [] _ => bnB t sc z && decide (z = "range") && plE a' && chE sc a a'
  | .rng2 a b, .Call (.Name z _) [a', b'] [] _ => bnB t sc z && decide (z = "range") && plE a' && plE b' && chE sc a a' && chE sc b b'
  | _, _ => false
def chRg (sc : Scope) : It → Expr → Bool
  | .rng1 a, .Call (.Name z _) [a'] [] _ => bnB t sc z && decide (z = "range") && plE a' && chE sc a a'
  | .rng2 a b, .Call (.Name z _) [a', b'] [] _ => bnB t sc z && decide (z = "range") && plE a' && plE b' && chE sc a a' && chE sc b b'
  | _, _ => false
end
end
end Ev
end
section
set_option Elab.async false
set_option linter.all false
set_option maxRecDepth 100000
set_option maxHeartbeats 4000000
/-! Ev, part U: a checked expression does what its tree says. -/
namespace Ev
open PySem PySem.Spec PyProof.Rows L2
theorem evEs_len {g : G} {a : List SL} : ∀ {es : Es} {h l h'}, evEs g a es h = .ok l h' → l.length = esLen es
  | .nil, h, l, h', e => by simp only [evEs] at e; cases e; rfl
  | .cons x r, h, l, h', e => by
    simp only [evEs] at e
    cases q : evE g a x h with
    | ok d h1 =>
      rw [q, RE.bind_ok] at e
      cases q2 : evEs g a r h1 with
      | ok l2 h2 =>
        rw [q2, RE.bind_ok] at e
        cases e
        rw [List.length_cons, evEs_len q2]; rfl
      | exc c ds h2 => rw [q2] at e; cases e
      | bad => rw [q2] at e; cases e
    | exc c ds h1 => rw [q] at e; cases e
    | bad => rw [q] at e; cases e
/-- .. of its exceptions, where they are asked for, made by keywords, made without an __init__ -/
structure Gx (T : Tb) (p : P) (t : Tt) (prog : Program) : Prop where
  xi : t.xis = true → ∀ ty c b, xtyG p.sub c ty = some b → ExcC T.K (T.xcls c) ∧ PySem.W.kitOne T.K (.ref (T.xcls c)) (clsU T ty) = some b
  xk : ∀ c ks pm, t.xko c ks pm = true → c < t.nh ∧ XkOk T prog c ks pm
  x0 : ∀ c, t.x0 c = true → c < t.nh ∧ XnOk T c
theorem Gx.wx {T : Tb} {p : P} {t : Tt} {prog : Program} {z : Option (Addr × Nat × Option Addr)} (h : Gx T p t prog) : Gx (T.wx z) p t prog :=
  ⟨fun e ty c b hb => by
    obtain ⟨h1, h2⟩ := h.xi e ty c b hb
    refine ⟨h1, ?_⟩
    have : clsU (T.wx z) ty = clsU T ty := by cases ty <;> rfl
    rw [this]
    exact h2, fun c ks pm k => ⟨(h.xk c ks pm k).1, ⟨(h.xk c ks pm k).2.ex, (h.xk c ks pm k).2.lt⟩⟩, fun c k => ⟨(h.x0 c k).1, ⟨(h.x0 c k).2.q, (h.x0 c k).2.kC, (h.x0 c k).2.ex, (h.x0 c k).2.ty⟩⟩⟩
theorem Gx.off {T : Tb} {p : P} {t : Tt} {prog : Program} (h1 : t.xis = false) (h2 : ∀ c ks pm, t.xko c ks pm = false) (h3 : ∀ c, t.x0 c = false) : Gx T p t prog :=
  ⟨fun e => (by rw [h1] at e; cases e), fun c ks pm e => (by rw [h2] at e; cases e), fun c e => (by rw [h3] at e; cases e)⟩
/-- what is to be known of the law's module -/
structure Gb (T : Tb) (p : P) (t : Tt) (Ns : Nat → List PySem.Str) (mg : PySem.Str → Option Value) (prog : Program) : Prop where
  bn : ∀ z ∈ t.bn, mg z = none
  fn : ∀ f, f < p.fns.length → t.glf f = true → mg (t.fname f) = some (.ref (T.fnA f))
  md : ∀ f b, p.fns[f]? = some b → (Ns f).length = b.nslots ∧ b.modes.length ≤ b.nslots ∧ (b.init = true → b.modes.head? = some .ow)
  cl : ∀ c f, p.init c = some f → mg (t.cname c) = some (.ref (T.cls c)) ∧ Mk T.K (T.cls c) (T.fnA f) ∧ f < p.fns.length ∧ ∀ b, p.fns[f]? = some b → b.init = true
  cn : ∀ c, c < p.ncls → mg (t.cname c) = some (.ref (T.cls c))
  me : ∀ m c f, p.meth c m = some f → (Cls T.K (T.cls c) ∧ Meth T.K (T.cls c) (t.mth m) (T.fnA f) ∧ t.mth m ∉ T.flds c) ∧ f < p.fns.length ∧ ∀ b, p.fns[f]? = some b → b.init = false
  fl : ∀ f c j, p.fld c f = some j → Cls T.K (T.cls c) ∧ NoAttr T.K (T.cls c) (t.fld f) ∧ (T.flds c)[j]? = some (t.fld f) ∧ (T.flds c).Nodup
  fs : ∀ c, (T.flds c).length < 1000
  xf : ∀ f c j, p.xfld c f = some j → XfC T.K (T.xcls c) ∧ PySem.W.findIn T.K (.ref (T.xcls c)) (t.xfl f) = some none ∧ (T.xflds c)[j]? = some (t.xfl f) ∧ (T.xflds c).Nodup
  xn : ∀ c, c < t.nh → mg (t.xname c) = some (.ref (T.xcls c))
  xc : ∀ c, c < t.nx → c < t.nh ∧ XcOk T prog c (t.xar c)
  ex : ∀ c k v, p.sub c k = some v → PySem.W.exmOne T.K (.ref (T.xcls c)) (.ref (T.xcls k)) = some v
  is : IsiT T p.ncls
  gx : Gx T p t prog
theorem Gb.wx {T : Tb} {p : P} {t : Tt} {Ns : Nat → List PySem.Str} {mg : PySem.Str → Option Value} {prog : Program} {z : Option (Addr × Nat × Option Addr)} (h : Gb T p t Ns mg prog) : Gb (T.wx z) p t Ns mg prog :=
  ⟨h.bn, h.fn, h.md, h.cl, h.cn, h.me, h.fl, h.fs, h.xf, h.xn, fun c k => ⟨(h.xc c k).1, ⟨(h.xc c k).2.ex⟩⟩, h.ex, ⟨h.is.ins, h.is.own, h.is.blt, h.is.rev⟩, h.gx.wx⟩
/-- a context that is fit -/
structure CxE (T : Tb) (p : P) (t : Tt) (fdt : Nat → FuncData) (Ns ps : Nat → List PySem.Str) (n : Nat) (Wx : WX) (X : Cx) (N : List PySem.Str) (sc : Scope) (hot : Bool) : Prop where
  K : X.K = T.K
  gb : Gb T p t Ns X.mg X.prog
  tk : Takes X Wx
  esc : X.env.scope = sc
  kind : sc.kind = .function
  nam : X.N = N
  nd : N.Nodup
  xf : XfR T Wx (p.g n) X
  xi : XiR T Wx (p.g n) X
  un : X.A.units + 70 < cLine
  gd : X.A.guards = some []
  cold : hot = false → X.calm = true ∧ FnTab T p fdt Ns ps n X ∧ T.xa = none
section
variable {T : Tb} {p : P} {t : Tt} {fdt : Nat → FuncData} {Ns ps : Nat → List PySem.Str} {n : Nat} {Wx : WX} {X : Cx} {N : List PySem.Str} {sc : Scope} {hot : Bool}
theorem dunder_no {z : PySem.Str} (h : (!dunder z) = true) : (z == ("__debug__" : PySem.Str)) = false ∧ (z == ("__classdict__" : PySem.Str)) = false ∧ z ≠ "__name__" := by
  unfold dunder at h
  simp only [Bool.not_or, Bool.and_eq_true, Bool.not_eq_true'] at h
  refine ⟨h.1.1, h.1.2, fun e => ?_⟩
  rw [e] at h
  exact absurd h.2 (by decide)
theorem rd_ok (C : CxE T p t fdt Ns ps n Wx X N sc hot) {i : Nat} {z : PySem.Str} (h : rdB N sc i z = true) : RdOk X i z := by
  unfold rdB at h
  rw [Bool.and_eq_true, Bool.and_eq_true] at h
  obtain ⟨⟨h1, h2⟩, h3⟩ := h
  obtain ⟨d1, d2, _⟩ := dunder_no h2
  refine ⟨by rw [C.nam]; exact of_decide_eq_true h1, ?_, d1, d2⟩
  unfold Vis
  rw [C.esc]
  split at h3
  · exact .inl (by assumption)
  · exact .inr (.inl (by assumption))
  · exact .inr (.inr (by assumption))
  · cases h3
theorem gl_ok (C : CxE T p t fdt Ns ps n Wx X N sc hot) {z : PySem.Str} (h : glB sc z = true) : Gl X z ∧ (z == ("__debug__" : PySem.Str)) = false ∧ z ≠ "__name__" := by
  unfold glB at h
  rw [Bool.and_eq_true] at h
  obtain ⟨d1, _, d3⟩ := dunder_no h.1
  refine ⟨?_, d1, d3⟩
  show X.env.scope.names.lookup z = _
  rw [C.esc]
  exact of_decide_eq_true h.2
theorem bn_ok (C : CxE T p t fdt Ns ps n Wx X N sc hot) {z : PySem.Str} (h : bnB t sc z = true) : (Gl X z ∧ (z == ("__debug__" : PySem.Str)) = false ∧ z ≠ "__name__") ∧ X.mg z = none := by
  unfold bnB at h
  rw [Bool.and_eq_true] at h
  exact ⟨gl_ok C h.1, C.gb.bn z (by simpa using h.2)⟩
theorem ty_ok (C : CxE T p t fdt Ns ps n Wx X N sc hot) {ty : Ty} {e : Expr} (h : tyB t sc ty e = true) (hk : tyOk2 p.ncls ty = true) : PE X e (tC (clsV T ty)) := by
  unfold tyB at h
  split at h
  all_goals first | contradiction | skip
  all_goals (rw [Bool.and_eq_true] at h; obtain ⟨h1, h2⟩ := h; have h2 := of_decide_eq_true h2; subst h2)
  · obtain ⟨⟨g1, g2, g3⟩, g4⟩ := bn_ok C h1; exact pe_tyname g1 g4 PyProof.Rows.Boot.«int» g3 g2
  · obtain ⟨⟨g1, g2, g3⟩, g4⟩ := bn_ok C h1; exact pe_tyname g1 g4 PyProof.Rows.Boot.«bool» g3 g2
  · obtain ⟨⟨g1, g2, g3⟩, g4⟩ := bn_ok C h1; exact pe_tyname g1 g4 PyProof.Rows.Boot.«str» g3 g2
  · obtain ⟨⟨g1, g2, g3⟩, g4⟩ := bn_ok C h1; exact pe_tyname g1 g4 PyProof.Rows.Boot.«list» g3 g2
  · obtain ⟨⟨g1, g2, g3⟩, g4⟩ := bn_ok C h1; exact pe_tyname g1 g4 PyProof.Rows.Boot.«tuple» g3 g2
  · obtain ⟨g1, g2, g3⟩ := gl_ok C h1
    exact pe_glob g1 (C.gb.cn _ (of_decide_eq_true hk)) rfl g2
theorem tyx_ok (C : CxE T p t fdt Ns ps n Wx X N sc hot) {ty : Ty} {e : Expr} (h : tyXB t sc ty e = true) : PE X e (tC (clsV T ty)) := by
  unfold tyXB at h
  split at h
  · simp only [Bool.and_eq_true, decide_eq_true_eq] at h
    obtain ⟨⟨h1, rfl⟩, h2⟩ := h
    obtain ⟨g1, g2, g3⟩ := gl_ok C h1
    exact pe_glob g1 (C.gb.xn _ h2) rfl g2
  · simp only [Bool.and_eq_true, Bool.or_eq_true, decide_eq_true_eq] at h
    obtain ⟨h1, h2⟩ := h
    obtain ⟨⟨g1, g2, g3⟩, g4⟩ := bn_ok C h1
    rcases h2 with ⟨rfl, rfl⟩ | ⟨rfl, rfl⟩ | ⟨rfl, rfl⟩
    · exact pe_tyname g1 g4 (by decide +kernel) g3 g2
    · exact pe_tyname g1 g4 (by decide +kernel) g3 g2
    · exact pe_tyname g1 g4 (by decide +kernel) g3 g2
  · cases h
theorem tys_ok (C : CxE T p t fdt Ns ps n Wx X N sc hot) : ∀ {ts : List Ty} {es : List Expr}, tysB t sc ts es = true → ts.all (tyOk2 p.ncls) = true → es.all plE = true → PA X es (tCs T ts)
  | [], [], _, _, _ => pa_nil
  | a :: as, e :: es, h, hk, hp => by
    rw [tysB, Bool.and_eq_true] at h
    rw [List.all_cons, Bool.and_eq_true] at hk hp
    exact pa_cons (ty_ok C h.1 hk.1) (tys_ok C h.2 hk.2 hp.2) (star_pl hp.1)
  | [], e :: es, h, _, _ => by simp [tysB] at h
  | a :: as, [], h, _, _ => by simp [tysB] at h
/-! ### targets -/
theorem relS_lookup {scope sc : Scope} (x : PySem.Str) : (relS scope sc).names.lookup x = (scope.names.lookup x).map fun k => if (k == .free && sc.kind == .function && sc.names.lookup x == some .cell) then .cell else k := by
  show (scope.names.map _).lookup x = _
  induction scope.names with
  | nil => rfl
  | cons q r ih =>
    obtain ⟨y, k⟩ := q
    have one : ∀ (b : Bool) (rest : List (PySem.Str × NameKind)), List.lookup x ((if b = true then (y, NameKind.cell) else (y, k)) :: rest) = if x = y then some (if b = true then NameKind.cell else k) else List.lookup x rest := by
      intro b rest
      by_cases h : x = y
      · subst h; cases b <;> simp [List.lookup]
      · have hb : (x == y) = false := by simpa using h
        cases b <;> simp [List.lookup, hb, h]
    have two : List.lookup x ((y, k) :: r) = if x = y then some k else List.lookup x r := by
      by_cases h : x = y
      · subst h; simp [List.lookup]
      · have hb : (x == y) = false := by simpa using h
        simp [List.lookup, hb, h]
    rw [List.map_cons, two]
    refine (one _ _).trans ?_
    by_cases h : x = y
    · subst h
      rw [if_pos rfl, if_pos rfl]
      rfl
    · rw [if_neg h, if_neg h]
      exact ih
theorem each_nt {e : Expr} {es : List Expr} {env : Env} (h : ∃ i t, ∃ (N : List PySem.Str) (sc : Scope), tgB N sc (.name i) e = true ∨ tgB N sc t e = true) : assignEach (e :: es) env = (false, assign e env) :: assignEach es env := by
  obtain ⟨i, tg, N, sc, h⟩ := h
  have : (∃ z q, e = .Name z q) ∨ ∃ l k q, e = .Tuple l k q := by
    rcases h with h | h
    · unfold tgB at h
      split at h
      · exact .inl ⟨_, _, rfl⟩
      · exact .inr ⟨_, _, _, rfl⟩
      · cases h
    · unfold tgB at h
      split at h
      · exact .inl ⟨_, _, rfl⟩
      · exact .inr ⟨_, _, _, rfl⟩
      · cases h
  rcases this with ⟨z, q, rfl⟩ | ⟨l, k, q, rfl⟩ <;> rfl
theorem tgsB_len : ∀ {tg : Tg} {es : List Expr}, tgsB N sc tg es = true → lenTg tg = es.length
  | .nil, [], _ => rfl
  | .cons a r, e :: es, h => by
    rw [tgsB, Bool.and_eq_true] at h
    rw [List.length_cons, ← tgsB_len h.2]; rfl
  | .name i, es, h => by cases es <;> simp [tgsB] at h
  | .nil, e :: es, h => by simp [tgsB] at h
  | .cons a r, [], h => by simp [tgsB] at h
theorem tgsB_each {env : Env} : ∀ {tg : Tg} {es : List Expr}, tgsB N sc tg es = true → (assignEach es env).length = es.length ∧ (assignEach es env).findIdx? (·.1) = none
  | .nil, [], _ => ⟨rfl, rfl⟩
  | .cons a r, e :: es, h => by
    rw [tgsB, Bool.and_eq_true] at h
    rw [each_nt ⟨0, a, N, sc, .inr h.1⟩]
    obtain ⟨h1, h2⟩ := tgsB_each (env := env) h.2
    refine ⟨by rw [List.length_cons, List.length_cons, h1], ?_⟩
    rw [List.findIdx?_cons]
    simp only [Bool.false_eq_true, if_false]
    rw [h2]; rfl
  | .name i, es, h => by cases es <;> simp [tgsB] at h
  | .nil, e :: es, h => by simp [tgsB] at h
  | .cons a r, [], h => by simp [tgsB] at h
mutual
theorem tg_ok (hK : X.K = T.K) (hN : X.N.Nodup) (hc : X.calm = true) (ok : ∀ i z, nmB N sc i z = true → NmOk X i z) : ∀ (tg : Tg) {e : Expr}, tgB N sc tg e = true → PG X e (tGt T tg)
  | .name i, e, h => by
    unfold tgB at h
    split at h
    all_goals first | contradiction | skip
    · rename_i q
      cases q
      obtain ⟨k1, k2, k3⟩ := ok _ _ h
      exact dg_name hN k1 k2 k3
  | .nil, e, h => by
    unfold tgB at h
    exact absurd h Bool.false_ne_true
  | .cons a r, e, h => by
    unfold tgB at h
    split at h
    all_goals first | contradiction | skip
    · rename_i q
      cases q
      have hl := tgsB_len h
      refine dg_tup hK hc (tgs_ok hK hN hc ok (.cons a r) h) (fun l a1 a2 e => ?_) (tgsB_each h)
      rw [asgTgs_len e, hl]
theorem tgs_ok (hK : X.K = T.K) (hN : X.N.Nodup) (hc : X.calm = true) (ok : ∀ i z, nmB N sc i z = true → NmOk X i z) : ∀ (tg : Tg) {es : List Expr}, tgsB N sc tg es = true → PGs X es (tGts T tg)
  | .nil, [], h => dgs_nil
  | .cons a r, e :: es, h => by
    rw [tgsB, Bool.and_eq_true] at h
    exact dgs_cons (tg_ok hK hN hc ok a h.1) (tgs_ok hK hN hc ok r h.2) (by rw [each_nt ⟨0, a, N, sc, .inr h.1⟩]; rfl)
  | .name i, es, h => by cases es <;> simp [tgsB] at h
  | .nil, e :: es, h => by simp [tgsB] at h
  | .cons a r, [], h => by simp [tgsB] at h
end
/-! ### a block of a comprehension -/
theorem blk_ok (C : CxE T p t fdt Ns ps n Wx X N sc hot) (hx : T.xa = none) {scope : Scope} (hk : scope.kind = .function) (s : Shared) (H : Hp) (Ca : Addr) (cl : List (PySem.Str × Addr)) (fp : List Addr) :
    CxE T p t fdt Ns ps n noW (X.blk s H scope (compEnvC scope cl Ca X.env) fp) N (relS scope sc) hot where
  K := C.K
  gb := C.gb
  tk := takes0
  esc := by
    show relabel scope X.env = _
    rw [← C.esc]
    rfl
  kind := hk
  nam := C.nam
  nd := C.nd
  xf := xfr_none hx
  xi := xir_none hx
  un := C.un
  gd := C.gd
  cold := fun h => ⟨(C.cold h).1, ⟨(C.cold h).2.1.fn, (C.cold h).2.1.bd, (C.cold h).2.1.kp, (C.cold h).2.1.ns, (C.cold h).2.1.room, (C.cold h).2.1.gd⟩, hx⟩
theorem blk_nm (C : CxE T p t fdt Ns ps n Wx X N sc hot) {scope : Scope} (s : Shared) (H : Hp) (Ca : Addr) (cl : List (PySem.Str × Addr)) (fp : List Addr) (i : Nat) (z : PySem.Str) (h : nmB N scope i z = true) : NmOk (X.blk s H scope (compEnvC scope cl Ca X.env) fp) i z := by
  unfold nmB at h
  rw [Bool.and_eq_true] at h
  have look : (X.blk s H scope (compEnvC scope cl Ca X.env) fp).env.scope.names.lookup z = (relS scope sc).names.lookup z := by
    show (relabel scope X.env).names.lookup z = _
    rw [← C.esc]; rfl
  refine ⟨by show X.N[i]? = _; rw [C.nam]; exact of_decide_eq_true h.1, ?_, ?_⟩
  · unfold L2.Loc
    rw [look, relS_lookup]
    split at h
    · rename_i e; rw [e]; exact .inl rfl
    · rename_i e; rw [e]; exact .inr rfl
    · exact absurd h.2 Bool.false_ne_true
  · rw [look, relS_lookup]
    split at h
    · rename_i e; rw [e]; exact .inr rfl
    · rename_i e; left; show (scope.names.lookup z == some .cell) = true; rw [e]; rfl
    · exact absurd h.2 Bool.false_ne_true
end
end Ev
end
section
set_option Elab.async false
set_option linter.all false
set_option maxRecDepth 100000
set_option maxHeartbeats 8000000
/-! Ev, part V: a checked expression does what its tree says. -/
namespace Ev
open PySem PySem.Spec PyProof.Rows L2
section
variable {α β : Type} {T : Tb} {Wx : WX} {X : Cx} {x y : Expr} {g : G}
theorem de_congr {Φ Ψ : List SL → List D → RE D} (h : DE T Wx X x Φ) (e : ∀ a hh, Ψ a hh = Φ a hh) : DE T Wx X x Ψ := by
  have : Ψ = Φ := by funext a hh; exact e a hh
  rw [this]; exact h
theorem dp_congr {Φ Ψ : List SL → List D → RE D} (h : DP T Wx X x Φ) (e : ∀ a hh, Ψ a hh = Φ a hh) : DP T Wx X x Ψ := by
  have : Ψ = Φ := by funext a hh; exact e a hh
  rw [this]; exact h
theorem dt_congr {Φ Ψ : List SL → List D → RE Bool} (h : DT T Wx X x Φ) (e : ∀ a hh, Ψ a hh = Φ a hh) : DT T Wx X x Ψ := by
  have : Ψ = Φ := by funext a hh; exact e a hh
  rw [this]; exact h
theorem dw_congr {Φ Ψ : List SL → List D → RE Bool} (h : DW T Wx X x Φ) (e : ∀ a hh, Ψ a hh = Φ a hh) : DW T Wx X x Ψ := by
  have : Ψ = Φ := by funext a hh; exact e a hh
  rw [this]; exact h
theorem de_bad : DE T Wx X x (fun _ _ => .bad) := ⟨fun pins s σ H Q I ⟨w, a, _, _, _, p⟩ => p.elim⟩
theorem dp_bad : DP T Wx X x (fun _ _ => .bad) := ⟨fun pins s σ H Q I ⟨w, a, _, _, _, p⟩ => p.elim⟩
theorem tOf_not (r : RE Bool) : Ev.tOf (r.bind fun b h => .ok (.bl (!b)) h) = r.bind fun b h => .ok (!b) h := by cases r <;> rfl
theorem tOf_and (r : RE Bool) (f : List D → RE D) : Ev.tOf (r.bind fun b h => if b then f h else .ok (.bl false) h) = r.bind fun b h => if b then Ev.tOf (f h) else .ok false h := by
  cases r with
  | ok b h => cases b <;> rfl
  | exc c ds h => rfl
  | bad => rfl
theorem tOf_or (r : RE Bool) (f : List D → RE D) : Ev.tOf (r.bind fun b h => if b then .ok (.bl true) h else f h) = r.bind fun b h => if b then .ok true h else Ev.tOf (f h) := by
  cases r with
  | ok b h => cases b <;> rfl
  | exc c ds h => rfl
  | bad => rfl
theorem dr_any {e : E} (h : DE T Wx X x (fun a h => evE g a e h)) (hv : ∀ i, e = .var i → DR T Wx X x (fun a h => ro a e (evE g a e h) h)) : DR T Wx X x (fun a h => ro a e (evE g a e h) h) := by
  cases e with
  | var i => exact hv i rfl
  | _ => exact dr_of h
end
def isBO : Expr → Bool
  | .BoolOp _ (_ :: _ :: _) _ => true
  | _ => false
/-- what a checked expression gives -/
structure OkE (T : Tb) (g : G) (Wx : WX) (X : Cx) (e : E) (x : Expr) : Prop where
  de : DE T Wx X x (fun a h => evE g a e h)
  dr : DR T Wx X x (fun a h => ro a e (evE g a e h) h)
  dp : fresh e = true → DP T Wx X x (fun a h => evE g a e h)
  dt : testable e x = true → DT T Wx X x (fun a h => Ev.tOf (evE g a e h))
  dw : testable e x = true → isBO x = true → DW T Wx X x (fun a h => Ev.tOf (evE g a e h))
def plainT : E → Bool
  | .var _ => false | .not _ => false | .and _ _ => false | .or _ _ => false | .cmp _ _ _ => false | .chain _ _ _ _ _ => false
  | _ => true
theorem testable_ts {e : E} {x : Expr} (he : plainT e = true ∨ ∃ i, e = .var i) (h : testable e x = true) : tsE x = true := by
  rcases he with he | ⟨i, rfl⟩
  · cases e <;> first | (exact absurd he Bool.false_ne_true) | (unfold testable at h; exact h)
  · unfold testable at h; exact h
theorem bo_ts {x : Expr} (h : tsE x = true) (b : isBO x = true) : False := by
  cases x <;> first | (exact absurd b Bool.false_ne_true) | (exact absurd h Bool.false_ne_true)
section
variable {T : Tb} {Wx : WX} {X : Cx} {g : G} {e : E} {x : Expr}
theorem OkE.mk1 (he : plainT e = true) (h : DE T Wx X x (fun a h => evE g a e h)) (hf : fresh e = false) : OkE T g Wx X e x :=
  ⟨h, dr_any h (fun i e2 => (by subst e2; exact absurd he Bool.false_ne_true)), fun z => (by rw [hf] at z; cases z), fun ht => dt_of h (testable_ts (.inl he) ht), fun ht b => (bo_ts (testable_ts (.inl he) ht) b).elim⟩
theorem OkE.mk2 (he : plainT e = true) (h : DP T Wx X x (fun a h => evE g a e h)) : OkE T g Wx X e x :=
  have d := de_of_dp h
  ⟨d, dr_any d (fun i e2 => (by subst e2; exact absurd he Bool.false_ne_true)), fun _ => h, fun ht => dt_of d (testable_ts (.inl he) ht), fun ht b => (bo_ts (testable_ts (.inl he) ht) b).elim⟩
theorem OkE.mk3 (nv : ∀ i, e ≠ .var i) (hf : fresh e = false) (d : DE T Wx X x (fun a h => evE g a e h)) (ht : testable e x = true → DT T Wx X x (fun a h => Ev.tOf (evE g a e h)))
    (hw : testable e x = true → isBO x = true → DW T Wx X x (fun a h => Ev.tOf (evE g a e h))) : OkE T g Wx X e x :=
  ⟨d, dr_any d (fun i e2 => absurd e2 (nv i)), fun z => (by rw [hf] at z; cases z), ht, hw⟩
end
section
variable {T : Tb} {p : P} {t : Tt} {fdt : Nat → FuncData} {Ns ps : Nat → List PySem.Str} {n : Nat} {Wx : WX} {X : Cx} {N : List PySem.Str} {sc : Scope} {hot : Bool}
theorem bi_ok (C : CxE T p t fdt Ns ps n Wx X N sc hot) {b : Bi} {z : PySem.Str} (hk : biKnown b = true) (hc : (!hot || !biCold b) = true) (hz : bnB t sc z = true) (hn : z = biNm b) :
    ∃ f, BiR T Wx X f b ∧ ∀ {e : Expr} {es : List Expr} {p1 pos : Pos} {r : List V → Hp → VK → Prop} {t : TA}, CallR X f r → PA X (e :: es) t → plE e = true → es.all plE = true → PE X (.Call (.Name z p1) (e :: es) [] pos) (tCB r t) := by
  obtain ⟨⟨g1, g2, g3⟩, g4⟩ := bn_ok C hz
  have cold : biCold b = true → X.calm = true := fun h => by
    rw [h] at hc
    exact (C.cold (by simpa using hc)).1
  subst hn
  cases b <;> first | (exact absurd hk Bool.false_ne_true) | skip
  · exact ⟨_, bi_len C.K, fun hr ha hp hps => pe_callB hr g1 g4 PyProof.Rows.Boot.«len» ha g3 g2 (star_pl hp) (anyStar_pl hps)⟩
  · exact ⟨_, bi_tuple C.K, fun hr ha hp hps => pe_callTy hr g1 g4 PyProof.Rows.Boot.«tuple» ha g3 g2 (star_pl hp) (anyStar_pl hps)⟩
  · exact ⟨_, bi_list C.K, fun hr ha hp hps => pe_callTy hr g1 g4 PyProof.Rows.Boot.«list» ha g3 g2 (star_pl hp) (anyStar_pl hps)⟩
  · exact ⟨_, bi_max1 C.K (cold rfl), fun hr ha hp hps => pe_callB hr g1 g4 PyProof.Rows.Boot.«max» ha g3 g2 (star_pl hp) (anyStar_pl hps)⟩
  · exact ⟨_, bi_min1 C.K (cold rfl), fun hr ha hp hps => pe_callB hr g1 g4 PyProof.Rows.Boot.«min» ha g3 g2 (star_pl hp) (anyStar_pl hps)⟩
  · exact ⟨_, bi_max2 (cold rfl), fun hr ha hp hps => pe_callB hr g1 g4 PyProof.Rows.Boot.«max» ha g3 g2 (star_pl hp) (anyStar_pl hps)⟩
  · exact ⟨_, bi_min2 (cold rfl), fun hr ha hp hps => pe_callB hr g1 g4 PyProof.Rows.Boot.«min» ha g3 g2 (star_pl hp) (anyStar_pl hps)⟩
  · exact ⟨_, bi_abs, fun hr ha hp hps => pe_callB hr g1 g4 PyProof.Rows.Boot.«abs» ha g3 g2 (star_pl hp) (anyStar_pl hps)⟩
  · exact ⟨_, bi_int, fun hr ha hp hps => pe_callTy hr g1 g4 PyProof.Rows.Boot.«int» ha g3 g2 (star_pl hp) (anyStar_pl hps)⟩
  · exact ⟨_, bi_all C.K (cold rfl), fun hr ha hp hps => pe_callB hr g1 g4 PyProof.Rows.Boot.«all» ha g3 g2 (star_pl hp) (anyStar_pl hps)⟩
  · exact ⟨_, bi_any C.K (cold rfl), fun hr ha hp hps => pe_callB hr g1 g4 PyProof.Rows.Boot.«any» ha g3 g2 (star_pl hp) (anyStar_pl hps)⟩
  · exact ⟨_, bi_repr C.K C.gd C.un, fun hr ha hp hps => pe_callB hr g1 g4 PyProof.Rows.Boot.«repr» ha g3 g2 (star_pl hp) (anyStar_pl hps)⟩
theorem dt_chain {r1 r2 : R2} {o1 o2 : CmpOp} {f1 f2 : D → D → Option Bool} {x y z : Expr} {pos : Pos} {Φ Ψ Θ : List SL → List D → RE D} (h1 : OpR X (compareOp o1) r1) (h2 : OpR X (compareOp o2) r2) (hm : lastMarks [o1, o2] [y, z] = false)
    (k1 : ∀ (w : Wo) (v u : V) (d e : D) (b : Bool) (Q : VK), RepH T w → Vw T w v d → Vw T w u e → f1 d e = some b → Q (.bl b) w.H → r1 v u w.H Q)
    (k2 : ∀ (w : Wo) (v u : V) (d e : D) (b : Bool) (Q : VK), RepH T w → Vw T w v d → Vw T w u e → f2 d e = some b → Q (.bl b) w.H → r2 v u w.H Q)
    (hx : DE T Wx X x Φ) (hy : DE T Wx X y Ψ) (hz : DE T Wx X z Θ) :
    DT T Wx X (.Compare x [o1, o2] [y, z] pos) (fun a hh => Ev.tOf ((Φ a hh).bind fun d h1 => (Ψ a h1).bind fun e h2 => (RE.lift (f1 d e) h2).bind fun b h3 => if b then (Θ a h3).bind fun f h4 => RE.lift ((f2 e f).map .bl) h4 else .ok (.bl false) h3)) := by
  refine pt_imp (pt_chain h1 h2 hx hy hz hm) fun σ H Q ⟨w, a, e, RH, RS, p⟩ => ⟨w, a, e, RH, RS, ?_⟩
  refine ((Post.tOf p).bind (Rel := rF T a σ)).imp fun v H1 ⟨w1, d, le, eH, RH1, RS1, g1, q⟩ => ⟨w1, a, eH, RH1, RS1, ?_⟩
  refine (q.bind (Rel := rF T a σ)).imp fun u H2 ⟨w2, s, le2, eH2, RH2, RS2, g2, q2⟩ => ?_
  rw [← eH2]
  dsimp only at q2
  cases hb : f1 d s with
  | none => rw [hb] at q2; exact q2.elim
  | some b =>
    rw [hb] at q2
    refine k1 w2 v u d s b _ RH2 (.inl (Fz.mono le2.f le2.m g1)) (.inl g2) hb ⟨b, rfl, ?_⟩
    cases b with
    | false => exact q2 _ w2 (.refl _) rfl RH2 RS2 (.bl _)
    | true =>
      have q2 : Post T Wx a σ w2 (rF T a σ) _ ((Θ a w2.hh).bind fun f h4 => RE.lift ((f2 s f).map .bl) h4) := q2
      refine ⟨w2, a, rfl, RH2, RS2, ?_⟩
      refine (q2.bind (Rel := rF T a σ)).imp fun y3 H3 ⟨w3, s3, le3, eH3, RH3, RS3, g3, q3⟩ => ?_
      rw [← eH3]
      obtain ⟨z3, hz3, q3⟩ := Post.lift q3
      obtain ⟨b3, h3, rfl⟩ := Option.map_eq_some_iff.mp hz3
      exact k2 w3 u y3 s s3 b3 _ RH3 (.inl (Fz.mono le3.f le3.m g2)) (.inl g3) h3 (q3 _ w3 (.refl _) rfl RH3 RS3 (.bl _))
theorem marks_ch {o1 o2 : Cop} (h : chOp o2 = true) (y z : Expr) : lastMarks [opCP o1, opCP o2] [y, z] = false := by
  cases o2 <;> first | (exact absurd h Bool.false_ne_true) | (simp only [lastMarks, opCP]; exact nomark z (by decide) (by decide))
end
end Ev
end
section
set_option Elab.async false
set_option linter.all false
set_option maxRecDepth 100000
set_option maxHeartbeats 16000000
/-! Ev, part W: a checked expression does what its tree says, by the tree. -/
namespace Ev
open PySem PySem.Spec PyProof.Rows L2
section
variable {p : P} {t : Tt} {fdt : Nat → FuncData} {Ns ps : Nat → List PySem.Str} {n : Nat} {N : List PySem.Str} {hot : Bool}
theorem noBO {x : Expr} {op : BoolOp} (hx : ∀ l q, x ≠ .BoolOp op l q) : True := trivial
theorem bi_bind {β γ : Type} (r : RE Int) (k : Int → List D → RE β) (f : β → List D → RE γ) : (r.bind k).bind f = r.bind fun i h => (k i h).bind f := by cases r <;> rfl
/-- a function as an object -/
theorem de_fnv {T : Tb} {Wx : WX} {X : Cx} {f : Nat} {z : PySem.Str} {p1 : Pos} (hg : Gl X z) (hm : X.mg z = some (.ref (T.fnA f))) (hd : (z == ("__debug__" : PySem.Str)) = false) : DE T Wx X (.Name z p1) (fun _ hh => .ok (.fn f) hh) := by
  refine pe_imp (pe_glob (v := .ref (T.fnA f)) hg hm rfl hd) fun σ H Q ⟨w, a, e, RH, RS, q⟩ => ?_
  show Q (.ref (T.fnA f)) H
  rw [← e]
  exact q _ w (.refl _) rfl RH RS (.fn f)
theorem args_ok {es : List Expr} (h : argsB es = true) : es.all plE = true ∧ es.length < 19 := by
  unfold argsB at h
  rw [Bool.and_eq_true, decide_eq_true_eq] at h
  exact h
mutual
theorem chE_ok : ∀ (e : E) {T : Tb} {Wx : WX} {X : Cx} {sc : Scope} {x : Expr}, CxE T p t fdt Ns ps n Wx X N sc hot → chE t p N hot sc e x = true → OkE T (p.g n) Wx X e x
  | .var i, T, Wx, X, sc, x, C, h => by
    unfold chE at h
    split at h
    all_goals first | contradiction | skip
    rename_i q
    cases q
    have r := rd_ok C h
    exact ⟨de_var r.at_ r.vis r.d1 r.d2 (p.g n), dr_var r.at_ r.vis r.d1 r.d2 RE.bad, fun z => (nomatch z), fun ht => dt_of (de_var r.at_ r.vis r.d1 r.d2 (p.g n)) rfl, fun ht b => nomatch b⟩
  | .int i, T, Wx, X, sc, x, C, h => by
    unfold chE at h
    split at h
    all_goals first | contradiction | skip
    rename_i q
    cases q
    cases of_decide_eq_true h
    exact .mk1 rfl (de_con pe_int (fun _ _ _ q => q) fun _ _ => .int _) rfl
  | .str s, T, Wx, X, sc, x, C, h => by
    unfold chE at h
    split at h
    all_goals first | contradiction | skip
    rename_i q
    cases q
    cases of_decide_eq_true h
    exact .mk1 rfl (de_con pe_str (fun _ _ _ q => q) fun _ _ => .str _) rfl
  | .bl b, T, Wx, X, sc, x, C, h => by
    unfold chE at h
    split at h
    all_goals first | contradiction | skip
    rename_i q
    cases q
    cases eq_of_beq h
    exact .mk1 rfl (de_con pe_bl (fun _ _ _ q => q) fun _ _ => .bl _) rfl
  | .non, T, Wx, X, sc, x, C, h => by
    unfold chE at h
    split at h
    all_goals first | contradiction | skip
    exact .mk1 rfl (de_con pe_non (fun _ _ _ q => q) fun _ _ => .non) rfl
  | .glob k, T, Wx, X, sc, x, C, h => by
    unfold chE at h
    first | exact absurd h Bool.false_ne_true | (split at h <;> contradiction)
  | .fnv f, T, Wx, X, sc, x, C, h => by
    unfold chE at h
    split at h
    all_goals first | contradiction | skip
    rename_i q
    cases q
    simp only [Bool.and_eq_true, decide_eq_true_eq] at h
    obtain ⟨⟨⟨h1, h2⟩, h3⟩, h4⟩ := h
    obtain ⟨g1, g2, _⟩ := gl_ok C h1
    subst h2
    exact .mk1 rfl (de_fnv g1 (C.gb.fn f h3 h4) g2) rfl
  | .bin op a b, T, Wx, X, sc, x, C, h => by
    unfold chE at h
    split at h
    all_goals first | contradiction | skip
    rename_i q
    cases q
    simp only [Bool.and_eq_true, decide_eq_true_eq] at h
    obtain ⟨⟨rfl, h2⟩, h3⟩ := h
    exact .mk2 rfl (de_bin C.K op (chE_ok a C h2).dr (chE_ok b C h3).dr)
  | .cmp op a b, T, Wx, X, sc, x, C, h => by
    unfold chE at h
    split at h
    all_goals first | contradiction | skip
    rename_i q
    cases q
    simp only [Bool.and_eq_true, decide_eq_true_eq] at h
    obtain ⟨⟨⟨rfl, h1⟩, h2⟩, h3⟩ := h
    obtain ⟨r, ho, hr⟩ := cmpR (T := T) C.K C.un op
    exact .mk3 (fun _ z => nomatch z) rfl (de_cmp C.K C.un op (chE_ok a C h2).dr (chE_ok b C h3).dr (mark_pl _ h1)) (fun _ => dt_cmp ho (chE_ok a C h2).dr (chE_ok b C h3).dr (mark_pl _ h1) hr) fun _ b => nomatch b
  | .chain o1 o2 a b c, T, Wx, X, sc, x, C, h => by
    unfold chE at h
    split at h
    all_goals first | contradiction | skip
    rename_i q
    cases q
    simp only [Bool.and_eq_true, decide_eq_true_eq] at h
    obtain ⟨⟨⟨⟨⟨⟨rfl, rfl⟩, c1⟩, c2⟩, h1⟩, h2⟩, h3⟩ := h
    obtain ⟨r, ho, hr⟩ := cmpR (T := T) C.K C.un o1
    obtain ⟨r', ho', hr'⟩ := cmpR (T := T) C.K C.un o2
    exact .mk3 (fun _ z => nomatch z) rfl (de_chain ho ho' hr hr' (chE_ok a C h1).de (chE_ok b C h2).de (chE_ok c C h3).de (fun k1 k2 k3 => pe_chain ho ho' k1 k2 k3 (marks_ch c2 _ _))) (fun _ => dt_chain ho ho' (marks_ch c2 _ _) hr hr' (chE_ok a C h1).de (chE_ok b C h2).de (chE_ok c C h3).de) fun _ b => nomatch b
  | .and a b, T, Wx, X, sc, x, C, h => by
    unfold chE at h
    split at h
    all_goals first | contradiction | skip
    rename_i x1 x2 xr xq q
    cases q
    rw [Bool.and_eq_true] at h
    have A := chE_ok a C h.1
    cases xr with
    | nil =>
      have B := chE_ok b C h.2
      have w : testable (.and a b) (.BoolOp .And [x1, x2] xq) = true → DW T Wx X (.BoolOp .And [x1, x2] xq) (fun aa hh => Ev.tOf (evE (p.g n) aa (.and a b) hh)) := fun ht => by
        unfold testable at ht
        rw [Bool.and_eq_true] at ht
        exact dw_congr (dw_and (A.dt ht.1) (dw_and1 (B.dt ht.2))) fun aa hh => tOf_and _ _
      exact .mk3 (fun _ z => nomatch z) rfl (de_and A.de (de_one B.de)) (fun ht => (w ht).pt) fun ht _ => w ht
    | cons x3 xr =>
      have B := chE_ok b C h.2
      have w : testable (.and a b) (.BoolOp .And (x1 :: x2 :: x3 :: xr) xq) = true → DW T Wx X (.BoolOp .And (x1 :: x2 :: x3 :: xr) xq) (fun aa hh => Ev.tOf (evE (p.g n) aa (.and a b) hh)) := fun ht => by
        unfold testable at ht
        rw [Bool.and_eq_true] at ht
        exact dw_congr (dw_and (A.dt ht.1) (B.dw ht.2 rfl)) fun aa hh => tOf_and _ _
      exact .mk3 (fun _ z => nomatch z) rfl (de_and A.de B.de) (fun ht => (w ht).pt) fun ht _ => w ht
  | .or a b, T, Wx, X, sc, x, C, h => by
    unfold chE at h
    split at h
    all_goals first | contradiction | skip
    rename_i x1 x2 xr xq q
    cases q
    rw [Bool.and_eq_true] at h
    have A := chE_ok a C h.1
    cases xr with
    | nil =>
      have B := chE_ok b C h.2
      have w : testable (.or a b) (.BoolOp .Or [x1, x2] xq) = true → DW T Wx X (.BoolOp .Or [x1, x2] xq) (fun aa hh => Ev.tOf (evE (p.g n) aa (.or a b) hh)) := fun ht => by
        unfold testable at ht
        rw [Bool.and_eq_true] at ht
        exact dw_congr (dw_or (A.dt ht.1) (dw_or1 (B.dt ht.2))) fun aa hh => tOf_or _ _
      exact .mk3 (fun _ z => nomatch z) rfl (de_or A.de (de_one B.de)) (fun ht => (w ht).pt) fun ht _ => w ht
    | cons x3 xr =>
      have B := chE_ok b C h.2
      have w : testable (.or a b) (.BoolOp .Or (x1 :: x2 :: x3 :: xr) xq) = true → DW T Wx X (.BoolOp .Or (x1 :: x2 :: x3 :: xr) xq) (fun aa hh => Ev.tOf (evE (p.g n) aa (.or a b) hh)) := fun ht => by
        unfold testable at ht
        rw [Bool.and_eq_true] at ht
        exact dw_congr (dw_or (A.dt ht.1) (B.dw ht.2 rfl)) fun aa hh => tOf_or _ _
      exact .mk3 (fun _ z => nomatch z) rfl (de_or A.de B.de) (fun ht => (w ht).pt) fun ht _ => w ht
  | .not a, T, Wx, X, sc, x, C, h => by
    unfold chE at h
    split at h
    all_goals first | contradiction | skip
    rename_i q
    cases q
    have A := chE_ok a C h
    exact .mk3 (fun _ z => nomatch z) rfl (de_not A.de) (fun ht => (by
      unfold testable at ht
      exact dt_congr (dt_not (A.dt ht)) fun aa hh => tOf_not _)) fun _ b => nomatch b
  | .neg a, T, Wx, X, sc, x, C, h => by
    unfold chE at h
    split at h
    all_goals first | contradiction | skip
    rename_i q
    cases q
    exact .mk1 rfl (de_neg (chE_ok a C h).de) rfl
  | .ite c a b, T, Wx, X, sc, x, C, h => by
    unfold chE at h
    split at h
    all_goals first | contradiction | skip
    rename_i q
    cases q
    simp only [Bool.and_eq_true] at h
    obtain ⟨⟨⟨h0, h1⟩, h2⟩, h3⟩ := h
    exact .mk1 rfl (de_ite ((chE_ok c C h1).dt h0) (chE_ok a C h2).de (chE_ok b C h3).de) rfl
  | .tup es, T, Wx, X, sc, x, C, h => by
    unfold chE at h
    split at h
    all_goals first | contradiction | skip
    rename_i q
    cases q
    rw [Bool.and_eq_true] at h
    exact .mk1 rfl (de_of_dp (de_tup (chEs_ok es C h.2 h.1).1)) rfl
  | .lst es, T, Wx, X, sc, x, C, h => by
    unfold chE at h
    split at h
    all_goals first | contradiction | skip
    rename_i q
    cases q
    rw [Bool.and_eq_true] at h
    exact .mk2 rfl (de_lst (chEs_ok es C h.2 h.1).1)
  | .sl a lo hi, T, Wx, X, sc, x, C, h => by
    unfold chE at h
    split at h
    all_goals first | contradiction | skip
    rename_i q
    cases q
    simp only [Bool.and_eq_true] at h
    obtain ⟨⟨h1, h2⟩, h3⟩ := h
    exact .mk2 rfl (de_sl C.K (chE_ok a C h1).dr (chEo_ok lo C h2) (chEo_ok hi C h3))
  | .rev a, T, Wx, X, sc, x, C, h => by
    unfold chE at h
    split at h
    all_goals first | contradiction | skip
    rename_i q
    cases q
    simp only [Bool.and_eq_true, decide_eq_true_eq] at h
    obtain ⟨rfl, h1⟩ := h
    exact .mk1 rfl (de_of_dp (de_rev C.K (chE_ok a C h1).dr)) rfl
  | .ix a i, T, Wx, X, sc, x, C, h => by
    unfold chE at h
    split at h
    all_goals first | contradiction | skip
    rename_i q
    cases q
    simp only [Bool.and_eq_true] at h
    obtain ⟨⟨h0, h1⟩, h2⟩ := h
    exact .mk1 rfl (de_ix C.K (chE_ok a C h1).dr (chE_ok i C h2).de h0) rfl
  | .fld a f, T, Wx, X, sc, x, C, h => by
    unfold chE at h
    split at h
    all_goals first | contradiction | skip
    rename_i q
    cases q
    simp only [Bool.and_eq_true, decide_eq_true_eq] at h
    obtain ⟨⟨rfl, h0⟩, h1⟩ := h
    exact .mk1 rfl (de_fld (g := p.g n) C.K ⟨fun c j hj => C.gb.fl f c j hj⟩ (chE_ok a C h1).dr h0) rfl
  | .xfld i f, T, Wx, X, sc, x, C, h => by
    unfold chE at h
    split at h
    all_goals first | contradiction | skip
    rename_i q
    cases q
    simp only [Bool.and_eq_true, decide_eq_true_eq] at h
    obtain ⟨rfl, h1⟩ := h
    exact .mk1 rfl (C.xf i f _ _ _ _ (rd_ok C h1) ⟨fun c j hj => C.gb.xf f c j hj⟩) rfl
  | .isx i ty, T, Wx, X, sc, x, C, h => by
    unfold chE at h
    split at h
    all_goals first | contradiction | skip
    rename_i q
    cases q
    simp only [Bool.and_eq_true, decide_eq_true_eq] at h
    obtain ⟨⟨⟨⟨⟨h0, h1⟩, rfl⟩, h2⟩, h3⟩, h4⟩ := h
    obtain ⟨⟨g1, g2, g3⟩, g4⟩ := bn_ok C h1
    exact .mk1 rfl (C.xi i ty _ _ _ _ _ g1 g4 (rd_ok C h2) (tyx_ok C h4) h3 ⟨fun c b hb => C.gb.gx.xi h0 ty c b hb⟩) rfl
  | .xkw c es pm f, T, Wx, X, sc, x, C, h => by
    unfold chE at h
    split at h
    all_goals first | contradiction | skip
    rename_i q
    cases q
    simp only [Bool.and_eq_true, decide_eq_true_eq, Bool.not_eq_true'] at h
    obtain ⟨⟨⟨⟨⟨⟨⟨⟨⟨hh, rfl⟩, h1⟩, rfl⟩, h2⟩, h3⟩, h4⟩, h5⟩, h6⟩, h7⟩ := h
    obtain ⟨g1, g2, _⟩ := gl_ok C h1
    obtain ⟨hc, F, _⟩ := C.cold hh
    obtain ⟨x1, x2⟩ := C.gb.gx.xk c _ pm h6
    exact .mk1 rfl (de_xkw C.K x2 ⟨fun c j hj => C.gb.xf f c j hj⟩ (fun a hp l h' e => by rw [evEs_len e]; exact h5) g1 (C.gb.xn c x1) (C.gb.bn _ (by simpa using h2)) F.room g2 h4 (fun z => by rw [z] at h3; cases h3) (chKs_ok es C h7)) rfl
  | .call f es, T, Wx, X, sc, x, C, h => by
    unfold chE at h
    split at h
    all_goals first | contradiction | skip
    rename_i es' q2 q
    cases q
    simp only [Bool.and_eq_true, decide_eq_true_eq, Bool.not_eq_true'] at h
    obtain ⟨⟨⟨⟨⟨⟨hh, hgl⟩, h1⟩, rfl⟩, hi⟩, h3⟩, h4⟩ := h
    obtain ⟨g1, g2, _⟩ := gl_ok C h1
    obtain ⟨hc, F, _⟩ := C.cold hh
    obtain ⟨b, hb, hbi⟩ : ∃ b, p.fns[f]? = some b ∧ b.init = false := by
      cases hb : p.fns[f]? with
      | none => rw [hb] at hi; exact absurd hi Bool.false_ne_true
      | some b => rw [hb] at hi; exact ⟨b, rfl, by simpa using hi⟩
    have hf := (List.getElem?_eq_some_iff.mp hb).1
    have hm : ModOk p Ns f false := fun b' e => ⟨(C.gb.md f b' e).1, (C.gb.md f b' e).2.1, by rw [hb] at e; cases e; exact hbi, fun z => nomatch z⟩
    obtain ⟨a1, a2⟩ := args_ok h3
    cases es' with
    | nil =>
      cases es with
      | cons e r => unfold chEs at h4; exact absurd h4 Bool.false_ne_true
      | nil => exact .mk1 rfl (de_of_dc (dc_call0 F hf hm C.tk g1 (C.gb.fn f hf hgl) g2)) rfl
    | cons y ys =>
      rw [List.all_cons, Bool.and_eq_true] at a1
      exact .mk1 rfl (de_of_dc (dc_call F hf hm C.tk g1 (C.gb.fn f hf hgl) g2 (chEs_ok es C h4 (by rw [List.all_cons, a1.1]; exact a1.2)).2 a1.1 a1.2)) rfl
  | .callv i es, T, Wx, X, sc, x, C, h => by
    unfold chE at h
    first | exact absurd h Bool.false_ne_true | (split at h <;> contradiction)
  | .meth o m es, T, Wx, X, sc, x, C, h => by
    unfold chE at h
    split at h
    all_goals first | contradiction | skip
    rename_i es' q2 q
    cases q
    simp only [Bool.and_eq_true, decide_eq_true_eq, Bool.not_eq_true'] at h
    obtain ⟨⟨⟨⟨⟨⟨hh, rfl⟩, h1⟩, h2⟩, h3⟩, h4⟩, h5⟩ := h
    obtain ⟨hc, F, _⟩ := C.cold hh
    have hM : MethOk T (p.g n) X m (t.mth m) := ⟨fun c f hf => (C.gb.me m c f hf).1⟩
    have hfs : ∀ c f, (p.g n).meth c m = some f → f < p.fns.length ∧ ModOk p Ns f false := fun c f hf =>
      ⟨(C.gb.me m c f hf).2.1, fun b e => ⟨(C.gb.md f b e).1, (C.gb.md f b e).2.1, (C.gb.me m c f hf).2.2 b e, fun z => nomatch z⟩⟩
    obtain ⟨a1, a2⟩ := args_ok h3
    cases es' with
    | nil =>
      cases es with
      | cons e r => unfold chEs at h5; exact absurd h5 Bool.false_ne_true
      | nil => exact .mk1 rfl (de_of_dc (dc_meth0 C.K F hM hfs C.tk (chE_ok o C h4).dr h1 h2)) rfl
    | cons y ys =>
      rw [List.all_cons, Bool.and_eq_true] at a1
      rw [List.length_cons] at a2
      exact .mk1 rfl (de_of_dc (dc_meth C.K F hM hfs C.tk (chE_ok o C h4).dr h1 (chEs_ok es C h5 (by rw [List.all_cons, a1.1]; exact a1.2)).2 a1.1 a1.2 (by omega) h2)) rfl
  | .mk c es, T, Wx, X, sc, x, C, h => by
    unfold chE at h
    split at h
    all_goals first | contradiction | skip
    rename_i es' q2 q
    cases q
    simp only [Bool.and_eq_true, decide_eq_true_eq, Bool.not_eq_true'] at h
    obtain ⟨⟨⟨⟨hh, h1⟩, rfl⟩, h3⟩, h4⟩ := h
    obtain ⟨g1, g2, _⟩ := gl_ok C h1
    obtain ⟨hc, F, _⟩ := C.cold hh
    refine .mk2 rfl ?_
    cases hi : p.init c with
    | none => exact dp_congr dp_bad fun aa hh => by simp only [evE]; show (match p.init c with | some f => _ | _ => _) = _; rw [hi]
    | some f =>
      obtain ⟨m1, m2, m3, m4⟩ := C.gb.cl c f hi
      have hm : ModOk p Ns f true := fun b e => ⟨(C.gb.md f b e).1, (C.gb.md f b e).2.1, m4 b e, fun _ => (C.gb.md f b e).2.2 (m4 b e)⟩
      rw [← C.K] at m2
      obtain ⟨a1, a2⟩ := args_ok h3
      have ev : ∀ aa hh, evE (p.g n) aa (.mk c es) hh = (evRs (p.g n) aa es hh).bind (makeG (p.g n) aa c f) := fun aa hh => by
        simp only [evE]; show (match p.init c with | some f => _ | _ => _) = _; rw [hi]
      cases es' with
      | nil =>
        cases es with
        | cons e r => unfold chEs at h4; exact absurd h4 Bool.false_ne_true
        | nil => exact dp_congr (dp_mk0 C.K F m3 hm C.tk m2 g1 m1 g2) ev
      | cons y ys =>
        rw [List.all_cons, Bool.and_eq_true] at a1
        exact dp_congr (dp_mk C.K F m3 hm C.tk m2 g1 m1 g2 (chEs_ok es C h4 (by rw [List.all_cons, a1.1]; exact a1.2)).2 a1.1 a1.2) ev
  | .bi b es, T, Wx, X, sc, x, C, h => by
    unfold chE at h
    split at h
    all_goals first | contradiction | skip
    rename_i es' q2 q
    cases q
    simp only [Bool.and_eq_true, decide_eq_true_eq] at h
    obtain ⟨⟨⟨⟨⟨⟨h1, h2⟩, h3⟩, h4⟩, h5⟩, h6⟩, h7⟩ := h
    obtain ⟨a1, a2⟩ := args_ok h5
    obtain ⟨f, hb, hp⟩ := bi_ok C h1 h2 h3 h4
    cases es' with
    | nil => exact absurd h6 (by simp)
    | cons y ys =>
      have a1' := a1
      rw [List.all_cons, Bool.and_eq_true] at a1'
      exact .mk2 rfl (de_biG hb (fun hr ha => hp hr ha a1'.1 a1'.2) (chEs_ok es C h7 a1).2)
  | .bm m a es, T, Wx, X, sc, x, C, h => by
    unfold chE at h
    first | exact absurd h Bool.false_ne_true | (split at h <;> contradiction)
  | .isi a ts, T, Wx, X, sc, x, C, h => by
    unfold chE at h
    split at h
    all_goals first | contradiction | skip
    · rename_i q
      cases q
      simp only [Bool.and_eq_true, decide_eq_true_eq] at h
      obtain ⟨⟨⟨⟨⟨⟨h1, rfl⟩, h2⟩, h3⟩, h4⟩, h5⟩, h6⟩ := h
      obtain ⟨⟨g1, g2, g3⟩, g4⟩ := bn_ok C h1
      exact .mk1 rfl (de_isi1 C.K C.gb.is g1 g4 (chE_ok a C h4).dr h2 (ty_ok C h5 h6) h3) rfl
    · rename_i q
      cases q
      simp only [Bool.and_eq_true, decide_eq_true_eq] at h
      obtain ⟨⟨⟨⟨⟨⟨⟨h1, rfl⟩, h2⟩, h3⟩, h4⟩, h5⟩, h6⟩, h7⟩ := h
      obtain ⟨⟨g1, g2, g3⟩, g4⟩ := bn_ok C h1
      exact .mk1 rfl (de_isiT C.K C.gb.is g1 g4 (chE_ok a C h3).dr h2 (tys_ok C h5 h7 h4) h6) rfl
  | .comp tg own it c e, T, Wx, X, sc, x, C, h => by
    unfold chE at h
    split at h
    all_goals first | contradiction | skip
    rename_i tg' iter ifs scope q2 q
    cases q
    simp only [Bool.and_eq_true, Bool.not_eq_true'] at h
    obtain ⟨⟨⟨⟨⟨⟨⟨hh, h1⟩, h2⟩, h3⟩, h4⟩, h5⟩, h6⟩, h7⟩ := h
    obtain ⟨hc, F, hx⟩ := C.cold hh
    have bo := blkOk_by h1
    have hN : X.N.Nodup := by rw [C.nam]; exact C.nd
    refine .mk2 rfl (de_comp (ownN := ownN N own) (by unfold ownN; rw [List.map_map]; exact List.map_id _) hc hN (chIt_ok it true C h5) (by rw [C.nam, C.esc]; exact bo) (fun j hj => ?_) (fun s H Ca cl fp => tg_ok (X := X.blk s H scope (compEnvC scope cl Ca X.env) fp) C.K hN hc (blk_nm C s H Ca cl fp) tg h3)
      (fun s H Ca cl fp => chIf_ok c (blk_ok C hx bo.kind s H Ca cl fp) h6) (fun s H Ca cl fp => (chE_ok e (blk_ok C hx bo.kind s H Ca cl fp) h7).de) (fold_pl h4))
    have := List.all_eq_true.mp h2 j hj
    simpa using this
  | .dic ks vs, T, Wx, X, sc, x, C, h => by
    unfold chE at h
    first | exact absurd h Bool.false_ne_true | (split at h <;> contradiction)
  | .fstr es, T, Wx, X, sc, x, C, h => by
    unfold chE at h
    first | exact absurd h Bool.false_ne_true | (split at h <;> contradiction)
  | .rngl tp it, T, Wx, X, sc, x, C, h => by
    unfold chE at h
    split at h
    all_goals first | contradiction | skip
    rename_i q
    cases q
    simp only [Bool.and_eq_true, decide_eq_true_eq, Bool.not_eq_true'] at h
    obtain ⟨⟨⟨⟨hh, h1⟩, h2⟩, h3⟩, h4⟩ := h
    obtain ⟨⟨g1, g2, g3⟩, g4⟩ := bn_ok C h1
    obtain ⟨hc, F, _⟩ := C.cold hh
    obtain ⟨Φ2, k1, k2⟩ := chRg_ok it C h4
    cases tp with
    | true =>
      subst h2
      exact .mk1 rfl (de_of_dp (dp_congr (dp_rngT hc g1 g4 k1 h3) fun aa hh => k2 true aa hh)) rfl
    | false =>
      subst h2
      exact .mk2 rfl (dp_congr (dp_rngL hc g1 g4 k1 h3) fun aa hh => k2 false aa hh)
theorem chEs_ok : ∀ (es : Es) {T : Tb} {Wx : WX} {X : Cx} {sc : Scope} {xs : List Expr}, CxE T p t fdt Ns ps n Wx X N sc hot → chEs t p N hot sc es xs = true → xs.all plE = true → DA T Wx X xs (fun a h => evEs (p.g n) a es h) ∧ DAR T Wx X xs (fun a h => evRs (p.g n) a es h)
  | .nil, T, Wx, X, sc, [], C, h, hp => ⟨da_nil, dar_nil⟩
  | .cons e r, T, Wx, X, sc, x :: xs, C, h, hp => by
    unfold chEs at h
    rw [Bool.and_eq_true] at h
    rw [List.all_cons, Bool.and_eq_true] at hp
    have A := chE_ok e C h.1
    have B := chEs_ok r C h.2 hp.2
    exact ⟨da_cons A.de B.1 hp.1, dar_cons A.dr B.2 hp.1⟩
  | .nil, T, Wx, X, sc, x :: xs, C, h, hp => by unfold chEs at h; exact absurd h Bool.false_ne_true
  | .cons e r, T, Wx, X, sc, [], C, h, hp => by unfold chEs at h; exact absurd h Bool.false_ne_true
theorem chKs_ok : ∀ (es : Es) {T : Tb} {Wx : WX} {X : Cx} {sc : Scope} {ks : List Keyword}, CxE T p t fdt Ns ps n Wx X N sc hot → chKs t p N hot sc es ks = true → DK T Wx X ks (fun a h => evEs (p.g n) a es h)
  | .nil, T, Wx, X, sc, [], C, h => dk_nil
  | .cons e r, T, Wx, X, sc, ⟨m, x, q⟩ :: ks, C, h => by
    unfold chKs at h
    rw [Bool.and_eq_true] at h
    exact dk_cons (chE_ok e C h.1).de (chKs_ok r C h.2)
  | .nil, T, Wx, X, sc, x :: xs, C, h => by unfold chKs at h; exact absurd h Bool.false_ne_true
  | .cons e r, T, Wx, X, sc, [], C, h => by unfold chKs at h; exact absurd h Bool.false_ne_true
theorem chEo_ok : ∀ (o : Eo) {T : Tb} {Wx : WX} {X : Cx} {sc : Scope} {x : Option Expr}, CxE T p t fdt Ns ps n Wx X N sc hot → chEo t p N hot sc o x = true → DO T Wx X x (fun a h => evEo (p.g n) a o h)
  | .none, T, Wx, X, sc, none, C, h => do_none
  | .some e, T, Wx, X, sc, some x, C, h => by
    unfold chEo at h
    exact do_some (chE_ok e C h).de
  | .none, T, Wx, X, sc, some x, C, h => by unfold chEo at h; exact absurd h Bool.false_ne_true
  | .some e, T, Wx, X, sc, none, C, h => by unfold chEo at h; exact absurd h Bool.false_ne_true
theorem chIf_ok : ∀ (o : Eo) {T : Tb} {Wx : WX} {X : Cx} {sc : Scope} {xs : List Expr}, CxE T p t fdt Ns ps n Wx X N sc hot → chIf t p N hot sc o xs = true → DC T Wx X xs (fun a h => evC (p.g n) a o h)
  | .none, T, Wx, X, sc, [], C, h => dc_nil
  | .some e, T, Wx, X, sc, [x], C, h => by
    unfold chIf at h
    rw [Bool.and_eq_true] at h
    exact dc_one ((chE_ok e C h.2).dt h.1)
  | .none, T, Wx, X, sc, x :: xs, C, h => by unfold chIf at h; exact absurd h Bool.false_ne_true
  | .some e, T, Wx, X, sc, [], C, h => by unfold chIf at h; exact absurd h Bool.false_ne_true
  | .some e, T, Wx, X, sc, x :: y :: xs, C, h => by unfold chIf at h; exact absurd h Bool.false_ne_true
theorem chIt_ok : ∀ (it : It) (k : Bool) {T : Tb} {Wx : WX} {X : Cx} {sc : Scope} {x : Expr} {tg : Expr}, CxE T p t fdt Ns ps n Wx X N sc hot → chIt t p N hot sc k it x = true → DI T Wx X k tg x (fun a h => evIt (p.g n) a k it h)
  | .seq e, k, T, Wx, X, sc, x, tg, C, h => by
    unfold chIt at h
    have A := chE_ok e C h
    cases k with
    | true => exact di_seq C.K (drk_true A.dr)
    | false =>
      cases e with
      | var i =>
        unfold chE at h
        split at h
        all_goals first | contradiction | skip
        rename_i q
        cases q
        have r := rd_ok C h
        exact di_seq C.K (drk_var r.at_ r.vis r.d1 r.d2 RE.bad)
      | _ => exact di_seq C.K (drk_false A.de)
  | .rng1 a, k, T, Wx, X, sc, x, tg, C, h => by
    unfold chIt at h
    split at h
    all_goals first | contradiction | skip
    rename_i q
    cases q
    simp only [Bool.and_eq_true, decide_eq_true_eq] at h
    obtain ⟨⟨⟨h1, rfl⟩, h2⟩, h3⟩ := h
    obtain ⟨⟨g1, g2, g3⟩, g4⟩ := bn_ok C h1
    exact di_rng1 g1 g4 h2 (chE_ok a C h3).de
  | .rng2 a b, k, T, Wx, X, sc, x, tg, C, h => by
    unfold chIt at h
    split at h
    all_goals first | contradiction | skip
    rename_i q
    cases q
    simp only [Bool.and_eq_true, decide_eq_true_eq] at h
    obtain ⟨⟨⟨⟨⟨h1, rfl⟩, h2⟩, h3⟩, h4⟩, h5⟩ := h
    obtain ⟨⟨g1, g2, g3⟩, g4⟩ := bn_ok C h1
    exact di_rng2 g1 g4 h2 h3 (chE_ok a C h4).de (chE_ok b C h5).de
  | .rng3 a b c, k, T, Wx, X, sc, x, tg, C, h => by
    unfold chIt at h
    first | exact absurd h Bool.false_ne_true | (split at h <;> contradiction)
  | .enum a, k, T, Wx, X, sc, x, tg, C, h => by
    unfold chIt at h
    first | exact absurd h Bool.false_ne_true | (split at h <;> contradiction)
  | .zip a b, k, T, Wx, X, sc, x, tg, C, h => by
    unfold chIt at h
    first | exact absurd h Bool.false_ne_true | (split at h <;> contradiction)
  | .items a, k, T, Wx, X, sc, x, tg, C, h => by
    unfold chIt at h
    first | exact absurd h Bool.false_ne_true | (split at h <;> contradiction)
theorem chRg_ok : ∀ (it : It) {T : Tb} {Wx : WX} {X : Cx} {sc : Scope} {x : Expr}, CxE T p t fdt Ns ps n Wx X N sc hot → chRg t p N hot sc it x = true → ∃ Φ2, DG2 T Wx X x Φ2 ∧
    ∀ (tp : Bool) aa hh, evE (p.g n) aa (.rngl tp it) hh = (Φ2 aa hh).bind fun i h1 => if rngOk i.1 && rngOk i.2 && szOk (i.2 - i.1).toNat then .ok (if tp then .tup (rngD i.1 (i.2 - i.1).toNat) else .lst (rngD i.1 (i.2 - i.1).toNat)) h1 else .bad
  | .rng1 a, T, Wx, X, sc, x, C, h => by
    unfold chRg at h
    split at h
    all_goals first | contradiction | skip
    rename_i q
    cases q
    simp only [Bool.and_eq_true, decide_eq_true_eq] at h
    obtain ⟨⟨⟨h1, rfl⟩, h2⟩, h3⟩ := h
    obtain ⟨⟨g1, g2, g3⟩, g4⟩ := bn_ok C h1
    exact ⟨_, dg_1 g1 g4 (chE_ok a C h3).de h2, fun tp aa hh => by simp only [evE]; rw [bi_bind]; rfl⟩
  | .rng2 a b, T, Wx, X, sc, x, C, h => by
    unfold chRg at h
    split at h
    all_goals first | contradiction | skip
    rename_i q
    cases q
    simp only [Bool.and_eq_true, decide_eq_true_eq] at h
    obtain ⟨⟨⟨⟨⟨h1, rfl⟩, h2⟩, h3⟩, h4⟩, h5⟩ := h
    obtain ⟨⟨g1, g2, g3⟩, g4⟩ := bn_ok C h1
    refine ⟨_, dg_2 g1 g4 (chE_ok a C h4).de (chE_ok b C h5).de h2 h3, fun tp aa hh => ?_⟩
    simp only [evE]
    rw [bi_bind]
    congr 1
    funext i h1
    rw [bi_bind]
    rfl
  | .seq e, T, Wx, X, sc, x, C, h => by
    unfold chRg at h
    first | exact absurd h Bool.false_ne_true | (split at h <;> contradiction)
  | .rng3 a b c, T, Wx, X, sc, x, C, h => by
    unfold chRg at h
    first | exact absurd h Bool.false_ne_true | (split at h <;> contradiction)
  | .enum a, T, Wx, X, sc, x, C, h => by
    unfold chRg at h
    first | exact absurd h Bool.false_ne_true | (split at h <;> contradiction)
  | .zip a b, T, Wx, X, sc, x, C, h => by
    unfold chRg at h
    first | exact absurd h Bool.false_ne_true | (split at h <;> contradiction)
  | .items a, T, Wx, X, sc, x, C, h => by
    unfold chRg at h
    first | exact absurd h Bool.false_ne_true | (split at h <;> contradiction)
end
end
end Ev
end
section
set_option Elab.async false
set_option linter.all false
set_option maxRecDepth 100000
set_option maxHeartbeats 8000000
/-! Ev, part X: the check of statements. -/
namespace Ev
open PySem PySem.Spec PyProof.Rows L2
/-- a list that is made straight into a name -/
def swB (sc : Scope) (z : PySem.Str) (q : Pos) : Expr → Bool
  | .ListComp _ _ scope cp => decide (sc.names.lookup z = some .local) && (q.line == cp.line) && !(scope.names.any fun (n, k) => n == z && (k == .local || k == .cell))
  | _ => false
def noSD : Expr → Bool
  | .SetComp _ _ _ _ => false
  | .DictComp _ _ _ _ _ => false
  | _ => true
theorem sw_lc {env : Env} {elt : Expr} {gs : List Comprehension} {scope : Scope} {cp q : Pos} {z : PySem.Str} {l : Nat} (hk : env.scope.kind = .function) :
    swapsWith (.ListComp elt gs scope cp) (some (.Name z q)) l env = pure (swB env.scope z q (.ListComp elt gs scope cp)) := by
  unfold swapsWith swB
  have hb : env.blockKind = .function := by unfold Env.blockKind; rw [hk]; rfl
  have hz : env.kindOf z = env.scope.names.lookup z := rfl
  simp only [hb, hz, Expr.pos]
  have : ((ScopeKind.function == ScopeKind.function) && (env.scope.names.lookup z == some NameKind.local)) = decide (env.scope.names.lookup z = some .local) := by
    show (true && _) = _
    rw [Bool.true_and]
    by_cases h : env.scope.names.lookup z = some .local
    · rw [h]; rfl
    · rw [decide_eq_false h]; simpa using h
  rw [this]
theorem sw_false {env : Env} {x : Expr} {q : Pos} {z : PySem.Str} {l : Nat} (hk : env.scope.kind = .function) (hn : noSD x = true) (h : swB env.scope z q x = false) : swapsWith x (some (.Name z q)) l env = pure false := by
  cases x with
  | ListComp elt gs scope cp => rw [sw_lc hk, h]
  | SetComp _ _ _ _ => exact absurd hn Bool.false_ne_true
  | DictComp _ _ _ _ _ => exact absurd hn Bool.false_ne_true
  | _ => rfl
/-- names that are stored from the right -/
def swLine (ts : List Expr) : Nat := (ts.head?.map (·.pos.line)).getD 0
def swNames (sc : Scope) (ts : List Expr) : List PySem.Str := ts.filterMap fun
  | .Name id pos => if (sc.names.lookup id == some .local && pos.line == swLine ts) = true then some id else none
  | _ => none
def swO (sc : Scope) (ts vs : List Expr) : Option (Option (List PySem.Str)) :=
  if (!(ts.length == 2 || ts.length == 3) || vs.length != ts.length) = true then some none
  else if (vs.any fun | .Starred .. => true | _ => false) = true then some none
  else if ((swNames sc ts).length != ts.length || (swNames sc ts).eraseDups.length != (swNames sc ts).length) = true then some none
  else if vs.all (foldedForSure 8) = true then some none
  else if vs.all (constantsAlone 8) = true then none
  else some (some (swNames sc ts))
theorem sw_stores {env : Env} {ts vs : List Expr} {k k2 : Nat} {q q2 : Pos} {r : Option (List PySem.Str)} (hk : env.scope.kind = .function) (h : swO env.scope ts vs = some r) : swappedStores [.Tuple ts k q] (.Tuple vs k2 q2) env = pure r := by
  have hb : (env.blockKind != .function) = false := by
    have : env.blockKind = .function := by unfold Env.blockKind; rw [hk]; rfl
    rw [this]; rfl
  unfold swO at h
  unfold swappedStores
  simp only [hb, Bool.or_false]
  split at h
  · rename_i c; cases h; exact if_pos c
  · rename_i c
    refine (if_neg c).trans ?_
    split at h
    · rename_i c2; cases h; exact if_pos c2
    · rename_i c2
      refine (if_neg c2).trans ?_
      split at h
      · rename_i c3; cases h; exact if_pos c3
      · rename_i c3
        refine (if_neg c3).trans ?_
        split at h
        · rename_i c4; cases h; exact if_pos c4
        · rename_i c4
          refine (if_neg c4).trans ?_
          split at h
          · cases h
          · rename_i c5
            cases h
            exact if_neg c5
def tupE : Expr → Bool
  | .Tuple _ _ _ => false
  | _ => true
theorem sw_tup {env : Env} {tg x : Expr} (h : tupE x = true) : swappedStores [tg] x env = pure none := by
  cases x <;> first | (exact absurd h Bool.false_ne_true) | (cases tg <;> rfl)
theorem sw_sub {env : Env} {o i x : Expr} {q : Pos} : swappedStores [.Subscript o i q] x env = pure none := by cases x <;> rfl
/-- a slot's own object is let go, from now on a plain value -/
theorem ds_frz {T : Tb} {Wx : WX} {X : Cx} {st : Stmt} {i : Nat} {Φ : List SL → List D → RS} (h : DS T Wx X st Φ) : DS T Wx X st (fun a hh => match a[i]? with
    | some (.ow d) => Φ (a.set i (.pu d)) hh
    | _ => Φ a hh) := by
  refine ps_imp h fun E σ H ⟨w, a, e, RH, RS, p⟩ => ?_
  dsimp only at p
  split at p
  · rename_i d hd
    obtain ⟨q, e1, k1, k2, k3, k4⟩ := RS.sl i _ hd
    obtain ⟨o, ho⟩ := k4.there
    have RS0 : RepS T w (a.set i .no) (σ.set i (some (.ref q))) := RS.forget
    have eσ : σ.set i (some (.ref q)) = σ := by
      apply List.ext_getElem?
      intro j
      by_cases hj : j = i
      · subst hj
        rw [List.getElem?_set_self (by rw [← RS.ln]; exact (List.getElem?_eq_some_iff.mp hd).1), e1]
      · rw [List.getElem?_set_ne (Ne.symm hj)]
    rw [eσ] at RS0
    have f : Fr T (a.set i .no) σ w (.ref q) d := ⟨q, rfl, k1, k2, k3, fun r ⟨j, d', h1, h2⟩ z => by
      subst z
      by_cases hj : j = i
      · subst hj
        rw [List.getElem?_set_self (List.getElem?_eq_some_iff.mp hd).1] at h1
        cases h1
      · rw [List.getElem?_set_ne (Ne.symm hj)] at h1
        exact hj (RS.oo j i d' d r h1 hd h2 e1), k4⟩
    obtain ⟨w2, l1, l2, l3, R2, S2, fz⟩ := Fr.frz RH RS0 f
    have S3 := S2.set (i := i) fz
    rw [eσ, List.set_set] at S3
    exact ⟨w2, _, l2.trans e, R2, S3, by rw [l3]; exact PostS.mono l1 p⟩
  · exact ⟨w, a, e, RH, RS, p⟩
section
variable (t : Tt) (p : P) (N : List PySem.Str) (sc : Scope)
/-- an expression that makes a new object -/
def isF : E → Bool
  | .call _ _ => true
  | .meth _ _ _ => true
  | e => fresh e
def lineB (a b : Pos) : Bool := a.endLine == b.line
mutual
def chS (hot : Bool) : S → Stmt → Bool
  | .asg i e, .Assign [.Name z q] x _ => nmB N sc i z && noSD x && chE t p N hot sc e x && (!swB sc z q x || fresh e)
  | .asgM i e, .Assign [.Name z q] x _ => decide (i ≠ 0) && nmB N sc i z && noSD x && isF e && chE t p N hot sc e x && (!swB sc z q x || fresh e)
  | .asgL i e, .Assign [.Name z q] x _ => nmB N sc i z && noSD x && isF e && chE t p N hot sc e x && !swB sc z q x
  | .asgT g e, .Assign [.Tuple ts k q] x _ => !hot && tgB N sc g (.Tuple ts k q) && lcE x && tupE x && chE t p N hot sc e x
  | .asgP g es, .Assign [.Tuple ts k q] (.Tuple xs k2 q2) _ => !hot && tgB N sc g (.Tuple ts k q) && xs.all plE && chEs t p N hot sc es xs && (match swO sc ts xs with
    | some none => szOk (lenTg g)
    | some (some _) => (match g, ts, xs with
      | .cons (.name i) (.cons (.name j) .nil), [.Name z1 _, .Name z2 _], [_, _] => decide (i ≠ j) && decide (sc.names.lookup z1 = some .local) && decide (sc.names.lookup z2 = some .local) && decide (swO sc ts xs = some (some [z1, z2]))
      | .cons (.name i) (.cons (.name j) (.cons (.name l) .nil)), [.Name z1 _, .Name z2 _, .Name z3 _], [_, _, _] => decide (i ≠ j) && decide (i ≠ l) && decide (j ≠ l) && decide (sc.names.lookup z1 = some .local) && decide (sc.names.lookup z2 = some .local) && decide (sc.names.lookup z3 = some .local) &&
          decide (swO sc ts xs = some (some [z1, z2, z3]))
      | _, _, _ => false)
    | none => false)
  | .aug i op e, .AugAssign (.Name z _) o x _ => nmB N sc i z && decide (o = opP op) && (decide (op = .add) || decide (op = .sub)) && chE t p N hot sc e x
  | .sto i k e, .Assign [.Subscript (.Name z _) y _] x _ => rdB N sc i z && plE y && lcE x && chE t p N hot sc k y && chE t p N hot sc e x
  | .stf i f e, .Assign [.Attribute (.Name z _) nm _] x _ => rdB N sc i z && decide (nm = t.fld f) && chE t p N hot sc e x
  | .exp e, .Expr x _ => lcE x && chE t p N hot sc e x
  | .app i e, .Expr (.Call (.Attribute (.Name z _) nm q2) [x] [] q3) _ => rdB N sc i z && decide (nm = "append") && plE x && lineB q2 q3 && chE t p N hot sc e x
  | .ext i e, .Expr (.Call (.Attribute (.Name z _) nm q2) [x] [] q3) _ => rdB N sc i z && decide (nm = "extend") && plE x && lineB q2 q3 && chE t p N hot sc e x
  | .insr i k e, .Expr (.Call (.Attribute (.Name z _) nm q2) [y, x] [] q3) _ => rdB N sc i z && decide (nm = "insert") && plE x && plE y && lineB q2 q3 && chE t p N hot sc k y && chE t p N hot sc e x
  | .ifs c a b, .If c' a' b' _ => testable c c' && chE t p N hot sc c c' && chSs hot a a' && chSs hot b b'
  | .whl c b, .While c' b' [] _ => !hot && testable c c' && chE t p N hot sc c c' && chSs hot b b'
  | .for g it b, .For tg it' b' [] _ => !hot && tgB N sc g tg && plE it' && chIt t p N hot sc false it it' && chSs hot b b'
  | .ret e, .Return (some x) _ => chE t p N hot sc e x
  | .retN, .Return none _ => true
  | .retM i, .Return (some (.Name z _)) _ => rdB N sc i z
  | .raise c .nil, .Raise (some (.Call (.Name z _) [] [] _)) none _ => !hot && glB sc z && decide (z = t.xname c) && t.x0 c
  | .raise c es, .Raise (some (.Call (.Name z _) xs [] _)) none _ => !hot && glB sc z && decide (z = t.xname c) && decide (c < t.nx) && decide (esLen es = t.xar c) && t.bn.contains "super" && argsB xs && !xs.isEmpty && chEs t p N hot sc es xs
  | .tryx b hs, .Try b' (h0 :: hs') [] [] _ => !hot && chSs hot b b' && chHs hs (h0 :: hs')
  | .pass, .Pass _ => true
  | .frz _ s, st => chS hot s st
  | _, _ => false
def chSs (hot : Bool) : Ss → List Stmt → Bool
  | .nil, [] => true
  | .cons s r, x :: xs => chS hot s x && chSs hot r xs
  | _, _ => false
def chHs : Hs → List ExceptHandler → Bool
  | .nil, [] => true
  | .cons k x b r, .ExceptHandler (some (.Name z _)) nm (b0 :: bs) _ :: hs => glB sc z && decide (z = t.xname k) && decide (k < t.nh) && (match x, nm with
    | none, none => true
    | some i, some m => decide (N[i]? = some m) && decide (sc.names.lookup m = some .local)
    | _, _ => false) && chSs true b (b0 :: bs) && chHs r hs
  | _, _ => false
end
end
end Ev
end
section
set_option Elab.async false
set_option linter.all false
set_option maxRecDepth 100000
set_option maxHeartbeats 16000000
/-! Ev, part Y: a checked statement does what its tree says. -/
namespace Ev
open PySem PySem.Spec PyProof.Rows L2
/-- a def's context -/
structure CxS (T : Tb) (p : P) (t : Tt) (fdt : Nat → FuncData) (Ns ps : Nat → List PySem.Str) (n : Nat) (Wx : WX) (X : Cx) (N : List PySem.Str) (sc : Scope) (hot : Bool) : Prop where
  e : CxE T p t fdt Ns ps n Wx X N sc hot
  nm : ∀ i z, nmB N sc i z = true → NmOk X i z
  st : X.stack = X.env :: X.outer
  fr : X.env.frame = some X.env.locals
  po : hot = false → PassesOwn (model X.prog X.w) X.A X.env X.xe
section
variable {p : P} {t : Tt} {fdt : Nat → FuncData} {Ns ps : Nat → List PySem.Str} {n : Nat} {N : List PySem.Str} {sc : Scope}
theorem CxS.tr {T : Tb} {Wx W : WX} {X : Cx} {hot : Bool} (C : CxS T p t fdt Ns ps n Wx X N sc hot) (hh : hot = false) {pn : List (Addr × Obj)} {xe : Value → Shared → Prop} (tk : Takes (X.tr pn xe) W) (po : PassesOwn (model X.prog X.w) X.A X.env xe) : CxS T p t fdt Ns ps n W (X.tr pn xe) N sc hot where
  e := { K := C.e.K, gb := C.e.gb, tk := tk, esc := C.e.esc, kind := C.e.kind, nam := C.e.nam, nd := C.e.nd, xf := xfr_none (C.e.cold hh).2.2, xi := xir_none (C.e.cold hh).2.2, un := C.e.un, gd := C.e.gd,
         cold := fun h => ⟨(C.e.cold h).1, ⟨(C.e.cold h).2.1.fn, (C.e.cold h).2.1.bd, (C.e.cold h).2.1.kp, (C.e.cold h).2.1.ns, (C.e.cold h).2.1.room, (C.e.cold h).2.1.gd⟩, (C.e.cold h).2.2⟩ }
  nm := fun i z h => ⟨(C.nm i z h).at_, (C.nm i z h).loc, (C.nm i z h).fn⟩
  st := C.st
  fr := C.fr
  po := fun _ => po
theorem CxS.su {T : Tb} {Wx : WX} {X : Cx} {hot : Bool} (C : CxS T p t fdt Ns ps n Wx X N sc hot) {a : Addr} {oe : Obj} {c : Nat} {d : Option Addr} {pn : List (Addr × Obj)} (hz : Zc (.ref (T.xcls c)) d oe) (hf : ∃ vs, oe.data = .fields vs) :
    CxS (T.wx (some (a, c, d))) p t fdt Ns ps n noW (X.suite a ((a, oe) :: pn)) N sc true where
  e := { K := C.e.K, gb := C.e.gb.wx, tk := takes0, esc := C.e.esc, kind := C.e.kind, nam := C.e.nam, nd := C.e.nd, xf := xfr_suite (T := T.wx (some (a, c, d))) C.e.K rfl hz hf, xi := xir_suite (T := T.wx (some (a, c, d))) C.e.K rfl hz hf, un := C.e.un, gd := C.e.gd, cold := fun h => nomatch h }
  nm := fun i z h => ⟨(C.nm i z h).at_, (C.nm i z h).loc, (C.nm i z h).fn⟩
  st := C.st
  fr := C.fr
  po := fun h => nomatch h
theorem bind_thenS {α : Type} (r : RE D) (a : List SL) (F : D → List D → RS) (c : D → Bool) : (r.bind fun d h1 => if c d then RE.ok d h1 else .bad).thenS a F = r.thenS a fun d h1 => if c d then F d h1 else .bad := by
  cases r with
  | ok d h =>
    show (if c d then RE.ok d h else .bad).thenS a F = if c d then F d h else .bad
    split <;> rfl
  | exc c ds h => rfl
  | bad => rfl
theorem df_congr {T : Tb} {Wx : WX} {X : Cx} {x : Expr} {Φ Ψ : List SL → List D → RE D} (h : DF T Wx X x Φ) (e : ∀ a hh, Ψ a hh = Φ a hh) : DF T Wx X x Ψ := by
  have : Ψ = Φ := by funext a hh; exact e a hh
  rw [this]; exact h
/-- an expression that makes a new object -/
theorem chF_ok {T : Tb} {Wx : WX} {X : Cx} {hot : Bool} {e : E} {x : Expr} (C : CxE T p t fdt Ns ps n Wx X N sc hot) (hf : isF e = true) (h : chE t p N hot sc e x = true) : DF T Wx X x (fun a hh => evF (p.g n) a e hh) := by
  cases e with
  | call f es =>
    unfold chE at h
    split at h
    all_goals first | contradiction | skip
    rename_i es' q2 q
    cases q
    simp only [Bool.and_eq_true, decide_eq_true_eq, Bool.not_eq_true'] at h
    obtain ⟨⟨⟨⟨⟨⟨hh, hgl⟩, h1⟩, rfl⟩, hi⟩, h3⟩, h4⟩ := h
    obtain ⟨g1, g2, _⟩ := gl_ok C h1
    obtain ⟨hc, F, _⟩ := C.cold hh
    obtain ⟨b, hb, hbi⟩ : ∃ b, p.fns[f]? = some b ∧ b.init = false := by
      cases hb : p.fns[f]? with
      | none => rw [hb] at hi; exact absurd hi Bool.false_ne_true
      | some b => rw [hb] at hi; exact ⟨b, rfl, by simpa using hi⟩
    have hff := (List.getElem?_eq_some_iff.mp hb).1
    have hm : ModOk p Ns f false := fun b' e => ⟨(C.gb.md f b' e).1, (C.gb.md f b' e).2.1, by rw [hb] at e; cases e; exact hbi, fun z => nomatch z⟩
    obtain ⟨a1, a2⟩ := args_ok h3
    cases es' with
    | nil =>
      cases es with
      | cons e r => unfold chEs at h4; exact absurd h4 Bool.false_ne_true
      | nil => exact df_of_dc (dc_call0 F hff hm C.tk g1 (C.gb.fn f hff hgl) g2)
    | cons y ys =>
      rw [List.all_cons, Bool.and_eq_true] at a1
      exact df_of_dc (dc_call F hff hm C.tk g1 (C.gb.fn f hff hgl) g2 (chEs_ok es C h4 (by rw [List.all_cons, a1.1]; exact a1.2)).2 a1.1 a1.2)
  | meth o m es =>
    unfold chE at h
    split at h
    all_goals first | contradiction | skip
    rename_i es' q2 q
    cases q
    simp only [Bool.and_eq_true, decide_eq_true_eq, Bool.not_eq_true'] at h
    obtain ⟨⟨⟨⟨⟨⟨hh, rfl⟩, h1⟩, h2⟩, h3⟩, h4⟩, h5⟩ := h
    obtain ⟨hc, F, _⟩ := C.cold hh
    have hM : MethOk T (p.g n) X m (t.mth m) := ⟨fun c f hf => (C.gb.me m c f hf).1⟩
    have hfs : ∀ c f, (p.g n).meth c m = some f → f < p.fns.length ∧ ModOk p Ns f false := fun c f hf =>
      ⟨(C.gb.me m c f hf).2.1, fun b e => ⟨(C.gb.md f b e).1, (C.gb.md f b e).2.1, (C.gb.me m c f hf).2.2 b e, fun z => nomatch z⟩⟩
    obtain ⟨a1, a2⟩ := args_ok h3
    cases es' with
    | nil =>
      cases es with
      | cons e r => unfold chEs at h5; exact absurd h5 Bool.false_ne_true
      | nil => exact df_of_dc (dc_meth0 C.K F hM hfs C.tk (chE_ok o C h4).dr h1 h2)
    | cons y ys =>
      rw [List.all_cons, Bool.and_eq_true] at a1
      rw [List.length_cons] at a2
      exact df_of_dc (dc_meth C.K F hM hfs C.tk (chE_ok o C h4).dr h1 (chEs_ok es C h5 (by rw [List.all_cons, a1.1]; exact a1.2)).2 a1.1 a1.2 (by omega) h2)
  | _ => first
    | exact absurd hf Bool.false_ne_true
    | (have K := chE_ok _ C h
       exact df_of_dp (K.dp hf))
    | (have K := chE_ok _ C h
       exact df_congr (df_of_dp (K.dp hf)) fun a hh => by simp only [evF]; exact if_pos hf)
/-- the parts of a checked comprehension -/
theorem comp_parts {hot : Bool} {e : E} {elt : Expr} {gs : List Comprehension} {scope : Scope} {cp : Pos} (h : chE t p N hot sc e (.ListComp elt gs scope cp) = true) : ∃ (tg : Tg) (own : List Nat) (it : It) (c : Eo) (e' : E) (tg' iter : Expr) (ifs : List Expr), e = .comp tg own it c e' ∧
    gs = [⟨tg', iter, ifs, 0⟩] ∧ (hot = false ∧ blkC N sc scope (ownN N own) = true ∧ (tgs tg).all (own.contains ·) = true ∧ tgB N scope tg tg' = true ∧ plE iter = true ∧ chIt t p N hot sc true it iter = true ∧ chIf t p N hot (relS scope sc) c ifs = true ∧ chE t p N hot (relS scope sc) e' elt = true) := by
  cases e with
  | comp tg own it c e' =>
    unfold chE at h
    split at h
    all_goals first | contradiction | skip
    rename_i tg' iter ifs scope q2 q q3
    cases q
    cases q3
    simp only [Bool.and_eq_true, Bool.not_eq_true'] at h
    obtain ⟨⟨⟨⟨⟨⟨⟨hh, h1⟩, h2⟩, h3⟩, h4⟩, h5⟩, h6⟩, h7⟩ := h
    exact ⟨tg, own, it, c, e', tg', iter, ifs, rfl, rfl, hh, h1, h2, h3, h4, h5, h6, h7⟩
  | _ =>
    unfold chE at h
    first | exact absurd h Bool.false_ne_true | (split at h <;> contradiction)
/-- a comprehension straight into a name -/
theorem lc_ok {T : Tb} {Wx : WX} {X : Cx} {hot : Bool} {e : E} {elt : Expr} {gs : List Comprehension} {scope : Scope} {cp q pos : Pos} {i : Nat} {z : PySem.Str} {F : List SL → D → List D → RS} (C : CxE T p t fdt Ns ps n Wx X N sc hot)
    (hF : ∀ (E : L2.Ends) (a : List SL) (σ : Ev.St) (w : Wo) (v : V) (d : D), RepH T w → RepS T w a σ → rP T a σ w v d → PostS T Wx w E (F a d w.hh) → E.nx (σ.set i (some v)) w.H)
    (hi : N[i]? = some z) (h : chE t p N hot sc e (.ListComp elt gs scope cp) = true) (hb : swB sc z q (.ListComp elt gs scope cp) = true) :
    DS T Wx X (.Assign [.Name z q] (.ListComp elt gs scope cp) pos) (fun a hh => (evE (p.g n) a e hh).thenS a fun d h1 => F a d h1) := by
  obtain ⟨tg, own, it, c, e', tg', iter, ifs, rfl, rfl, hh, h1, h2, h3, h4, h5, h6, h7⟩ := comp_parts h
  obtain ⟨hc, _, hx⟩ := C.cold hh
  have bo := blkOk_by h1
  have hN : X.N.Nodup := by rw [C.nam]; exact C.nd
  have hl : sc.names.lookup z = some .local := by
    unfold swB at hb
    simp only [Bool.and_eq_true, decide_eq_true_eq] at hb
    exact hb.1.1
  exact ds_setLcG hF (ownN := ownN N own) (by unfold ownN; rw [List.map_map]; exact List.map_id _) hc hN (by rw [C.nam]; exact hi) (by rw [C.esc]; exact hl) (by rw [sw_lc (by rw [C.esc]; exact C.kind), C.esc, hb]) (chIt_ok it true C h5) (by rw [C.nam, C.esc]; exact bo)
    (fun j hj => by have := List.all_eq_true.mp h2 j hj; simpa using this) (fun s H Ca cl fp => tg_ok (X := X.blk s H scope (compEnvC scope cl Ca X.env) fp) C.K hN hc (blk_nm C s H Ca cl fp) tg h3)
    (fun s H Ca cl fp => chIf_ok c (blk_ok C hx bo.kind s H Ca cl fp) h6) (fun s H Ca cl fp => (chE_ok e' (blk_ok C hx bo.kind s H Ca cl fp) h7).de) (fold_pl h4)
theorem ds_congr {T : Tb} {Wx : WX} {X : Cx} {st : Stmt} {Φ Ψ : List SL → List D → RS} (h : DS T Wx X st Φ) (e : ∀ a hh, Ψ a hh = Φ a hh) : DS T Wx X st Ψ := by
  have : Ψ = Φ := by funext a hh; exact e a hh
  rw [this]; exact h
mutual
theorem chS_ok : ∀ (s : S) {hot : Bool} {T : Tb} {Wx : WX} {X : Cx} {st : Stmt}, CxS T p t fdt Ns ps n Wx X N sc hot → chS t p N sc hot s st = true → DS T Wx X st (fun a h => evS (p.g n) s a h)
  | .asg i e, hot, T, Wx, X, st, C, h => by
    unfold chS at h
    split at h
    all_goals first | contradiction | skip
    rename_i z q x pos q2
    cases q2
    simp only [Bool.and_eq_true] at h
    obtain ⟨⟨⟨h1, h2⟩, h3⟩, h4⟩ := h
    have hN : X.N.Nodup := by rw [C.e.nam]; exact C.e.nd
    by_cases hb : swB sc z q x = true
    · cases x <;> first | (exact absurd hb Bool.false_ne_true) | skip
      refine ds_congr (lc_ok (F := fun a d h1 => .nx (a.set i (.pu d)) h1) C.e (fun E a σ w v d => setLc_asg E a σ w v d) ?_ h3 hb) fun a hh => by simp only [evS] <;> rfl
      unfold nmB at h1
      rw [Bool.and_eq_true] at h1
      exact of_decide_eq_true h1.1
    · exact ds_congr (ds_asg hN (C.nm i z h1) (chE_ok e C.e h3).de (sw_false (by rw [C.e.esc]; exact C.e.kind) h2 (by rw [C.e.esc]; simpa using hb))) fun a hh => by simp only [evS] <;> rfl
  | .asgM i e, hot, T, Wx, X, st, C, h => by
    unfold chS at h
    split at h
    all_goals first | contradiction | skip
    rename_i z q x pos q2
    cases q2
    simp only [Bool.and_eq_true, decide_eq_true_eq] at h
    obtain ⟨⟨⟨⟨⟨h0, h1⟩, h2⟩, hf⟩, h3⟩, h4⟩ := h
    have hN : X.N.Nodup := by rw [C.e.nam]; exact C.e.nd
    by_cases hb : swB sc z q x = true
    · cases x <;> first | (exact absurd hb Bool.false_ne_true) | skip
      have hfr : fresh e = true := by
        rw [hb] at h4
        simpa using h4
      have ev : ∀ a hh, evF (p.g n) a e hh = (evE (p.g n) a e hh).bind fun d h1 => if isObj d then .ok d h1 else .bad := fun a hh => by
        obtain ⟨tg, own, it, c, e', tg', iter, ifs, rfl, _⟩ := comp_parts h3
        simp only [evF, hfr, if_true]
      refine ds_congr (lc_ok (F := fun a d h1 => if isObj d then .nx (a.set i (.ow d)) h1 else .bad) C.e (fun E a σ w v d => setLc_asgM h0 E a σ w v d) ?_ h3 hb) fun a hh => by
        simp only [evS]
        rw [ev a hh]
        exact bind_thenS (α := D) _ _ _ _
      unfold nmB at h1
      rw [Bool.and_eq_true] at h1
      exact of_decide_eq_true h1.1
    · exact ds_congr (ds_asgM h0 hN (C.nm i z h1) (chF_ok C.e hf h3) (sw_false (by rw [C.e.esc]; exact C.e.kind) h2 (by rw [C.e.esc]; simpa using hb))) fun a hh => by simp only [evS] <;> rfl
  | .asgL i e, hot, T, Wx, X, st, C, h => by
    unfold chS at h
    split at h
    all_goals first | contradiction | skip
    rename_i z q x pos q2
    cases q2
    simp only [Bool.and_eq_true, Bool.not_eq_true'] at h
    obtain ⟨⟨⟨⟨h1, h2⟩, hf⟩, h3⟩, h4⟩ := h
    have hN : X.N.Nodup := by rw [C.e.nam]; exact C.e.nd
    exact ds_congr (ds_asgL hN (C.nm i z h1) (chF_ok C.e hf h3) (sw_false (by rw [C.e.esc]; exact C.e.kind) h2 (by rw [C.e.esc]; exact h4))) fun a hh => by simp only [evS] <;> rfl
  | .asgT g e, hot, T, Wx, X, st, C, h => by
    unfold chS at h
    split at h
    all_goals first | contradiction | skip
    rename_i q2
    cases q2
    simp only [Bool.and_eq_true, Bool.not_eq_true'] at h
    obtain ⟨⟨⟨⟨hh, h1⟩, h2⟩, h3⟩, h4⟩ := h
    have hN : X.N.Nodup := by rw [C.e.nam]; exact C.e.nd
    exact ds_congr (ds_asgT (chE_ok e C.e h4).de h2 (tg_ok C.e.K hN (C.e.cold hh).1 C.nm g h1) (sw_tup h3) rfl) fun a hh => by simp only [evS] <;> rfl
  | .asgP g es, hot, T, Wx, X, st, C, h => by
    unfold chS at h
    split at h
    all_goals first | contradiction | skip
    rename_i ts k q xs k2 q2 pos q3
    cases q3
    simp only [Bool.and_eq_true, Bool.not_eq_true'] at h
    obtain ⟨⟨⟨⟨hh, h1⟩, h2⟩, h3⟩, h4⟩ := h
    have hN : X.N.Nodup := by rw [C.e.nam]; exact C.e.nd
    have hk : X.env.scope.kind = .function := by rw [C.e.esc]; exact C.e.kind
    have hc := (C.e.cold hh).1
    have A := (chEs_ok es C.e h3 h2).1
    split at h4
    · rename_i sw
      cases g with
      | cons a r => exact ds_congr (ds_asgP A h4 (tg_ok C.e.K hN hc C.nm (.cons a r) h1) (sw_stores hk (by rw [C.e.esc]; exact sw)) rfl) fun a hh => by simp only [evS] <;> rfl
      | name i => unfold tgB at h1; first | exact absurd h1 Bool.false_ne_true | (split at h1 <;> contradiction)
      | nil => unfold tgB at h1; first | exact absurd h1 Bool.false_ne_true | (split at h1 <;> contradiction)
    · rename_i nms sw
      split at h4
      · simp only [Bool.and_eq_true, decide_eq_true_eq] at h4
        obtain ⟨⟨⟨k1, k2⟩, k3⟩, k4⟩ := h4
        have hn : ∀ i z, nmB N sc i z = true → X.N[i]? = some z := fun i z e => (C.nm i z e).at_
        unfold tgB at h1
        simp only [tgsB, tgB, Bool.and_eq_true] at h1
        exact ds_congr (ds_par hc hN (hn _ _ h1.1) (hn _ _ h1.2.1) k1 (by rw [C.e.esc]; exact k2) (by rw [C.e.esc]; exact k3) A (sw_stores hk (by rw [C.e.esc]; exact k4))) fun a hh => by simp only [evS] <;> rfl
      · simp only [Bool.and_eq_true, decide_eq_true_eq] at h4
        obtain ⟨⟨⟨⟨⟨⟨k1, k2⟩, k3⟩, k4⟩, k5⟩, k6⟩, k7⟩ := h4
        have hn : ∀ i z, nmB N sc i z = true → X.N[i]? = some z := fun i z e => (C.nm i z e).at_
        unfold tgB at h1
        simp only [tgsB, tgB, Bool.and_eq_true] at h1
        exact ds_congr (ds_par3 hc hN (hn _ _ h1.1) (hn _ _ h1.2.1) (hn _ _ h1.2.2.1) k1 k2 k3 (by rw [C.e.esc]; exact k4) (by rw [C.e.esc]; exact k5) (by rw [C.e.esc]; exact k6) A (sw_stores hk (by rw [C.e.esc]; exact k7))) fun a hh => by simp only [evS] <;> rfl
      · cases h4
    · cases h4
  | .aug i op e, hot, T, Wx, X, st, C, h => by
    unfold chS at h
    split at h
    all_goals first | contradiction | skip
    rename_i q2
    cases q2
    simp only [Bool.and_eq_true, Bool.or_eq_true, decide_eq_true_eq] at h
    obtain ⟨⟨⟨h1, rfl⟩, h2⟩, h3⟩ := h
    have hN : X.N.Nodup := by rw [C.e.nam]; exact C.e.nd
    exact ds_congr (ds_aug h2 hN (C.nm _ _ h1) (chE_ok e C.e h3).de) fun a hh => by simp only [evS] <;> rfl
  | .sto i k e, hot, T, Wx, X, st, C, h => by
    unfold chS at h
    split at h
    all_goals first | contradiction | skip
    rename_i q2
    cases q2
    simp only [Bool.and_eq_true] at h
    obtain ⟨⟨⟨⟨h1, h2⟩, h3⟩, h4⟩, h5⟩ := h
    exact ds_congr (ds_sto (rd_ok C.e h1) (chE_ok e C.e h5).de (chE_ok k C.e h4).de h3 h2 sw_sub) fun a hh => by simp only [evS] <;> rfl
  | .stf i f e, hot, T, Wx, X, st, C, h => by
    unfold chS at h
    split at h
    all_goals first | contradiction | skip
    rename_i q2
    cases q2
    simp only [Bool.and_eq_true, decide_eq_true_eq] at h
    obtain ⟨⟨h1, rfl⟩, h2⟩ := h
    exact ds_congr (ds_stf (g := p.g n) C.e.K (rd_ok C.e h1) ⟨fun c j hj => C.e.gb.fl f c j hj⟩ C.e.gb.fs (chE_ok e C.e h2).de) fun a hh => by simp only [evS] <;> rfl
  | .exp e, hot, T, Wx, X, st, C, h => by
    unfold chS at h
    split at h
    all_goals first | contradiction | skip
    rename_i q2
    cases q2
    rw [Bool.and_eq_true] at h
    exact ds_congr (ds_exp (chE_ok e C.e h.2).de h.1) fun a hh => by simp only [evS] <;> rfl
  | .app i e, hot, T, Wx, X, st, C, h => by
    unfold chS at h
    split at h
    all_goals first | contradiction | skip
    rename_i q2
    cases q2
    simp only [Bool.and_eq_true, decide_eq_true_eq] at h
    obtain ⟨⟨⟨⟨h1, rfl⟩, h2⟩, h3⟩, h4⟩ := h
    exact ds_congr (ds_app (rd_ok C.e h1) (chE_ok e C.e h4).de h2 h3) fun a hh => by simp only [evS] <;> rfl
  | .ext i e, hot, T, Wx, X, st, C, h => by
    unfold chS at h
    split at h
    all_goals first | contradiction | skip
    rename_i q2
    cases q2
    simp only [Bool.and_eq_true, decide_eq_true_eq] at h
    obtain ⟨⟨⟨⟨h1, rfl⟩, h2⟩, h3⟩, h4⟩ := h
    exact ds_congr (ds_ext (rd_ok C.e h1) (chE_ok e C.e h4).dr h2 h3) fun a hh => by simp only [evS] <;> rfl
  | .insr i k e, hot, T, Wx, X, st, C, h => by
    unfold chS at h
    split at h
    all_goals first | contradiction | skip
    rename_i q2
    cases q2
    simp only [Bool.and_eq_true, decide_eq_true_eq] at h
    obtain ⟨⟨⟨⟨⟨⟨h1, rfl⟩, h2⟩, h3⟩, h4⟩, h5⟩, h6⟩ := h
    exact ds_congr (ds_insr (rd_ok C.e h1) (chE_ok k C.e h5).de (chE_ok e C.e h6).de h3 h2 h4) fun a hh => by simp only [evS] <;> rfl
  | .ifs c a b, hot, T, Wx, X, st, C, h => by
    unfold chS at h
    split at h
    all_goals first | contradiction | skip
    rename_i q2
    cases q2
    simp only [Bool.and_eq_true] at h
    obtain ⟨⟨⟨h1, h2⟩, h3⟩, h4⟩ := h
    exact ds_congr (ds_ifs ((chE_ok c C.e h2).dt h1) (chSs_ok a C h3) (chSs_ok b C h4)) fun a hh => by simp only [evS] <;> rfl
  | .whl c b, hot, T, Wx, X, st, C, h => by
    unfold chS at h
    split at h
    all_goals first | contradiction | skip
    rename_i q2
    cases q2
    simp only [Bool.and_eq_true, Bool.not_eq_true'] at h
    obtain ⟨⟨⟨hh, h1⟩, h2⟩, h3⟩ := h
    exact ds_congr (ds_whl (C.po hh) ((chE_ok c C.e h2).dt h1) (chSs_ok b C h3)) fun a hh => by simp only [evS] <;> rfl
  | .for g it b, hot, T, Wx, X, st, C, h => by
    unfold chS at h
    split at h
    all_goals first | contradiction | skip
    rename_i q2
    cases q2
    simp only [Bool.and_eq_true, Bool.not_eq_true'] at h
    obtain ⟨⟨⟨⟨hh, h1⟩, h2⟩, h3⟩, h4⟩ := h
    have hN : X.N.Nodup := by rw [C.e.nam]; exact C.e.nd
    have hc := (C.e.cold hh).1
    exact ds_congr (ds_for (C.po hh) hc (chIt_ok it false C.e h3) (tg_ok C.e.K hN hc C.nm g h1) (chSs_ok b C h4) (fold_pl h2)) fun a hh => by simp only [evS] <;> rfl
  | .ret e, hot, T, Wx, X, st, C, h => by
    unfold chS at h
    split at h
    all_goals first | contradiction | skip
    rename_i q2
    cases q2
    exact ds_congr (ds_ret (chE_ok e C.e h).de) fun a hh => by simp only [evS] <;> rfl
  | .retN, hot, T, Wx, X, st, C, h => by
    unfold chS at h
    split at h
    all_goals first | contradiction | skip
    exact ds_congr ds_retN fun a hh => by simp only [evS] <;> rfl
  | .retM i, hot, T, Wx, X, st, C, h => by
    unfold chS at h
    split at h
    all_goals first | contradiction | skip
    rename_i q2
    cases q2
    have r := rd_ok C.e h
    exact ds_congr (ds_retM r.at_ r.vis r.d1 r.d2) fun a hh => by simp only [evS] <;> rfl
  | .raise c es, hot, T, Wx, X, st, C, h => by
    unfold chS at h
    split at h
    all_goals first | contradiction | skip
    · rename_i q2
      cases q2
      simp only [Bool.and_eq_true, decide_eq_true_eq, Bool.not_eq_true'] at h
      obtain ⟨⟨⟨hh, h1⟩, rfl⟩, h2⟩ := h
      obtain ⟨g1, g2, _⟩ := gl_ok C.e h1
      obtain ⟨hc, F, _⟩ := C.e.cold hh
      obtain ⟨x1, x2⟩ := C.e.gb.gx.x0 c h2
      exact ds_congr (ds_raise hc C.e.tk (pmk_no C.e.K x2 g1 (C.e.gb.xn c x1) g2)) fun a hh => by simp only [evS, evEs] <;> rfl
    · rename_i z q xs q3 pos _ q2
      cases q2
      simp only [Bool.and_eq_true, decide_eq_true_eq, Bool.not_eq_true'] at h
      obtain ⟨⟨⟨⟨⟨⟨⟨⟨hh, h1⟩, rfl⟩, h2⟩, h3⟩, h4⟩, h5⟩, h6⟩, h7⟩ := h
      obtain ⟨g1, g2, _⟩ := gl_ok C.e h1
      obtain ⟨hc, F, _⟩ := C.e.cold hh
      obtain ⟨x1, x2⟩ := C.e.gb.xc c h2
      obtain ⟨a1, a2⟩ := args_ok h5
      cases xs with
      | nil => exact absurd h6 (by simp)
      | cons y ys =>
        have a1' := a1
        rw [List.all_cons, Bool.and_eq_true] at a1'
        exact ds_congr (ds_raise hc C.e.tk (pmk_sup C.e.K x2 (fun a hp l h' e => by rw [evEs_len e]; exact h3) g1 (C.e.gb.xn c x1) (C.e.gb.bn _ (by simpa using h4)) F.room g2 (chEs_ok es C.e h7 a1).1 a1'.1 a1'.2)) fun a hh => by simp only [evS] <;> rfl
  | .tryx b hs, hot, T, Wx, X, st, C, h => by
    unfold chS at h
    split at h
    all_goals first | contradiction | skip
    rename_i q2
    cases q2
    simp only [Bool.and_eq_true, Bool.not_eq_true'] at h
    obtain ⟨⟨hh, h1⟩, h2⟩ := h
    have hN : X.N.Nodup := by rw [C.e.nam]; exact C.e.nd
    exact ds_congr (ds_try C.st C.fr hN C.e.tk (fun W pn xe tk po => chSs_ok b (C.tr hh tk po) h1) (chHs_ok hs C h2)) fun a hh => by simp only [evS] <;> rfl
  | .pass, hot, T, Wx, X, st, C, h => by
    unfold chS at h
    split at h
    all_goals first | contradiction | skip
    exact ds_congr ds_pass fun a hh => by simp only [evS] <;> rfl
  | .frz i s, hot, T, Wx, X, st, C, h => by
    have h : chS t p N sc hot s st = true := by
      unfold chS at h
      exact h
    exact ds_congr (ds_frz (i := i) (chS_ok s C h)) fun a hh => by simp only [evS] <;> rfl
theorem chSs_ok : ∀ (ss : Ss) {hot : Bool} {T : Tb} {Wx : WX} {X : Cx} {st : List Stmt}, CxS T p t fdt Ns ps n Wx X N sc hot → chSs t p N sc hot ss st = true → DSs T Wx X st (fun a h => evSs (p.g n) ss a h)
  | .nil, hot, T, Wx, X, [], C, h => by
    have e : (fun a h => evSs (p.g n) .nil a h) = fun a h => RS.nx a h := by funext a h; simp only [evSs]
    rw [e]; exact dss_nil
  | .cons s r, hot, T, Wx, X, x :: xs, C, h => by
    unfold chSs at h
    rw [Bool.and_eq_true] at h
    have e : (fun a h => evSs (p.g n) (.cons s r) a h) = fun a h => (evS (p.g n) s a h).seq fun a h => evSs (p.g n) r a h := by funext a h; simp only [evSs]
    rw [e]; exact dss_cons (chS_ok s C h.1) (chSs_ok r C h.2)
  | .nil, hot, T, Wx, X, x :: xs, C, h => by unfold chSs at h; exact absurd h Bool.false_ne_true
  | .cons s r, hot, T, Wx, X, [], C, h => by unfold chSs at h; exact absurd h Bool.false_ne_true
theorem chHs_ok : ∀ (hs : Hs) {hot : Bool} {T : Tb} {Wx : WX} {X : Cx} {l : List ExceptHandler}, CxS T p t fdt Ns ps n Wx X N sc hot → chHs t p N sc hs l = true → DHs T (p.g n) X l hs
  | .nil, hot, T, Wx, X, [], C, h => .nil
  | .nil, hot, T, Wx, X, x :: xs, C, h => by unfold chHs at h; exact absurd h Bool.false_ne_true
  | .cons k x b r, hot, T, Wx, X, l, C, h => by
    unfold chHs at h
    split at h
    all_goals first | contradiction | skip
    rename_i z q nm b0 bs pos hs q2
    cases q2
    simp only [Bool.and_eq_true, decide_eq_true_eq] at h
    obtain ⟨⟨⟨⟨⟨h1, rfl⟩, h2⟩, h3⟩, h4⟩, h5⟩ := h
    obtain ⟨g1, g2, _⟩ := gl_ok C.e h1
    have nmz : Names X (t.xname k) (.ref (T.xcls k)) := ⟨g1, g2, .inl (C.e.gb.xn k h2)⟩
    have ex : ∀ c v, (p.g n).sub c k = some v → PySem.W.exmOne X.K (.ref (T.xcls c)) (.ref (T.xcls k)) = some v := fun c v e => by rw [C.e.K]; exact C.e.gb.ex c k v e
    cases x with
    | none =>
      cases nm with
      | none => exact .bare nmz ex (fun a oe c d pn z f => chSs_ok b (C.su z f) h4) (chHs_ok r C h5)
      | some m => cases h3
    | some i =>
      cases nm with
      | none => cases h3
      | some m =>
        simp only [Bool.and_eq_true, decide_eq_true_eq] at h3
        exact .as nmz ex (by rw [C.e.nam]; exact h3.1) (by show X.env.scope.names.lookup m = _; rw [C.e.esc]; exact h3.2) (fun a oe c d pn z f => chSs_ok b (C.su z f) h4) (chHs_ok r C h5)
end
end
end Ev
end
section
set_option Elab.async false
set_option linter.all false
set_option maxRecDepth 100000
set_option maxHeartbeats 8000000
/-! Ev, part Z: all defs of a law, and its end. -/
namespace Ev
open PySem PySem.Spec PyProof.Rows L2
/-- a def of the text -/
structure DfOk (T : Tb) (p : P) (t : Tt) (Ns ps : Nat → List PySem.Str) (fdt : Nat → FuncData) (f : Nat) (b : Fd) : Prop where
  ex : ∃ (x qual : PySem.Str) (st : Stmt), Fun T.K x qual st (T.fnA f) (fdt f) ∧ FnScope (Ns f) (ps f) (defScope st) ∧ (ps f).length = b.modes.length ∧ chSs t p (Ns f) (defScope st) false b.body (defBody st) = true
  bd : Binds T.K (fdt f) (ps f) []
section
variable {T : Tb} {p : P} {t : Tt} {fdt : Nat → FuncData} {Ns ps : Nat → List PySem.Str} {prog : Program} {wd : World} {mg : PySem.Str → Option Value}
theorem all_fns {base : Heap} (gb : Gb T p t Ns mg prog) (hx : T.xa = none) (df : ∀ f b, p.fns[f]? = some b → DfOk T p t Ns ps fdt f b) : ∀ n f, f < p.fns.length → FnG prog wd T.K mg base (L2.CX prog wd) (2 * n) (T.fnA f) (fdt f) (ps f) (spEv T p Ns n f)
  | 0, f, hf => fn_zero
  | n + 1, f, hf => by
    have hb : p.fns[f]? = some p.fns[f] := List.getElem?_eq_getElem hf
    obtain ⟨x, qual, st, F, S, hl, ch⟩ := (df f _ hb).ex
    refine fn_step hb F S hl fun cdv A outer s H E hr hg => chSs_ok (fdt := fdt) (Ns := Ns) (ps := ps) _ ?_ ch
    have tab : FnTab T p fdt Ns ps n (cxOf (L2.CX prog wd) prog wd T.K mg base (Ns f) qual (defScope st) (T.fnA f) cdv A outer s H E) := {
      fn := fun f' hf' => all_fns gb hx df n f' hf'
      bd := fun f' hf' => (df f' _ (List.getElem?_eq_getElem hf')).bd
      kp := fun f' hf' => by
        obtain ⟨x', q', st', F', _⟩ := (df f' _ (List.getElem?_eq_getElem hf')).ex
        exact F'.kp
      ns := fun f' b' e => (gb.md f' b' e).1
      room := hr
      gd := hg }
    exact {
      e := {
        K := rfl
        gb := gb
        tk := takes_of (X := cxOf (L2.CX prog wd) prog wd T.K mg base (Ns f) qual (defScope st) (T.fnA f) cdv A outer s H E) rfl rfl rfl rfl
        esc := rfl
        kind := S.kind
        nam := rfl
        nd := S.nd
        xf := xfr_none hx
        xi := xir_none hx
        un := by
          have := hr.un
          show (A.deeper _).units + 70 < cLine
          omega
        gd := hg
        cold := fun _ => ⟨rfl, tab, hx⟩ }
      nm := fun i z h => by
        unfold nmB at h
        rw [Bool.and_eq_true] at h
        refine ⟨of_decide_eq_true h.1, ?_, .inl rfl⟩
        show L2.Loc (defScope st) z
        unfold L2.Loc
        split at h
        · exact .inl (by assumption)
        · exact .inr (by assumption)
        · exact absurd h.2 Bool.false_ne_true
      st := rfl
      fr := rfl
      po := fun _ => passes_of rfl }
/-- the law's own promise, from what its tree computes -/
theorem law_sp {n f : Nat} {b : Fd} {most : Nat} (hb : p.fns[f]? = some b) (hm : b.modes = [.pu]) (hi : b.init = false) (hN : (Ns f).length = b.nslots) (hn : 1 ≤ b.nslots) (hrun : ∀ ns : List Int, ns.length ≤ most → ∃ h', p.run n f [.zst (ns.map .int)] [] = .ok (.bl true) false h')
    (H : Hp) (a : Addr) (ns : List Int) (hl : ns.length ≤ most) (hS : SqL T.K H a (ns.map V.int)) : spEv T p Ns n f [.ref a] H (fun v _ => v = .bl true) (fun _ _ _ => False) := by
  obtain ⟨h', hr⟩ := hrun ns hl
  refine ⟨b, ⟨fun _ => none, H, H, H, [], [], none⟩, [.zst (ns.map .int)], hb, rfl, ⟨fun _ _ e => e, fun _ _ e => (nomatch e), fun _ _ e => .inl e, fun _ _ e => e, fun _ h => (nomatch h), rfl, .nil, fun n p d e => (by simp at e)⟩, rfl, by rw [hm]; rfl, ?_, fun z => (by rw [hi] at z; cases z), ?_⟩
  · refine slots_ok (Ns f) hN rfl (by rw [hm]; rfl) (by simpa using hn) (fun i s v e1 e2 => ?_) (fun i j d e q e1 => ?_) (fun d x e _ => (nomatch e))
    · rw [hm] at e1
      cases i with
      | succ i => simp at e2
      | zero =>
        simp at e1 e2
        subst e1 e2
        have fl : FzL T ([] : List Addr) H (ns.map V.int) (ns.map D.int) := FzL.map (fun i => .int i) ns
        exact ⟨_, rfl, .zst hS fl.1 fl.2⟩
    · rw [hm] at e1
      cases i with
      | succ i => simp at e1
      | zero => simp [slotOf] at e1
  · rw [show (⟨fun _ => none, H, H, H, [], [], none⟩ : Wo).hh = [] from rfl, hr, hi]
    intro v w' le e1 R' rt
    have rt : Fz T w'.m w'.F v (.bl true) := rt
    cases rt
    rfl
end
/-! ### the end: the law's def, called by the claim -/
theorem law_callG {Pg : Program} {wd : World} {K : PySem.W.Frag} {mg mb : PySem.Str → Option Value} {C : CXT} {k : Nat} {fa a : Addr} {fd : FuncData} {x : PySem.Str} {sp : Sp} {s1 : Shared} {vs : List Value} {ns : List Int} (inK : K.In s1.heap) (gl : s1.heap.Ns mainGlobals mg) (bl : s1.heap.Ns builtinsNs mb)
    (blb : ∀ x : PySem.Str, x ≠ "__name__" → mb x = bootBuiltins x) (nl : s1.heap.NoLimit) (gens : s1.gens = #[]) (obj : s1.heap.get? a = some { cls := .type "list", data := .seq vs.toArray }) (iAre : IntsAre vs ns) (few : ns.length ≤ sizeLine) (room : Room k callerA)
    (F : ∀ base : Heap, K.In base → base.Ns mainGlobals mg → FnG Pg wd K mg base C k fa fd [x] sp) (bind : ∀ (s : Shared) (u : Value), BindsTo s fd ⟨[u], []⟩ [(x, u)]) (spH : ∀ H : Hp, Only H → SqL K H a (ns.map V.int) → sp [.ref a] H (fun v _ => v = .bl true) fun _ _ _ => False)
    (noC : ∀ H e s', C [] H s1 (fun _ _ _ => False) e s' → False) : codeAny (model Pg wd) callerA (.call (.ref fa) ⟨[.ref a], []⟩) (fun r s' => r = .ok (.ret (.bool true)) ∧ OldK s1.heap s'.heap ∧ s'.os = s1.os ∧ AllBare s'.gens) s1 := by
  have go : ∀ H : Hp, Only H → SqL K H a (ns.map V.int) → HOk Pg wd H s1.heap → (∀ b, H b ≠ none → b = a) → (H a ≠ none → K.lookup a = none) → codeAny (model Pg wd) callerA (.call (.ref fa) ⟨[.ref a], []⟩) (fun r s' => r = .ok (.ret (.bool true)) ∧ OldK s1.heap s'.heap ∧ s'.os = s1.os ∧ AllBare s'.gens) s1 := by
    intro H only sq hok just notK
    have isA : ∀ {b u}, H b = some u → b = a := fun {b u} e => just b (by rw [e]; exact fun z => nomatch z)
    have dictN : ∀ {b : Addr} {o : Obj} {es : Array DictEntry} {ep : Nat}, s1.heap.get? b = some o → o.data = .dict es ep → H b = none := fun {b o es ep} e d => by
      cases q : H b with
      | none => rfl
      | some u =>
        obtain rfl := isA q
        rw [obj] at e
        cases e
        exact nomatch (show Data.seq vs.toArray _ = Data.dict es ep from d)
    have ns' : ∀ {b : Addr} {m : PySem.Str → Option Value}, s1.heap.Ns b m → (hidT s1.heap H).Ns b m := fun {b m} ⟨o, es, ep, e, d, r⟩ => ⟨o, es, ep, hidT_get e (dictN e d), d, r⟩
    have kB : K.In (hidT s1.heap H) := fun b o e => hidT_get (inK b o e) (by
      cases q : H b with
      | none => rfl
      | some u =>
        obtain rfl := isA q
        rw [notK (by rw [q]; exact fun z => nomatch z)] at e
        cases e)
    have md : Mod K mg (hidT s1.heap H) := by
      obtain ⟨mc, c1, c2⟩ := nl
      exact ⟨kB, ns' gl, ⟨mb, ns' bl, blb⟩, ⟨mc, ns' c1, c2⟩⟩
    have en : Env0 Pg wd K mg (hidT s1.heap H) callerA [] s1 H := ⟨rfl, md, fun b o e => of_hidT e, Nat.le_of_eq (hidT_size _ _), trivial, fun b hb => (nomatch (show b ∈ ([] : List Addr) from hb)), hok, .of_eq gens⟩
    have run := (F _ kB (ns' gl)).run callerA [] s1 H ⟨[.ref a], []⟩ [.ref a] [.ref a] _ _ room rfl en (bind s1 (.ref a)) (.cons rfl .nil) (spH H only sq)
    refine codeAny_mono run fun out s2 o => ?_
    match out, o with
    | .error e, o => exact (noC H e s2 o).elim
    | .ok .next, o => exact o.elim
    | .ok .brk, o => exact o.elim
    | .ok .cont, o => exact o.elim
    | .ok (.ret u), ⟨v, H2, os2, bare2, un2, hok2, rv, q2⟩ =>
      obtain rfl : v = .bl true := q2
      obtain rfl : u = Value.bool true := rv
      refine ⟨rfl, OldK.of_keep fun b o e => ?_, os2, bare2⟩
      rcases only b with z | ⟨ob, xs, z⟩
      · exact un2.keep b o e z (fun h => nomatch h) (fun h => nomatch h)
      · obtain ⟨e1, _⟩ := hok b _ z
        obtain ⟨e2, _⟩ := hok2 b _ (un2.frzs b ob _ z)
        rw [e] at e1
        cases e1
        exact e2
  have valsS := vals_ints iAre
  have lenS := iAre.length
  cases hk : K.lookup a with
  | none =>
    refine go (fun b => if b = a then some (.frz { cls := .type "list", data := .seq vs.toArray } (.lst (ns.map V.int))) else none) (fun b => ?_) (.inl (.inr ⟨{ cls := .type "list", data := .seq vs.toArray }, if_pos rfl⟩)) (fun b u z => ?_) (fun b z => ?_) fun _ => hk
    · by_cases h : b = a
      · exact .inr ⟨_, _, if_pos h⟩
      · exact .inl (if_neg h)
    · by_cases h : b = a
      · subst h
        have z := (if_pos rfl).symm.trans z
        cases z
        exact ⟨obj, (by rw [List.length_map]; exact few), vs, _, valsS, obj⟩
      · exact nomatch (if_neg h).symm.trans z
    · by_cases h : b = a
      · exact h
      · exact absurd (if_neg h) z
  | some o =>
    have e := inK a o hk
    rw [obj] at e
    cases e
    exact go (fun _ => none) (fun _ => .inl rfl) (.inr ⟨_, vs.toArray, _, hk, rfl, rfl, rfl, by rw [List.size_toArray, lenS]; exact few, by simpa using valsS⟩) (fun b u z => nomatch z) (fun b z => absurd rfl z) fun z => absurd rfl z
theorem walk_ofG {l : PySem.W.OpenLaw} {n k : Nat} {q : Program} {loose : List PySem.Str} {XP : (PySem.Str → Option Value) → Heap → Prop} {YP : World → Heap → Prop} {d : DefRec} {C : World → CXT} {x : PySem.Str} (hn : l.most = some n) (hn2 : n ≤ sizeLine) (hdf : d.params.defaults = []) (room : Room k callerA)
    (F : ∀ (w : World) (mg : PySem.Str → Option Value) (fa : Addr) (h : Heap), YP w h → h.Ns mainGlobals mg → mg d.name = some (.ref fa) → ∃ (K : PySem.W.Frag) (fd : FuncData) (sp : Sp), K.In h ∧ (∀ (s : Shared) (u : Value), BindsTo s fd ⟨[u], []⟩ [(x, u)]) ∧
      (∀ (H : Hp) (a : Addr) (ns : List Int), ns.length ≤ n → Only H → SqL K H a (ns.map V.int) → sp [.ref a] H (fun v _ => v = .bl true) fun _ _ _ => False) ∧ ∀ base : Heap, K.In base → base.Ns mainGlobals mg → FnG l.prog w K mg base (C w) k fa fd [x] sp)
    (noC : ∀ (w : World) (H : Hp) (s : Shared) (e : Value) (s' : Shared), C w [] H s (fun _ _ _ => False) e s' → False) : PySem.W.WalkO q loose XP YP l.row.toRowW d [] (fun f vs => PySem.call f vs) := by
  refine Att.attach_call hn hdf fun w s0 s1 mg mb fa o pm cd doc a vs ns G Y ho hd hcd hmg obj iAre few gens => ?_
  obtain ⟨K, fd, sp, inK, bind, spH, hF⟩ := F w mg fa _ Y G.T.g hmg
  exact law_callG inK G.T.g G.T.b G.T.builtins G.T.nolimit gens obj iAre (Nat.le_trans few hn2) room hF bind (fun H only sq => spH H a ns few only sq) fun H e s' => noC w H s1 e s'
end Ev
end
section
set_option Elab.async false
set_option linter.all false
set_option maxRecDepth 100000
set_option maxHeartbeats 4000000
/-! Ev, part Hk: the head's facts, own exceptions among them. -/
namespace Ev
open PySem PySem.Spec PyProof.Rows L2
/-- an own exception of the text: its name, its __init__ -/
structure XcD where
  nm : PySem.Str
  slf : PySem.Str
  ps : List PySem.Str
  fl : List (PySem.Str × PySem.Str)
  iname : PySem.Str
  iqual : PySem.Str
  params : Arguments
  body : List Stmt
  scope : Scope
def iA (K : PySem.W.Frag) (d : XcD) : Addr := He.ma K (He.ga K d.nm) "__init__"
abbrev FnX : Type := Option (PySem.Str × PySem.Str × Arguments × FuncBody × Scope × Addr × Value × Value × Addr)
def fnX (K : PySem.W.Frag) (d : XcD) : FnX := match K.lookup (iA K d) with
  | some ⟨_, _, .func fd, _⟩ => some (fd.name, fd.qualname, fd.params, fd.body, fd.scope, fd.globals, fd.defaults, fd.kwdefaults, fd.builtins)
  | _ => none
def XcD.val (d : XcD) : FnX := some (d.iname, d.iqual, d.params, .stmts d.body, d.scope, mainGlobals, .none, .none, builtinsNs)
def closB (K : PySem.W.Frag) (C : Addr) : List (PySem.Str × Addr) → Bool
  | [(x, cc)] => decide (x = "__class__") && (match K.lookup cc with
    | some ⟨_, _, .cell (some (.ref D)), _⟩ => decide (D = C)
    | _ => false)
  | _ => false
def codeB (K : PySem.W.Frag) (file qual : PySem.Str) : Value → Bool
  | .ref cda => PySem.W.codeIn K (.ref cda) qual && (match K.lookup cda with
    | some ⟨_, _, .fields vs, _⟩ => (match (vs[2]? : Option Value) with
      | some (.str f _) => file == f
      | _ => false)
    | _ => false)
  | _ => false
def oexB (K : PySem.W.Frag) (C : Addr) : Bool := match K.lookup C with
  | some ⟨.type c, _, .cls cd, ⟨[_, _, _, _, some (.builtin i), _]⟩⟩ => decide (c = "type") && decide (i = "ValueError.__new__") && (match cd.mro with
    | .ref D :: bm => decide (D = C) && PySem.HandSPX.refsVE bm
    | _ => false) && cd.hasDict && !cd.hasDel
  | _ => false
def fnB (K : PySem.W.Frag) (file : PySem.Str) (d : XcD) : Bool := match K.lookup (iA K d) with
  | some ⟨_, _, .func fd, _⟩ => codeB K file d.iqual fd.code && closB K (He.ga K d.nm) fd.closure
  | _ => false
def xcB (file : PySem.Str) (K : PySem.W.Frag) (d : XcD) : Bool :=
  oexB K (He.ga K d.nm) && (fnB K file d && (decide (PySem.W.findIn K (.ref (He.ga K d.nm)) "__setattr__" = some (some (.builtin "object.__setattr__"))) && (decide (PySem.W.subIn K (.ref (He.ga K d.nm)) (.type "BaseException") = some true) && (decide (PySem.W.typeIn K (.ref (He.ga K d.nm)) = some (.type "type")) &&
  (PySem.W.keepIn K (.ref (He.ga K d.nm)) && (decide (PySem.W.findIn K (.ref (He.ga K d.nm)) "__init__" = some (some (.ref (iA K d)))) && (decide (PySem.W.typeIn K (.ref (iA K d)) = some (.type "function")) && (decide (PySem.W.nsIn K cStatics "thirdparty.any" = some none) &&
  (decide (PySem.W.ks_superIn K (He.ga K d.nm) (He.ga K d.nm) "__init__" = some (some (.builtin "ValueError.__init__"))) && (decide (PySem.W.subIn K (.ref (He.ga K d.nm)) (.type "ValueError") = some true) && (decide (PySem.W.mroIn K (He.ga K d.nm) (.ref (He.ga K d.nm)) = some true) &&
  ((d.fl.all fun p => decide (PySem.W.findIn K (.ref (He.ga K d.nm)) p.1 = some none)) && xfB K (He.ga K d.nm)))))))))))))
section
variable {K : PySem.W.Frag} {file : PySem.Str}
theorem oexB_ok {C : Addr} (h : oexB K C = true) : ∃ nm q N bs bm sn sub ab col dd k0 k1 k2 k3 k5, K.lookup C = some (excClassObj nm q C N bs bm true sn sub ab col dd k0 k1 k2 k3 k5 "ValueError.__new__") ∧ PySem.HandSPX.refsVE bm = true := by
  unfold oexB at h
  split at h
  · rename_i c dd cd k0 k1 k2 k3 i k5 e
    simp only [Bool.and_eq_true, decide_eq_true_eq, Bool.not_eq_true'] at h
    obtain ⟨⟨⟨⟨rfl, rfl⟩, h3⟩, h4⟩, h5⟩ := h
    obtain ⟨nm, bs, mro, ns, qn, hd, sn, sub, ab, col, del⟩ := cd
    dsimp only at h3 h4 h5
    split at h3
    · rename_i D bm
      simp only [Bool.and_eq_true, decide_eq_true_eq] at h3
      obtain ⟨rfl, h3⟩ := h3
      subst h4 h5
      exact ⟨nm, qn, ns, bs, bm, sn, sub, ab, col, dd, k0, k1, k2, k3, k5, e, h3⟩
    · cases h3
  · cases h
/-- what the text alone says of such a class -/
structure XcT (prog : Program) (file : PySem.Str) (d : XcD) : Prop where
  file : ((prog.main.file : PySem.Str) == file) = true
  ks : d.scope.names.lookup ("super" : PySem.Str) = some .globalImplicit
  kc : d.scope.names.lookup ("__class__" : PySem.Str) = some .free
  kl : ∀ x ∈ d.slf :: d.ps, d.scope.names.lookup x = some .local ∧ (x == ("__debug__" : PySem.Str)) = false
  nc : ∀ x ∈ d.scope.names, x.2 ≠ .cell
  co : d.scope.isCoroutine = false
  gen : d.scope.isGenerator = false
  kind : d.scope.kind = .function
  ar : ∃ ar, (d.params.posonlyargs ++ d.params.args).head? = some ar ∧ ar.arg = d.slf
  bind : ∀ (pm ct doc : Value) (an : Option Addr) (cda cc : Addr) (us : List Value), us.length = d.ps.length + 1 → bindArgs (PySem.W.ksFn d.iname d.iqual d.params d.body d.scope .none .none doc pm an (.ref cda) ct cc) ⟨us, []⟩ = pure ((d.slf :: d.ps).zip us)
  init : InitT d.body d.slf d.ps d.fl
  nd : (d.slf :: d.ps).Nodup
  few : d.ps.length < 20 ∧ d.fl.length ≤ 20
  sub : ∀ p ∈ d.fl, p.2 ∈ d.ps
  htop : (prog.main.scope.names.lookup ("super" : PySem.Str)).isSome = false
theorem xcB_ok {prog : Program} {d : XcD} (t : XcT prog file d) (e : fnX K d = d.val) (h : xcB file K d = true) : SupC prog K (He.ga K d.nm) (iA K d) d.slf d.ps d.fl ∧ XfC K (He.ga K d.nm) := by
  unfold xcB at h
  simp only [Bool.and_eq_true, decide_eq_true_eq, List.all_eq_true] at h
  obtain ⟨h1, h2, h3, h4, h5, h6, h7, h8, h9, h10, h11, h12, h13, h14⟩ := h
  refine ⟨⟨⟨oexB_ok h1, h3, h4, h5, h6⟩, h7, h8, h9, h10, h11, h12, ?_, h13, t.nd, t.few, t.sub, t.htop⟩, xfB_ok h14⟩
  unfold fnX at e
  unfold fnB at h2
  cases q : K.lookup (iA K d) with
  | none => rw [q] at h2; cases h2
  | some o =>
    obtain ⟨oc, od, dt, osl⟩ := o
    rw [q] at h2 e
    cases dt with
    | func fd =>
      obtain ⟨n1, n2, n3, n4, n5, n6, n7, n8, n9, n10, n11, n12, n13, n14, n15⟩ := fd
      have e2 : (some (n1, n2, n3, n4, n5, n6, n8, n9, n15) : FnX) = some (d.iname, d.iqual, d.params, .stmts d.body, d.scope, mainGlobals, .none, .none, builtinsNs) := e
      simp only [Option.some.injEq, Prod.mk.injEq] at e2
      obtain ⟨r1, r2, r3, r4, r5, r6, r7, r8, r9⟩ := e2
      subst r1 r2 r3 r4 r5 r6 r7 r8 r9
      dsimp only at h2
      rw [Bool.and_eq_true] at h2
      obtain ⟨c1, c2⟩ := h2
      unfold codeB at c1
      split at c1
      · rename_i cda
        rw [Bool.and_eq_true] at c1
        obtain ⟨c3, c4⟩ := c1
        unfold closB at c2
        split at c2
        · rename_i x cc
          simp only [Bool.and_eq_true, decide_eq_true_eq] at c2
          obtain ⟨rfl, c5⟩ := c2
          obtain ⟨ar, a1, a2⟩ := t.ar
          refine ⟨_, _, _, _, _, _, _, _, _, _, _, _, _, cda, cc, _, ar, rfl, c3, ?_, ?_, t.ks, t.kc, t.kl, t.nc, t.co, t.gen, t.kind, a1, a2, fun us hl => t.bind _ _ _ _ _ _ us hl, t.init⟩
          · split at c4
            · rename_i vs _ e3
              split at c4
              · rename_i f tk e4
                refine ⟨_, _, vs, _, f, tk, e3, e4, ?_⟩
                rw [← eq_of_beq c4]
                exact t.file
              · cases c4
            · cases c4
          · split at c5
            · rename_i D _ e3
              have := of_decide_eq_true c5
              subst this
              exact ⟨_, _, _, e3⟩
            · cases c5
        · cases c2
      · cases c1
    | _ => cases h2
end
/-! ### the hook -/
def asX (g : Addr → Option Obj) : Nat → List Addr
  | 0 => [mainGlobals, cStatics]
  | n + 1 => He.growD g (asX g n)
abbrev AlX : Type := He.AlD × Bool × List FnX
def obsX (file : PySem.Str) (fa : List He.Fa) (fn : List He.DefD) (xs : List XcD) (ex : PySem.W.Frag → Bool) (K : PySem.W.Frag) : AlX := (He.obsD fa fn K, (xs.all fun d => xcB file K d) && ex K, xs.map fun d => fnX K d)
def valX (fn : List He.DefD) (xs : List XcD) : AlX := (He.valD fn, true, xs.map XcD.val)
def SaysX (file : PySem.Str) (fa : List He.Fa) (fn : List He.DefD) (xs : List XcD) (ex : PySem.W.Frag → Bool) (K : PySem.W.Frag) : Prop := obsX file fa fn xs ex K = valX fn xs
def obsXG (n : Nat) (file : PySem.Str) (fa : List He.Fa) (fn : List He.DefD) (xs : List XcD) (ex : PySem.W.Frag → Bool) (g : Addr → Option Obj) : AlX := obsX file fa fn xs ex (He.frG g (asX g n))
def hookX (n : Nat) (file : PySem.Str) (fa : List He.Fa) (fn : List He.DefD) (xs : List XcD) (ex : PySem.W.Frag → Bool) : PySem.W.Hook where
  α := AlX
  obs := fun s => obsXG n file fa fn xs ex s.heap.get?
  val := fun _ => valX fn xs
  says := fun _ h => ∃ K : PySem.W.Frag, K.In h ∧ SaysX file fa fn xs ex K
  of := fun _ _ e => ⟨_, He.frG_in, e⟩
  keeps := fun _ _ _ ⟨K, hK, c⟩ k => ⟨K, PySem.W.Frag.In.keeps hK k, c⟩
theorem obsXG_eq {n : Nat} {file : PySem.Str} {fa : List He.Fa} {fn : List He.DefD} {xs : List XcD} {ex : PySem.W.Frag → Bool} {g : Addr → Option Obj} {s : Shared} (h : ∀ a, g a = s.heap.get? a) : obsXG n file fa fn xs ex g = (hookX n file fa fn xs ex).obs s := by
  have e : g = s.heap.get? := funext h
  rw [e] <;> rfl
section
variable {file : PySem.Str} {fa : List He.Fa} {fn : List He.DefD} {xs : List XcD} {ex : PySem.W.Frag → Bool} {K : PySem.W.Frag}
theorem SaysX.base (c : SaysX file fa fn xs ex K) : He.SaysD fa fn K := congrArg (fun z : AlX => z.1) c
theorem SaysX.more (c : SaysX file fa fn xs ex K) : ex K = true := (He.ba (show ((xs.all fun d => xcB file K d) && ex K) = true from congrArg (fun z : AlX => z.2.1) c)).2
theorem SaysX.exc (c : SaysX file fa fn xs ex K) (i : Nat) {d : XcD} (h : xs[i]? = some d) : fnX K d = d.val ∧ xcB file K d = true := by
  have c1 := (He.ba (show ((xs.all fun d => xcB file K d) && ex K) = true from congrArg (fun z : AlX => z.2.1) c)).1
  have e : xs.map (fun d => fnX K d) = xs.map XcD.val := congrArg (fun z : AlX => z.2.2) c
  have e2 : (xs.map fun d => fnX K d)[i]? = (xs.map XcD.val)[i]? := by rw [e]
  rw [List.getElem?_map, List.getElem?_map, h] at e2
  exact ⟨Option.some.inj e2, List.all_eq_true.mp c1 d (List.mem_of_getElem? h)⟩
end
end Ev
end
section
set_option Elab.async false
set_option linter.all false
set_option maxRecDepth 100000
set_option maxHeartbeats 4000000
/-! Ev, part Jn: from the head's facts to a def of ours. -/
namespace Ev
open PySem PySem.Spec PyProof.Rows L2
theorem fun_of {K : PySem.W.Frag} {x qual : PySem.Str} {st : Stmt} {f : Addr} {fd : FuncData} (F : FunD K x qual (defArgs st) (defBody st) (defScope st) [] [] f fd) : Fun K x qual st f fd := by
  obtain ⟨oc, od, dV, kV, doc, pm, an, cdv, ct, osl, e, lk, hc, hD, _⟩ := F.ex
  rcases hD with ⟨_, rfl⟩ | ⟨z, _⟩
  · exact ⟨⟨oc, od, kV, doc, pm, an, cdv, ct, osl, e, lk, hc⟩, F.kp⟩
  · exact absurd rfl z
theorem says_fact {K : PySem.W.Frag} {fa : List He.Fa} {fn : List He.DefD} (c : He.SaysD fa fn K) {f : He.Fa} (h : f ∈ fa) : f.ok K = true := by
  obtain ⟨i, hi⟩ := List.getElem?_of_mem h
  exact c.fact i hi
/-- the function objects, chosen -/
theorem fds {K : PySem.W.Frag} {fa : List He.Fa} {fn : List He.DefD} (c : He.SaysD fa fn K) : ∃ fdt : Nat → FuncData, ∀ (i : Nat) (d : He.DefD), fn[i]? = some d → FunD K d.name d.qual d.params d.body d.scope (d.dvs K) (d.kws K) (He.fAd K d.at_) (fdt i) := by
  have h : ∀ i : Nat, ∃ fd : FuncData, ∀ d : He.DefD, fn[i]? = some d → FunD K d.name d.qual d.params d.body d.scope (d.dvs K) (d.kws K) (He.fAd K d.at_) fd := fun i => by
    cases e : fn[i]? with
    | none => exact ⟨PySem.W.fnOf "" "" ⟨[], [], none, [], [], none, []⟩ [] ⟨.function, [], false, false, []⟩ .none .none .none .none none .none .none, fun d z => (nomatch z)⟩
    | some d =>
      obtain ⟨fd, F⟩ := c.def_ i e
      exact ⟨fd, fun d' z => by cases z; exact F⟩
  exact ⟨fun i => Classical.choose (h i), fun i => Classical.choose_spec (h i)⟩
/-- the table of a text -/
def tbOf (K : PySem.W.Frag) (cnm : List PySem.Str) (fls : List (List PySem.Str)) (ats : List (PySem.Str × Option PySem.Str)) (xnm : List PySem.Str) (xfs : List (List PySem.Str)) : Tb :=
  ⟨K, fun c => He.ga K (cnm.getD c ""), fun c => fls.getD c [], fun f => He.fAd K (ats.getD f ("", none)), fun c => He.ga K (xnm.getD c ""), fun c => xfs.getD c [], none⟩
theorem xcOk_of {K : PySem.W.Frag} {prog : Program} {file : PySem.Str} {d : XcD} {T : Tb} {c n : Nat} (hK : T.K = K) (t : XcT prog file d) (e : fnX K d = d.val) (h : xcB file K d = true) (hc : T.xcls c = He.ga K d.nm) (h1 : d.fl.map (·.1) = T.xflds c) (h2 : d.fl.map (·.2) = d.ps) (h3 : d.fl ≠ []) (h4 : (T.xflds c).Nodup) (h5 : d.ps.length = n) : XcOk T prog c n := by
  subst hK
  obtain ⟨S, _⟩ := xcB_ok t e h
  rw [← hc] at S
  exact ⟨_, _, _, _, S, h1, h2, h3, h4, h5⟩
theorem xf_of {K : PySem.W.Frag} {prog : Program} {file : PySem.Str} {d : XcD} {T : Tb} {c j : Nat} {z : PySem.Str} (hK : T.K = K) (t : XcT prog file d) (e : fnX K d = d.val) (h : xcB file K d = true) (hc : T.xcls c = He.ga K d.nm) (h1 : d.fl.map (·.1) = T.xflds c) (h4 : (T.xflds c).Nodup) (hj : (T.xflds c)[j]? = some z) :
    XfC T.K (T.xcls c) ∧ PySem.W.findIn T.K (.ref (T.xcls c)) z = some none ∧ (T.xflds c)[j]? = some z ∧ (T.xflds c).Nodup := by
  subst hK
  obtain ⟨_, X⟩ := xcB_ok t e h
  rw [hc]
  refine ⟨X, ?_, hj, h4⟩
  unfold xcB at h
  simp only [Bool.and_eq_true, decide_eq_true_eq, List.all_eq_true] at h
  have hz : z ∈ T.xflds c := List.mem_of_getElem? hj
  rw [← h1] at hz
  obtain ⟨q, hq, rfl⟩ := List.mem_map.mp hz
  exact h.2.2.2.2.2.2.2.2.2.2.2.2.1 q hq
end Ev
end
section
set_option Elab.async false
set_option linter.all false
set_option maxRecDepth 100000
set_option maxHeartbeats 4000000
/-! Ev, part Jx: exceptions that are asked for, made by keywords, made without an __init__: from the head's facts. -/
namespace Ev
open PySem PySem.Spec PyProof.Rows L2
def excCB (K : PySem.W.Frag) (D : Addr) : Bool :=
  decide (PySem.W.findIn K (.ref D) "__getattribute__" = some (some (.builtin "BaseException.__getattribute__"))) && (decide (PySem.W.findIn K (.ref D) "__getattr__" = some none) && (decide (PySem.W.subIn K (.ref D) (.type "BaseException") = some true) && (PySem.W.hasDictIn K D &&
  (decide (PySem.W.findIn K (.ref D) "__class__" = some (some (.builtin "object.__class__"))) && (decide (PySem.W.specialIn K (.builtin "object.__class__") "__get__" = some (some (.builtin "getset_descriptor.__get__"))) && (decide (PySem.W.takesIn K (.builtin "object.__class__") = some true) && decide (PySem.W.mroIn K D (.type "object") = some true)))))))
theorem excCB_ok {K : PySem.W.Frag} {D : Addr} (h : excCB K D = true) : ExcC K D := by
  unfold excCB at h
  simp only [Bool.and_eq_true, decide_eq_true_eq] at h
  obtain ⟨h1, h2, h3, h4, h5, h6, h7, h8⟩ := h
  exact ⟨h1, h2, h3, h4, h5, h6, h7, h8⟩
def xnB (K : PySem.W.Frag) (C : Addr) : Bool :=
  PySem.W.excIn K C [.type "ValueError", .type "Exception", .type "BaseException", .type "object"] "ValueError.__new__" && (PySem.W.keepIn K (.ref C) && (decide (PySem.W.subIn K (.ref C) (.type "BaseException") = some true) && decide (PySem.W.typeIn K (.ref C) = some (.type "type"))))
theorem xnB_ok {T : Tb} {c : Nat} (h : xnB T.K (T.xcls c) = true) : XnOk T c := by
  unfold xnB at h
  simp only [Bool.and_eq_true, decide_eq_true_eq] at h
  obtain ⟨h1, h2, h3, h4⟩ := h
  exact ⟨h1, h2, h3, h4⟩
theorem map_some_inj {α : Type} : ∀ {l r : List α}, l.map some = r.map some → l = r
  | [], [], _ => rfl
  | [], b :: r, h => by simp at h
  | a :: l, [], h => by simp at h
  | a :: l, b :: r, h => by
    rw [List.map_cons, List.map_cons] at h
    injection h with h1 h2
    rw [Option.some.inj h1, map_some_inj h2]
theorem fn_shape {K : PySem.W.Frag} {file : PySem.Str} {d : XcD} (e : fnX K d = d.val) (h : fnB K file d = true) {oc : Value} {od : Option Addr} {fd : FuncData} {osl : Array (Option Value)} (lk : K.lookup (iA K d) = some ⟨oc, od, .func fd, osl⟩) :
    ∃ (doc pm ct : Value) (an : Option Addr) (cda cc : Addr), fd = PySem.W.ksFn d.iname d.iqual d.params d.body d.scope .none .none doc pm an (.ref cda) ct cc := by
  unfold fnX at e
  unfold fnB at h
  rw [lk] at e h
  obtain ⟨n1, n2, n3, n4, n5, n6, n7, n8, n9, n10, n11, n12, n13, n14, n15⟩ := fd
  have e2 : (some (n1, n2, n3, n4, n5, n6, n8, n9, n15) : FnX) = some (d.iname, d.iqual, d.params, .stmts d.body, d.scope, mainGlobals, .none, .none, builtinsNs) := e
  simp only [Option.some.injEq, Prod.mk.injEq] at e2
  obtain ⟨r1, r2, r3, r4, r5, r6, r7, r8, r9⟩ := e2
  subst r1 r2 r3 r4 r5 r6 r7 r8 r9
  dsimp only at h
  rw [Bool.and_eq_true] at h
  obtain ⟨c1, c2⟩ := h
  unfold codeB at c1
  split at c1
  · rename_i cda
    unfold closB at c2
    split at c2
    · rename_i x cc
      simp only [Bool.and_eq_true, decide_eq_true_eq] at c2
      obtain ⟨rfl, c5⟩ := c2
      exact ⟨_, _, _, _, cda, cc, rfl⟩
    · cases c2
  · cases c1
theorem xk_of {K : PySem.W.Frag} {prog : Program} {file : PySem.Str} {d : XcD} {T : Tb} {c : Nat} {ks : List PySem.Str} {pm : List Nat} (hK : T.K = K) (t : XcT prog file d) (e : fnX K d = d.val) (h : xcB file K d = true) (hc : T.xcls c = He.ga K d.nm) (h1 : d.fl.map (·.1) = T.xflds c) (h2 : d.fl.map (·.2) = d.ps) (h3 : d.fl ≠ []) (h5 : d.ps.length = pm.length) (lt : ∀ i ∈ pm, i < ks.length)
    (kb : ∀ (pq ct doc : Value) (an : Option Addr) (cda cc : Addr) (x : Value) (ws us : List Value), ws.length = ks.length → us.map some = pm.map (fun i => ws[i]?) → bindArgs (PySem.W.ksFn d.iname d.iqual d.params d.body d.scope .none .none doc pq an (.ref cda) ct cc) ⟨[x], ks.zip ws⟩ = pure ((d.slf :: d.ps).zip (x :: us))) : XkOk T prog c ks pm := by
  subst hK
  obtain ⟨S, _⟩ := xcB_ok t e h
  have hf : fnB T.K file d = true := by
    unfold xcB at h
    simp only [Bool.and_eq_true] at h
    exact h.2.1
  rw [← hc] at S
  refine ⟨⟨_, _, _, _, S, h1, h2, h3, h5, fun oc od fd osl x ws us lk hl hu => ?_⟩, lt⟩
  obtain ⟨doc, pq, ct, an, cda, cc, rfl⟩ := fn_shape e hf lk
  exact kb pq ct doc an cda cc x ws us hl hu
end Ev
end
section
set_option Elab.async false
set_option linter.all false
set_option maxRecDepth 100000
set_option maxHeartbeats 0
def Tr.W : Nat := 1000000000
namespace Tr
open Ev
def top (i : Nat) : PySem.Stmt := PySem.Challenge.pw_mouldyard_k09_errors.main.body.getD i (.Pass ⟨0, 0, 0, 0⟩)
/-- _law_taken -/
def b0 : Fd := ⟨4, [.pu, .pu], false, .cons (.ifs (.cmp .gt (.ix (.var 0) (.int 3)) (.int 0)) (.cons (.asg 3 (.bin .mod (.bi .int (.cons (.ix (.var 0) (.int 3)) (.nil))) (.var 1))) (.cons (.sto 0 (.int 3) (.bin .fdiv (.ix (.var 0) (.int 3)) (.var 1))) (.cons (.ret (.var 3)) (.nil)))) (.nil)) (.cons (.sto 0 (.int 1) (.bin .add (.ix (.var 0) (.int 1)) (.int 1))) (.cons (.ifs (.cmp .gt (.ix (.var 0) (.int 1)) (.bi .len (.cons (.ix (.var 0) (.int 0)) (.nil)))) (.cons (.sto 0 (.int 2) (.bin .mod (.bi .int (.cons (.bin .add (.bin .mul (.ix (.var 0) (.int 2)) (.int 48271)) (.int 11)) (.nil))) (.int 2147483647))) (.cons (.ret (.bin .mod (.bi .int (.cons (.bin .fdiv (.ix (.var 0) (.int 2)) (.int 7)) (.nil))) (.var 1))) (.nil))) (.nil)) (.cons (.asg 2 (.ix (.ix (.var 0) (.int 0)) (.bin .sub (.ix (.var 0) (.int 1)) (.int 1)))) (.cons (.sto 0 (.int 2) (.bin .mod (.bi .int (.cons (.bin .add (.bin .add (.bin .mul (.ix (.var 0) (.int 2)) (.int 48271)) (.var 2)) (.int 11)) (.nil))) (.int 2147483647))) (.cons (.ifs (.cmp .ge (.var 2) (.bin .pow (.int 10) (.int 18))) (.cons (.sto 0 (.int 3) (.bin .fdiv (.var 2) (.var 1))) (.nil)) (.nil)) (.cons (.ret (.bin .mod (.bi .int (.cons (.var 2) (.nil))) (.var 1))) (.nil)))))))⟩
abbrev s0 : PySem.Stmt := top 13
def n0 : List PySem.Str := (["row", "many", "cell", "found"] : List PySem.Str)
def p0 : List PySem.Str := (["row", "many"] : List PySem.Str)
/-- _law_pick -/
def b1 : Fd := ⟨2, [.pu, .pu], false, .cons (.ret (.ix (.var 1) (.call 0 (.cons (.var 0) (.cons (.bi .len (.cons (.var 1) (.nil))) (.nil)))))) (.nil)⟩
abbrev s1 : PySem.Stmt := top 14
def n1 : List PySem.Str := (["row", "kinds"] : List PySem.Str)
def p1 : List PySem.Str := (["row", "kinds"] : List PySem.Str)
/-- _law_alike -/
def b2 : Fd := ⟨3, [.pu, .pu], false, .cons (.ifs (.isi (.var 1) [.tuple, .list]) (.cons (.ifs (.or (.not (.isi (.var 0) [.tuple, .list])) (.cmp .ne (.isi (.var 0) [.list]) (.isi (.var 1) [.list]))) (.cons (.ret (.bl false)) (.nil)) (.nil)) (.cons (.ifs (.cmp .ne (.bi .len (.cons (.var 0) (.nil))) (.bi .len (.cons (.var 1) (.nil)))) (.cons (.ret (.bl false)) (.nil)) (.nil)) (.cons (.ret (.cmp .eq (.comp (.name 2) [2] (.rng1 (.bi .len (.cons (.var 1) (.nil)))) (.some (.not (.call 2 (.cons (.ix (.var 0) (.var 2)) (.cons (.ix (.var 1) (.var 2)) (.nil)))))) (.var 2)) (.lst (.nil)))) (.nil)))) (.nil)) (.cons (.ifs (.or (.cmp .isN (.var 1) (.non)) (.isi (.var 1) [.str])) (.cons (.ret (.and (.cmp .eq (.var 0) (.var 1)) (.cmp .eq (.isi (.var 0) [.str]) (.isi (.var 1) [.str])))) (.nil)) (.nil)) (.cons (.ret (.and (.isi (.var 0) [.int]) (.and (.cmp .eq (.isi (.var 0) [.bool]) (.isi (.var 1) [.bool])) (.cmp .eq (.var 0) (.var 1))))) (.nil)))⟩
abbrev s2 : PySem.Stmt := top 15
def n2 : List PySem.Str := (["found", "due", "k"] : List PySem.Str)
def p2 : List PySem.Str := (["found", "due"] : List PySem.Str)
/-- _law_raised -/
def b3 : Fd := ⟨6, [.pu, .pu, .pu], false, .cons (.tryx (.cons (.ifs (.cmp .eq (.var 0) (.int 0)) (.cons (.raise 0 (.cons (.var 1) (.nil))) (.nil)) (.nil)) (.cons (.ifs (.cmp .eq (.var 0) (.int 1)) (.cons (.raise 1 (.cons (.var 1) (.nil))) (.nil)) (.nil)) (.cons (.ifs (.cmp .eq (.var 0) (.int 2)) (.cons (.raise 2 (.cons (.var 1) (.nil))) (.nil)) (.nil)) (.cons (.ifs (.cmp .eq (.var 0) (.int 3)) (.cons (.raise 3 (.cons (.var 1) (.nil))) (.nil)) (.nil)) (.cons (.ifs (.cmp .eq (.var 0) (.int 4)) (.cons (.raise 4 (.cons (.var 1) (.nil))) (.nil)) (.nil)) (.cons (.ifs (.cmp .eq (.var 0) (.int 5)) (.cons (.raise 5 (.cons (.var 1) (.nil))) (.nil)) (.nil)) (.cons (.ifs (.cmp .eq (.var 0) (.int 6)) (.cons (.raise 6 (.cons (.var 1) (.nil))) (.nil)) (.nil)) (.cons (.ifs (.cmp .eq (.var 0) (.int 7)) (.cons (.raise 7 (.cons (.var 1) (.nil))) (.nil)) (.nil)) (.cons (.ifs (.cmp .eq (.var 0) (.int 8)) (.cons (.raise 8 (.cons (.var 1) (.cons (.var 2) (.nil)))) (.nil)) (.nil)) (.cons (.raise 10 (.nil)) (.nil))))))))))) (.cons 9 (some 3) (.cons (.asg 4 (.lst (.cons (.isx 3 (.exc 0)) (.cons (.isx 3 (.exc 1)) (.cons (.isx 3 (.exc 2)) (.cons (.isx 3 (.exc 3)) (.cons (.isx 3 (.exc 4)) (.nil)))))))) (.cons (.asg 4 (.bin .add (.var 4) (.lst (.cons (.isx 3 (.exc 5)) (.cons (.isx 3 (.exc 6)) (.cons (.isx 3 (.exc 7)) (.cons (.isx 3 (.exc 8)) (.cons (.isx 3 (.exc 10)) (.nil))))))))) (.cons (.ifs (.or (.not (.isx 3 (.bexc "ValueError"))) (.or (.isx 3 (.bexc "LookupError")) (.isx 3 (.bexc "RuntimeError")))) (.cons (.ret (.non)) (.nil)) (.nil)) (.cons (.asg 5 (.non)) (.cons (.ifs (.cmp .inn (.var 0) (.lst (.cons (.int 0) (.cons (.int 1) (.cons (.int 3) (.cons (.int 6) (.cons (.int 7) (.nil)))))))) (.cons (.asg 5 (.xfld 3 0)) (.nil)) (.nil)) (.cons (.ifs (.cmp .eq (.var 0) (.int 2)) (.cons (.asg 5 (.xfld 3 1)) (.nil)) (.nil)) (.cons (.ifs (.cmp .eq (.var 0) (.int 4)) (.cons (.asg 5 (.xfld 3 2)) (.nil)) (.nil)) (.cons (.ifs (.cmp .eq (.var 0) (.int 5)) (.cons (.asg 5 (.xfld 3 3)) (.nil)) (.nil)) (.cons (.ifs (.cmp .eq (.var 0) (.int 8)) (.cons (.asg 5 (.tup (.cons (.xfld 3 4) (.cons (.xfld 3 5) (.nil))))) (.nil)) (.nil)) (.cons (.ret (.tup (.cons (.var 4) (.cons (.var 5) (.nil))))) (.nil))))))))))) (.nil))) (.nil)⟩
abbrev s3 : PySem.Stmt := top 16
def n3 : List PySem.Str := (["number", "value", "named", "e", "kinds", "field"] : List PySem.Str)
def p3 : List PySem.Str := (["number", "value", "named"] : List PySem.Str)
/-- law -/
def b4 : Fd := ⟨9, [.pu], false, .cons (.asgL 1 (.lst (.cons (.var 0) (.cons (.int 0) (.cons (.int 53) (.cons (.int 0) (.nil))))))) (.cons (.for (.name 2) (.rng1 (.int 10)) (.cons (.asg 4 (.call 1 (.cons (.var 1) (.cons (.lst (.cons (.non) (.cons (.int 7) (.cons (.str "x") (.cons (.tup (.cons (.int 1) (.cons (.int 2) (.nil)))) (.cons (.bl true) (.cons (.call 0 (.cons (.var 1) (.cons (.bin .pow (.int 10) (.int 9)) (.nil)))) (.nil)))))))) (.nil))))) (.cons (.asg 5 (.call 1 (.cons (.var 1) (.cons (.lst (.cons (.tup (.nil)) (.cons (.tup (.cons (.str "a") (.nil))) (.nil)))) (.nil))))) (.cons (.asg 6 (.call 3 (.cons (.var 2) (.cons (.var 4) (.cons (.var 5) (.nil)))))) (.cons (.ifs (.or (.cmp .isN (.var 6) (.non)) (.cmp .ne (.ix (.var 6) (.int 0)) (.comp (.name 8) [8] (.rng1 (.int 10)) (.none) (.cmp .eq (.var 8) (.var 2))))) (.cons (.ret (.bl false)) (.nil)) (.nil)) (.cons (.asg 7 (.var 4)) (.cons (.ifs (.cmp .eq (.var 2) (.int 8)) (.cons (.asg 7 (.tup (.cons (.var 4) (.cons (.var 5) (.nil))))) (.nil)) (.nil)) (.cons (.ifs (.and (.cmp .lt (.var 2) (.int 9)) (.or (.cmp .ne (.ix (.var 6) (.int 1)) (.var 7)) (.cmp .ne (.isi (.ix (.var 6) (.int 1)) [.bool]) (.isi (.var 7) [.bool])))) (.cons (.ret (.bl false)) (.nil)) (.nil)) (.nil))))))))) (.cons (.asg 3 (.lst (.cons (.xkw 0 (.cons (.int 1) (.nil)) [0] 0) (.cons (.xkw 1 (.cons (.str "a") (.nil)) [0] 0) (.cons (.xkw 2 (.cons (.int 4) (.nil)) [0] 1) (.cons (.xkw 3 (.cons (.int 5) (.nil)) [0] 0) (.cons (.xkw 4 (.cons (.int 6) (.nil)) [0] 2) (.nil)))))))) (.cons (.asg 3 (.bin .add (.var 3) (.lst (.cons (.xkw 5 (.cons (.int 7) (.nil)) [0] 3) (.cons (.xkw 6 (.cons (.int 8) (.nil)) [0] 0) (.cons (.xkw 7 (.cons (.int 9) (.nil)) [0] 0) (.cons (.xkw 8 (.cons (.str "r") (.cons (.int 11) (.nil))) [0, 1] 5) (.cons (.xkw 8 (.cons (.int 1) (.cons (.str "s") (.nil))) [1, 0] 4) (.nil))))))))) (.cons (.ret (.call 2 (.cons (.var 3) (.cons (.lst (.cons (.int 1) (.cons (.str "a") (.cons (.int 4) (.cons (.int 5) (.cons (.int 6) (.cons (.int 7) (.cons (.int 8) (.cons (.int 9) (.cons (.int 11) (.cons (.str "s") (.nil)))))))))))) (.nil))))) (.nil)))))⟩
abbrev s4 : PySem.Stmt := top 17
def n4 : List PySem.Str := (["script", "row", "number", "made", "value", "named", "told", "due", "k"] : List PySem.Str)
def p4 : List PySem.Str := (["script"] : List PySem.Str)
def Ns (i : Nat) : List PySem.Str := [n0, n1, n2, n3, n4].getD i []
def ps (i : Nat) : List PySem.Str := [p0, p1, p2, p3, p4].getD i []
def fnm : List PySem.Str := (["_law_taken", "_law_pick", "_law_alike", "_law_raised", "law"] : List PySem.Str)
def tt : Tt where
  bn := (["abs", "all", "any", "dict", "enumerate", "int", "isinstance", "len", "list", "max", "min", "range", "repr", "set", "sorted", "str", "sum", "super", "tuple", "zip", "bool", "ValueError", "LookupError", "RuntimeError"] : List PySem.Str)
  fname := fun i => (["_law_taken", "_law_pick", "_law_alike", "_law_raised", "law"] : List PySem.Str).getD i ""
  cname := fun i => ([] : List PySem.Str).getD i ""
  xname := fun i => (["BadNumber", "BadName", "BadItem", "BadEvent", "BadNote", "TooMany", "Unknown", "Taken", "Refused", "YardError", "NothingToUndo"] : List PySem.Str).getD i ""
  fld := fun i => ([] : List PySem.Str).getD i ""
  mth := fun i => ([] : List PySem.Str).getD i ""
  xfl := fun i => (["value", "index", "line", "limit", "reason", "names"] : List PySem.Str).getD i ""
  xar := fun i => ([1, 1, 1, 1, 1, 1, 1, 1, 2, 0, 0] : List Nat).getD i 0
  nx := 9
  nh := 11
  glf := fun f => decide (f < 5)
  xis := true
  xko := fun c ks pm => (c == 8 && (ks == (["names", "reason"] : List PySem.Str) && pm == [1, 0])) || ((c == 8 && (ks == (["reason", "names"] : List PySem.Str) && pm == [0, 1])) || ((c == 7 && (ks == (["value"] : List PySem.Str) && pm == [0])) || ((c == 6 && (ks == (["value"] : List PySem.Str) && pm == [0])) || ((c == 5 && (ks == (["limit"] : List PySem.Str) && pm == [0])) || ((c == 4 && (ks == (["line"] : List PySem.Str) && pm == [0])) || ((c == 3 && (ks == (["value"] : List PySem.Str) && pm == [0])) || ((c == 2 && (ks == (["index"] : List PySem.Str) && pm == [0])) || ((c == 1 && (ks == (["value"] : List PySem.Str) && pm == [0])) || ((c == 0 && (ks == (["value"] : List PySem.Str) && pm == [0])))))))))))
  x0 := fun c => c == 10
def meth : Nat → Nat → Option Nat
  | _, _ => none
def fld : Nat → Nat → Option Nat
  | _, _ => none
def init : Nat → Option Nat
  | _ => none
def xfld : Nat → Nat → Option Nat
  | 0, 0 => some 0
  | 1, 0 => some 0
  | 2, 1 => some 0
  | 3, 0 => some 0
  | 4, 2 => some 0
  | 5, 3 => some 0
  | 6, 0 => some 0
  | 7, 0 => some 0
  | 8, 4 => some 0
  | 8, 5 => some 1
  | _, _ => none
def subT : List (List Bool) := [[true, false, false, false, false, false, false, false, false, true, false], [false, true, false, false, false, false, false, false, false, true, false], [false, false, true, false, false, false, false, false, false, true, false], [false, false, false, true, false, false, false, false, false, true, false], [false, false, false, false, true, false, false, false, false, true, false], [false, false, false, false, false, true, false, false, false, true, false], [false, false, false, false, false, false, true, false, false, true, false], [false, false, false, false, false, false, false, true, false, true, false], [false, false, false, false, false, false, false, false, true, true, false], [false, false, false, false, false, false, false, false, false, true, false], [false, false, false, false, false, false, false, false, false, true, true]]
def sub (i k : Nat) : Option Bool := (subT[i]?).bind fun r => r[k]?
def prog : P := ⟨[b0, b1, b2, b3, b4], meth, fld, init, fun _ => none, xfld, sub, W, 0⟩
end Tr
/- defs: 0:_law_taken 1:_law_pick 2:_law_alike 3:_law_raised 4:law | exc BadNumber BadName BadItem BadEvent BadNote TooMany Unknown Taken Refused YardError NothingToUndo | cls  | glob  -/
end
section
set_option Elab.async false
set_option linter.all false
set_option maxRecDepth 100000
set_option maxHeartbeats 0
namespace Tr
open PySem PySem.Spec PyProof.Rows L2 Ev
theorem c0 : chSs tt prog n0 (defScope s0) false b0.body (defBody s0) = true := by decide +kernel
theorem c1 : chSs tt prog n1 (defScope s1) false b1.body (defBody s1) = true := by decide +kernel
theorem c2 : chSs tt prog n2 (defScope s2) false b2.body (defBody s2) = true := by decide +kernel
theorem c3 : chSs tt prog n3 (defScope s3) false b3.body (defBody s3) = true := by decide +kernel
theorem c4 : chSs tt prog n4 (defScope s4) false b4.body (defBody s4) = true := by decide +kernel
end Tr
end
section
set_option Elab.async false
set_option linter.all false
set_option maxRecDepth 100000
set_option maxHeartbeats 0
namespace Tr
open PySem PySem.Spec PyProof.Rows L2 Ev
def fileN : PySem.Str := PySem.Challenge.pw_mouldyard_k09_errors.main.file
def d0 : He.DefD := ⟨("_law_taken", none), "_law_taken", "_law_taken", defArgs s0, defBody s0, defScope s0, [], []⟩
def d1 : He.DefD := ⟨("_law_pick", none), "_law_pick", "_law_pick", defArgs s1, defBody s1, defScope s1, [], []⟩
def d2 : He.DefD := ⟨("_law_alike", none), "_law_alike", "_law_alike", defArgs s2, defBody s2, defScope s2, [], []⟩
def d3 : He.DefD := ⟨("_law_raised", none), "_law_raised", "_law_raised", defArgs s3, defBody s3, defScope s3, [], []⟩
def d4 : He.DefD := ⟨("law", none), "law", "law", defArgs s4, defBody s4, defScope s4, [], []⟩
def dfs : List He.DefD := [d0, d1, d2, d3, d4]
abbrev x0 : PySem.Stmt := L2.inClass (top 2) 0
def xd0 : XcD := ⟨"BadNumber", "self", (["value"] : List PySem.Str), [("value", "value")], "__init__", "BadNumber.__init__", defArgs x0, defBody x0, defScope x0⟩
abbrev x1 : PySem.Stmt := L2.inClass (top 3) 0
def xd1 : XcD := ⟨"BadName", "self", (["value"] : List PySem.Str), [("value", "value")], "__init__", "BadName.__init__", defArgs x1, defBody x1, defScope x1⟩
abbrev x2 : PySem.Stmt := L2.inClass (top 4) 0
def xd2 : XcD := ⟨"BadItem", "self", (["index"] : List PySem.Str), [("index", "index")], "__init__", "BadItem.__init__", defArgs x2, defBody x2, defScope x2⟩
abbrev x3 : PySem.Stmt := L2.inClass (top 5) 0
def xd3 : XcD := ⟨"BadEvent", "self", (["value"] : List PySem.Str), [("value", "value")], "__init__", "BadEvent.__init__", defArgs x3, defBody x3, defScope x3⟩
abbrev x4 : PySem.Stmt := L2.inClass (top 6) 0
def xd4 : XcD := ⟨"BadNote", "self", (["line"] : List PySem.Str), [("line", "line")], "__init__", "BadNote.__init__", defArgs x4, defBody x4, defScope x4⟩
abbrev x5 : PySem.Stmt := L2.inClass (top 7) 0
def xd5 : XcD := ⟨"TooMany", "self", (["limit"] : List PySem.Str), [("limit", "limit")], "__init__", "TooMany.__init__", defArgs x5, defBody x5, defScope x5⟩
abbrev x6 : PySem.Stmt := L2.inClass (top 8) 0
def xd6 : XcD := ⟨"Unknown", "self", (["value"] : List PySem.Str), [("value", "value")], "__init__", "Unknown.__init__", defArgs x6, defBody x6, defScope x6⟩
abbrev x7 : PySem.Stmt := L2.inClass (top 9) 0
def xd7 : XcD := ⟨"Taken", "self", (["value"] : List PySem.Str), [("value", "value")], "__init__", "Taken.__init__", defArgs x7, defBody x7, defScope x7⟩
abbrev x8 : PySem.Stmt := L2.inClass (top 10) 0
def xd8 : XcD := ⟨"Refused", "self", (["reason", "names"] : List PySem.Str), [("reason", "reason"), ("names", "names")], "__init__", "Refused.__init__", defArgs x8, defBody x8, defScope x8⟩
def xs : List XcD := [xd0, xd1, xd2, xd3, xd4, xd5, xd6, xd7, xd8]
def xnm : List PySem.Str := (["BadNumber", "BadName", "BadItem", "BadEvent", "BadNote", "TooMany", "Unknown", "Taken", "Refused", "YardError", "NothingToUndo"] : List PySem.Str)
def cnm : List PySem.Str := ([] : List PySem.Str)
def gnm : List PySem.Str := (["_law_taken", "_law_pick", "_law_alike", "_law_raised", "law"] : List PySem.Str)
def exms : List (PySem.Str × PySem.Str × Bool) := ([("BadNumber", "BadNumber", true), ("BadNumber", "BadName", false), ("BadNumber", "BadItem", false), ("BadNumber", "BadEvent", false), ("BadNumber", "BadNote", false), ("BadNumber", "TooMany", false), ("BadNumber", "Unknown", false), ("BadNumber", "Taken", false), ("BadNumber", "Refused", false), ("BadNumber", "YardError", true), ("BadNumber", "NothingToUndo", false), ("BadName", "BadNumber", false), ("BadName", "BadName", true), ("BadName", "BadItem", false), ("BadName", "BadEvent", false), ("BadName", "BadNote", false)] : List (PySem.Str × PySem.Str × Bool)) ++ ([("BadName", "TooMany", false), ("BadName", "Unknown", false), ("BadName", "Taken", false), ("BadName", "Refused", false), ("BadName", "YardError", true), ("BadName", "NothingToUndo", false), ("BadItem", "BadNumber", false), ("BadItem", "BadName", false), ("BadItem", "BadItem", true), ("BadItem", "BadEvent", false), ("BadItem", "BadNote", false), ("BadItem", "TooMany", false), ("BadItem", "Unknown", false), ("BadItem", "Taken", false), ("BadItem", "Refused", false), ("BadItem", "YardError", true)] : List (PySem.Str × PySem.Str × Bool)) ++ ([("BadItem", "NothingToUndo", false), ("BadEvent", "BadNumber", false), ("BadEvent", "BadName", false), ("BadEvent", "BadItem", false), ("BadEvent", "BadEvent", true), ("BadEvent", "BadNote", false), ("BadEvent", "TooMany", false), ("BadEvent", "Unknown", false), ("BadEvent", "Taken", false), ("BadEvent", "Refused", false), ("BadEvent", "YardError", true), ("BadEvent", "NothingToUndo", false), ("BadNote", "BadNumber", false), ("BadNote", "BadName", false), ("BadNote", "BadItem", false), ("BadNote", "BadEvent", false)] : List (PySem.Str × PySem.Str × Bool)) ++ ([("BadNote", "BadNote", true), ("BadNote", "TooMany", false), ("BadNote", "Unknown", false), ("BadNote", "Taken", false), ("BadNote", "Refused", false), ("BadNote", "YardError", true), ("BadNote", "NothingToUndo", false), ("TooMany", "BadNumber", false), ("TooMany", "BadName", false), ("TooMany", "BadItem", false), ("TooMany", "BadEvent", false), ("TooMany", "BadNote", false), ("TooMany", "TooMany", true), ("TooMany", "Unknown", false), ("TooMany", "Taken", false), ("TooMany", "Refused", false)] : List (PySem.Str × PySem.Str × Bool)) ++ ([("TooMany", "YardError", true), ("TooMany", "NothingToUndo", false), ("Unknown", "BadNumber", false), ("Unknown", "BadName", false), ("Unknown", "BadItem", false), ("Unknown", "BadEvent", false), ("Unknown", "BadNote", false), ("Unknown", "TooMany", false), ("Unknown", "Unknown", true), ("Unknown", "Taken", false), ("Unknown", "Refused", false), ("Unknown", "YardError", true), ("Unknown", "NothingToUndo", false), ("Taken", "BadNumber", false), ("Taken", "BadName", false), ("Taken", "BadItem", false)] : List (PySem.Str × PySem.Str × Bool)) ++ ([("Taken", "BadEvent", false), ("Taken", "BadNote", false), ("Taken", "TooMany", false), ("Taken", "Unknown", false), ("Taken", "Taken", true), ("Taken", "Refused", false), ("Taken", "YardError", true), ("Taken", "NothingToUndo", false), ("Refused", "BadNumber", false), ("Refused", "BadName", false), ("Refused", "BadItem", false), ("Refused", "BadEvent", false), ("Refused", "BadNote", false), ("Refused", "TooMany", false), ("Refused", "Unknown", false), ("Refused", "Taken", false)] : List (PySem.Str × PySem.Str × Bool)) ++ ([("Refused", "Refused", true), ("Refused", "YardError", true), ("Refused", "NothingToUndo", false), ("YardError", "BadNumber", false), ("YardError", "BadName", false), ("YardError", "BadItem", false), ("YardError", "BadEvent", false), ("YardError", "BadNote", false), ("YardError", "TooMany", false), ("YardError", "Unknown", false), ("YardError", "Taken", false), ("YardError", "Refused", false), ("YardError", "YardError", true), ("YardError", "NothingToUndo", false), ("NothingToUndo", "BadNumber", false), ("NothingToUndo", "BadName", false)] : List (PySem.Str × PySem.Str × Bool)) ++ ([("NothingToUndo", "BadItem", false), ("NothingToUndo", "BadEvent", false), ("NothingToUndo", "BadNote", false), ("NothingToUndo", "TooMany", false), ("NothingToUndo", "Unknown", false), ("NothingToUndo", "Taken", false), ("NothingToUndo", "Refused", false), ("NothingToUndo", "YardError", true), ("NothingToUndo", "NothingToUndo", true)] : List (PySem.Str × PySem.Str × Bool))
def fa : List He.Fa := tt.bn.map He.Fa.free ++ (gnm.map He.Fa.glo ++ (xnm.map He.Fa.glo ++ exms.map fun z => He.Fa.exm z.1 z.2.1 z.2.2))
def exB (K : PySem.W.Frag) : Bool := (xnm.all fun z => excCB K (He.ga K z)) && ((exms.all fun z => decide (PySem.W.kitOne K (.ref (He.ga K z.1)) (.ref (He.ga K z.2.1)) = some z.2.2)) && (xnm.all fun z => decide (PySem.W.kitOne K (.ref (He.ga K z)) (.type "ValueError") = some true) && (decide (PySem.W.kitOne K (.ref (He.ga K z)) (.type "LookupError") = some false) && decide (PySem.W.kitOne K (.ref (He.ga K z)) (.type "RuntimeError") = some false))))
def exN (K : PySem.W.Frag) : Bool := (["NothingToUndo"] : List PySem.Str).all fun z => xnB K (He.ga K z)
def exF (K : PySem.W.Frag) : Bool := exB K && exN K
abbrev R : PySem.W.OpenRow := PySem.W.OpenLaw.row PySem.Challenge.rw_mouldyard_k09_errors
abbrev hk : PySem.W.Hook := hookX 6 fileN fa dfs xs exF
def ob (s : PySem.W.SharedT) : AlX := obsXG 6 fileN fa dfs xs exF (HandSHeadRun.getT s)
theorem ob_eq (s : PySem.W.SharedT) : ob s = hk.obs s.abs := obsXG_eq (HandSHeadRun.getT_eq s)
def loose : List PySem.Str := (["YardError", "BadNumber", "BadName", "BadItem", "BadEvent", "BadNote", "TooMany", "Unknown", "Taken", "Refused", "NothingToUndo", "_law_taken", "_law_pick", "_law_alike", "_law_raised"] : List PySem.Str)
theorem run (w : PySem.World) : HandSHeadRun.RunEq R (PySem.W.view R.prog [17]) hk ob 3000 loose w := by
  intro os
  kernel_rfl
theorem sc0 : FnScope n0 p0 (defScope s0) := ⟨rfl, rfl, rfl, by decide +kernel, rfl, by decide +kernel, by decide +kernel⟩
theorem bd0 {K : PySem.W.Frag} {f : Addr} {fd : FuncData} (F : FunD K d0.name d0.qual d0.params d0.body d0.scope [] [] f fd) : Binds K fd p0 [] := FunD.bindsN F fun _ _ _ _ _ _ us hl => match us, hl with | [_, _], _ => rfl
theorem sc1 : FnScope n1 p1 (defScope s1) := ⟨rfl, rfl, rfl, by decide +kernel, rfl, by decide +kernel, by decide +kernel⟩
theorem bd1 {K : PySem.W.Frag} {f : Addr} {fd : FuncData} (F : FunD K d1.name d1.qual d1.params d1.body d1.scope [] [] f fd) : Binds K fd p1 [] := FunD.bindsN F fun _ _ _ _ _ _ us hl => match us, hl with | [_, _], _ => rfl
theorem sc2 : FnScope n2 p2 (defScope s2) := ⟨rfl, rfl, rfl, by decide +kernel, rfl, by decide +kernel, by decide +kernel⟩
theorem bd2 {K : PySem.W.Frag} {f : Addr} {fd : FuncData} (F : FunD K d2.name d2.qual d2.params d2.body d2.scope [] [] f fd) : Binds K fd p2 [] := FunD.bindsN F fun _ _ _ _ _ _ us hl => match us, hl with | [_, _], _ => rfl
theorem sc3 : FnScope n3 p3 (defScope s3) := ⟨rfl, rfl, rfl, by decide +kernel, rfl, by decide +kernel, by decide +kernel⟩
theorem bd3 {K : PySem.W.Frag} {f : Addr} {fd : FuncData} (F : FunD K d3.name d3.qual d3.params d3.body d3.scope [] [] f fd) : Binds K fd p3 [] := FunD.bindsN F fun _ _ _ _ _ _ us hl => match us, hl with | [_, _, _], _ => rfl
theorem sc4 : FnScope n4 p4 (defScope s4) := ⟨rfl, rfl, rfl, by decide +kernel, rfl, by decide +kernel, by decide +kernel⟩
theorem bd4 {K : PySem.W.Frag} {f : Addr} {fd : FuncData} (F : FunD K d4.name d4.qual d4.params d4.body d4.scope [] [] f fd) : Binds K fd p4 [] := FunD.bindsN F fun _ _ _ _ _ _ us hl => match us, hl with | [_], _ => rfl
end Tr
end
section
set_option Elab.async false
set_option linter.all false
set_option maxRecDepth 100000
set_option maxHeartbeats 0
namespace Tr
open PySem PySem.Spec PyProof.Rows L2 Ev
def ats : List (PySem.Str × Option PySem.Str) := dfs.map (·.at_)
def xfs : List (List PySem.Str) := ([["value"], ["value"], ["index"], ["value"], ["line"], ["limit"], ["value"], ["value"], ["reason", "names"]] : List (List PySem.Str))
abbrev Pg : Program := PySem.Challenge.pw_mouldyard_k09_errors
theorem xt0 : XcT Pg fileN xd0 := {
  file := by decide +kernel
  ks := by decide +kernel
  kc := by decide +kernel
  kl := by decide +kernel
  nc := by decide +kernel
  co := rfl
  gen := rfl
  kind := rfl
  ar := ⟨_, rfl, rfl⟩
  bind := fun _ _ _ _ _ _ us hl => match us, hl with | [_, _], _ => rfl
  init := ⟨_, _, _, _, _, _, _, rfl, by decide +kernel, .cons .nil, .cons .nil⟩
  nd := by decide +kernel
  few := by decide +kernel
  sub := by decide +kernel
  htop := by decide +kernel }
theorem xt1 : XcT Pg fileN xd1 := {
  file := by decide +kernel
  ks := by decide +kernel
  kc := by decide +kernel
  kl := by decide +kernel
  nc := by decide +kernel
  co := rfl
  gen := rfl
  kind := rfl
  ar := ⟨_, rfl, rfl⟩
  bind := fun _ _ _ _ _ _ us hl => match us, hl with | [_, _], _ => rfl
  init := ⟨_, _, _, _, _, _, _, rfl, by decide +kernel, .cons .nil, .cons .nil⟩
  nd := by decide +kernel
  few := by decide +kernel
  sub := by decide +kernel
  htop := by decide +kernel }
theorem xt2 : XcT Pg fileN xd2 := {
  file := by decide +kernel
  ks := by decide +kernel
  kc := by decide +kernel
  kl := by decide +kernel
  nc := by decide +kernel
  co := rfl
  gen := rfl
  kind := rfl
  ar := ⟨_, rfl, rfl⟩
  bind := fun _ _ _ _ _ _ us hl => match us, hl with | [_, _], _ => rfl
  init := ⟨_, _, _, _, _, _, _, rfl, by decide +kernel, .cons .nil, .cons .nil⟩
  nd := by decide +kernel
  few := by decide +kernel
  sub := by decide +kernel
  htop := by decide +kernel }
theorem xt3 : XcT Pg fileN xd3 := {
  file := by decide +kernel
  ks := by decide +kernel
  kc := by decide +kernel
  kl := by decide +kernel
  nc := by decide +kernel
  co := rfl
  gen := rfl
  kind := rfl
  ar := ⟨_, rfl, rfl⟩
  bind := fun _ _ _ _ _ _ us hl => match us, hl with | [_, _], _ => rfl
  init := ⟨_, _, _, _, _, _, _, rfl, by decide +kernel, .cons .nil, .cons .nil⟩
  nd := by decide +kernel
  few := by decide +kernel
  sub := by decide +kernel
  htop := by decide +kernel }
theorem xt4 : XcT Pg fileN xd4 := {
  file := by decide +kernel
  ks := by decide +kernel
  kc := by decide +kernel
  kl := by decide +kernel
  nc := by decide +kernel
  co := rfl
  gen := rfl
  kind := rfl
  ar := ⟨_, rfl, rfl⟩
  bind := fun _ _ _ _ _ _ us hl => match us, hl with | [_, _], _ => rfl
  init := ⟨_, _, _, _, _, _, _, rfl, by decide +kernel, .cons .nil, .cons .nil⟩
  nd := by decide +kernel
  few := by decide +kernel
  sub := by decide +kernel
  htop := by decide +kernel }
theorem xt5 : XcT Pg fileN xd5 := {
  file := by decide +kernel
  ks := by decide +kernel
  kc := by decide +kernel
  kl := by decide +kernel
  nc := by decide +kernel
  co := rfl
  gen := rfl
  kind := rfl
  ar := ⟨_, rfl, rfl⟩
  bind := fun _ _ _ _ _ _ us hl => match us, hl with | [_, _], _ => rfl
  init := ⟨_, _, _, _, _, _, _, rfl, by decide +kernel, .cons .nil, .cons .nil⟩
  nd := by decide +kernel
  few := by decide +kernel
  sub := by decide +kernel
  htop := by decide +kernel }
theorem xt6 : XcT Pg fileN xd6 := {
  file := by decide +kernel
  ks := by decide +kernel
  kc := by decide +kernel
  kl := by decide +kernel
  nc := by decide +kernel
  co := rfl
  gen := rfl
  kind := rfl
  ar := ⟨_, rfl, rfl⟩
  bind := fun _ _ _ _ _ _ us hl => match us, hl with | [_, _], _ => rfl
  init := ⟨_, _, _, _, _, _, _, rfl, by decide +kernel, .cons .nil, .cons .nil⟩
  nd := by decide +kernel
  few := by decide +kernel
  sub := by decide +kernel
  htop := by decide +kernel }
theorem xt7 : XcT Pg fileN xd7 := {
  file := by decide +kernel
  ks := by decide +kernel
  kc := by decide +kernel
  kl := by decide +kernel
  nc := by decide +kernel
  co := rfl
  gen := rfl
  kind := rfl
  ar := ⟨_, rfl, rfl⟩
  bind := fun _ _ _ _ _ _ us hl => match us, hl with | [_, _], _ => rfl
  init := ⟨_, _, _, _, _, _, _, rfl, by decide +kernel, .cons .nil, .cons .nil⟩
  nd := by decide +kernel
  few := by decide +kernel
  sub := by decide +kernel
  htop := by decide +kernel }
theorem xt8 : XcT Pg fileN xd8 := {
  file := by decide +kernel
  ks := by decide +kernel
  kc := by decide +kernel
  kl := by decide +kernel
  nc := by decide +kernel
  co := rfl
  gen := rfl
  kind := rfl
  ar := ⟨_, rfl, rfl⟩
  bind := fun _ _ _ _ _ _ us hl => match us, hl with | [_, _, _], _ => rfl
  init := ⟨_, _, _, _, _, _, _, rfl, by decide +kernel, .cons (.cons .nil), .cons (.cons .nil)⟩
  nd := by decide +kernel
  few := by decide +kernel
  sub := by decide +kernel
  htop := by decide +kernel }
section
variable {K : PySem.W.Frag} {h : Heap} {mg : PySem.Str → Option Value}
abbrev TT (K : PySem.W.Frag) : Tb := tbOf K cnm [] ats xnm xfs
theorem exm_in {i k : Nat} {v : Bool} (e : sub i k = some v) : (xnm.getD i "", xnm.getD k "", v) ∈ exms := by
  obtain ⟨r, hr, hk⟩ := Option.bind_eq_some_iff.mp (show (subT[i]?).bind (fun r => r[k]?) = some v from e)
  have hi : i < 11 := (List.getElem?_eq_some_iff.mp hr).1
  have hl : r.length = 11 := (show ∀ r ∈ subT, r.length = 11 by decide +kernel) r (List.mem_of_getElem? hr)
  have hk2 : k < 11 := by rw [← hl]; exact (List.getElem?_eq_some_iff.mp hk).1
  have z : ∀ i, i < 11 → ∀ k, k < 11 → (match sub i k with | some v => decide ((xnm.getD i "", xnm.getD k "", v) ∈ exms) | none => true) = true := by decide +kernel
  have z := z i hi k hk2
  rw [e] at z
  exact of_decide_eq_true z
theorem gx (c : SaysX fileN fa dfs xs exF K) : Gx (TT K) prog tt Pg := by
  have mo : (exB K && exN K) = true := c.more
  rw [Bool.and_eq_true] at mo
  obtain ⟨m1, m2⟩ := mo
  refine ⟨?_, ?_, ?_⟩
  · intro _ ty i b e0
    unfold exB at m1
    simp only [Bool.and_eq_true, List.all_eq_true, decide_eq_true_eq] at m1
    obtain ⟨k1, k2, k3⟩ := m1
    have ex : ∀ z ∈ exms, z.1 ∈ xnm := by decide +kernel
    cases ty with
    | exc k =>
      have z := exm_in e0
      exact ⟨excCB_ok (k1 _ (ex _ z)), k2 _ z⟩
    | bexc x =>
      have e : (if sub i i = some true then (if x = "ValueError" then some true else if x = "LookupError" then some false else if x = "RuntimeError" then some false else none) else none) = some b := e0
      clear e0
      split at e
      · rename_i q
        have z := exm_in q
        obtain ⟨k4, k5, k6⟩ := k3 _ (ex _ z)
        refine ⟨excCB_ok (k1 _ (ex _ z)), ?_⟩
        split at e
        · rename_i q; subst q; cases e; exact k4
        · split at e
          · rename_i q; subst q; cases e; exact k5
          · split at e
            · rename_i q; subst q; cases e; exact k6
            · cases e
      · cases e
    | _ => cases e0
  · intro i ks pm e
    have e : tt.xko i ks pm = true := e
    simp only [tt, Bool.or_eq_true, Bool.and_eq_true, beq_iff_eq] at e
    rcases e with ⟨rfl, rfl, rfl⟩ | ⟨rfl, rfl, rfl⟩ | ⟨rfl, rfl, rfl⟩ | ⟨rfl, rfl, rfl⟩ | ⟨rfl, rfl, rfl⟩ | ⟨rfl, rfl, rfl⟩ | ⟨rfl, rfl, rfl⟩ | ⟨rfl, rfl, rfl⟩ | ⟨rfl, rfl, rfl⟩ | ⟨rfl, rfl, rfl⟩
    · obtain ⟨e1, e2⟩ := c.exc 8 (d := xd8) rfl
      exact ⟨by decide, xk_of rfl xt8 e1 e2 rfl rfl rfl (by decide +kernel) rfl (by decide) fun _ _ _ _ _ _ x ws us hl hu => match ws, hl with
        | [w0, w1], _ => by
          have z : us = [w1, w0] := map_some_inj hu
          subst z
          rfl⟩
    · obtain ⟨e1, e2⟩ := c.exc 8 (d := xd8) rfl
      exact ⟨by decide, xk_of rfl xt8 e1 e2 rfl rfl rfl (by decide +kernel) rfl (by decide) fun _ _ _ _ _ _ x ws us hl hu => match ws, hl with
        | [w0, w1], _ => by
          have z : us = [w0, w1] := map_some_inj hu
          subst z
          rfl⟩
    · obtain ⟨e1, e2⟩ := c.exc 7 (d := xd7) rfl
      exact ⟨by decide, xk_of rfl xt7 e1 e2 rfl rfl rfl (by decide +kernel) rfl (by decide) fun _ _ _ _ _ _ x ws us hl hu => match ws, hl with
        | [w0], _ => by
          have z : us = [w0] := map_some_inj hu
          subst z
          rfl⟩
    · obtain ⟨e1, e2⟩ := c.exc 6 (d := xd6) rfl
      exact ⟨by decide, xk_of rfl xt6 e1 e2 rfl rfl rfl (by decide +kernel) rfl (by decide) fun _ _ _ _ _ _ x ws us hl hu => match ws, hl with
        | [w0], _ => by
          have z : us = [w0] := map_some_inj hu
          subst z
          rfl⟩
    · obtain ⟨e1, e2⟩ := c.exc 5 (d := xd5) rfl
      exact ⟨by decide, xk_of rfl xt5 e1 e2 rfl rfl rfl (by decide +kernel) rfl (by decide) fun _ _ _ _ _ _ x ws us hl hu => match ws, hl with
        | [w0], _ => by
          have z : us = [w0] := map_some_inj hu
          subst z
          rfl⟩
    · obtain ⟨e1, e2⟩ := c.exc 4 (d := xd4) rfl
      exact ⟨by decide, xk_of rfl xt4 e1 e2 rfl rfl rfl (by decide +kernel) rfl (by decide) fun _ _ _ _ _ _ x ws us hl hu => match ws, hl with
        | [w0], _ => by
          have z : us = [w0] := map_some_inj hu
          subst z
          rfl⟩
    · obtain ⟨e1, e2⟩ := c.exc 3 (d := xd3) rfl
      exact ⟨by decide, xk_of rfl xt3 e1 e2 rfl rfl rfl (by decide +kernel) rfl (by decide) fun _ _ _ _ _ _ x ws us hl hu => match ws, hl with
        | [w0], _ => by
          have z : us = [w0] := map_some_inj hu
          subst z
          rfl⟩
    · obtain ⟨e1, e2⟩ := c.exc 2 (d := xd2) rfl
      exact ⟨by decide, xk_of rfl xt2 e1 e2 rfl rfl rfl (by decide +kernel) rfl (by decide) fun _ _ _ _ _ _ x ws us hl hu => match ws, hl with
        | [w0], _ => by
          have z : us = [w0] := map_some_inj hu
          subst z
          rfl⟩
    · obtain ⟨e1, e2⟩ := c.exc 1 (d := xd1) rfl
      exact ⟨by decide, xk_of rfl xt1 e1 e2 rfl rfl rfl (by decide +kernel) rfl (by decide) fun _ _ _ _ _ _ x ws us hl hu => match ws, hl with
        | [w0], _ => by
          have z : us = [w0] := map_some_inj hu
          subst z
          rfl⟩
    · obtain ⟨e1, e2⟩ := c.exc 0 (d := xd0) rfl
      exact ⟨by decide, xk_of rfl xt0 e1 e2 rfl rfl rfl (by decide +kernel) rfl (by decide) fun _ _ _ _ _ _ x ws us hl hu => match ws, hl with
        | [w0], _ => by
          have z : us = [w0] := map_some_inj hu
          subst z
          rfl⟩
  · intro i e
    have e : tt.x0 i = true := e
    simp only [tt, Bool.or_eq_true, beq_iff_eq] at e
    unfold exN at m2
    rw [List.all_eq_true] at m2
    rcases e with rfl
    · exact ⟨by decide, xnB_ok (m2 "NothingToUndo" (by decide))⟩
theorem gb (X : K.In h) (G : h.Ns mainGlobals mg) (c : SaysX fileN fa dfs xs exF K) : Gb (TT K) prog tt Ns mg Pg := by
  have fact : ∀ f ∈ fa, f.ok K = true := fun f hf => says_fact c.base hf
  have glo : ∀ z ∈ gnm ++ xnm, mg z = some (.ref (He.ga K z)) := fun z hz => He.glo_ok X G (fact _ (by
    rcases List.mem_append.mp hz with q | q
    · exact List.mem_append_right _ (List.mem_append_left _ (List.mem_map_of_mem q))
    · exact List.mem_append_right _ (List.mem_append_right _ (List.mem_append_left _ (List.mem_map_of_mem q)))))
  refine ⟨fun z hz => He.free_ok X G (fact _ (List.mem_append_left _ (List.mem_map_of_mem hz))), ?_, ?_, fun c f z => (nomatch z), fun c z => absurd z (Nat.not_lt_zero _), fun m c f z => (nomatch z), fun c f j z => (nomatch z), fun c => Nat.zero_lt_succ _, ?_, ?_, ?_, ?_, ?_, gx c⟩
  · intro f hf hg
    have a : ∀ f, f < 5 → ats.getD f ("", none) = (tt.fname f, none) ∧ tt.fname f ∈ gnm := by decide +kernel
    obtain ⟨a1, a2⟩ := a f hf
    rw [glo _ (List.mem_append_left _ a2)]
    show _ = some (Value.ref (He.fAd K (ats.getD f ("", none))))
    rw [a1]
    rfl
  · intro f b e
    have a : ∀ f, f < 5 → ∀ b, prog.fns[f]? = some b → (Ns f).length = b.nslots ∧ b.modes.length ≤ b.nslots ∧ b.init = false := by
      intro f hf
      have z : ∀ f, f < 5 → (match prog.fns[f]? with | some b => decide ((Ns f).length = b.nslots) && (decide (b.modes.length ≤ b.nslots) && !b.init) | none => true) = true := by decide +kernel
      have z := z f hf
      intro b e
      rw [e] at z
      simpa using z
    have hf : f < 5 := (List.getElem?_eq_some_iff.mp e).1
    obtain ⟨a1, a2, a3⟩ := a f hf b e
    exact ⟨a1, a2, fun z => by rw [a3] at z; cases z⟩
  · intro f i j e
    have e : xfld i f = some j := e
    unfold xfld at e
    split at e
    · cases e
      obtain ⟨e1, e2⟩ := c.exc 0 (d := xd0) rfl
      exact xf_of rfl xt0 e1 e2 rfl rfl (show ((["value"] : List PySem.Str)).Nodup by decide +kernel) rfl
    · cases e
      obtain ⟨e1, e2⟩ := c.exc 1 (d := xd1) rfl
      exact xf_of rfl xt1 e1 e2 rfl rfl (show ((["value"] : List PySem.Str)).Nodup by decide +kernel) rfl
    · cases e
      obtain ⟨e1, e2⟩ := c.exc 2 (d := xd2) rfl
      exact xf_of rfl xt2 e1 e2 rfl rfl (show ((["index"] : List PySem.Str)).Nodup by decide +kernel) rfl
    · cases e
      obtain ⟨e1, e2⟩ := c.exc 3 (d := xd3) rfl
      exact xf_of rfl xt3 e1 e2 rfl rfl (show ((["value"] : List PySem.Str)).Nodup by decide +kernel) rfl
    · cases e
      obtain ⟨e1, e2⟩ := c.exc 4 (d := xd4) rfl
      exact xf_of rfl xt4 e1 e2 rfl rfl (show ((["line"] : List PySem.Str)).Nodup by decide +kernel) rfl
    · cases e
      obtain ⟨e1, e2⟩ := c.exc 5 (d := xd5) rfl
      exact xf_of rfl xt5 e1 e2 rfl rfl (show ((["limit"] : List PySem.Str)).Nodup by decide +kernel) rfl
    · cases e
      obtain ⟨e1, e2⟩ := c.exc 6 (d := xd6) rfl
      exact xf_of rfl xt6 e1 e2 rfl rfl (show ((["value"] : List PySem.Str)).Nodup by decide +kernel) rfl
    · cases e
      obtain ⟨e1, e2⟩ := c.exc 7 (d := xd7) rfl
      exact xf_of rfl xt7 e1 e2 rfl rfl (show ((["value"] : List PySem.Str)).Nodup by decide +kernel) rfl
    · cases e
      obtain ⟨e1, e2⟩ := c.exc 8 (d := xd8) rfl
      exact xf_of rfl xt8 e1 e2 rfl rfl (show ((["reason", "names"] : List PySem.Str)).Nodup by decide +kernel) rfl
    · cases e
      obtain ⟨e1, e2⟩ := c.exc 8 (d := xd8) rfl
      exact xf_of rfl xt8 e1 e2 rfl rfl (show ((["reason", "names"] : List PySem.Str)).Nodup by decide +kernel) rfl
    · cases e
  · intro k hk
    have a : ∀ k, k < 11 → tt.xname k ∈ xnm ∧ tt.xname k = xnm.getD k "" := by decide +kernel
    obtain ⟨a1, a2⟩ := a k hk
    rw [glo _ (List.mem_append_right _ a1), a2]
    rfl
  · intro k hk
    have hk : k < 9 := hk
    match k, hk with
    | 0, _ =>
      obtain ⟨e1, e2⟩ := c.exc 0 (d := xd0) rfl
      exact ⟨by decide, xcOk_of rfl xt0 e1 e2 rfl rfl rfl (by decide +kernel) (show ((["value"] : List PySem.Str)).Nodup by decide +kernel) rfl⟩
    | 1, _ =>
      obtain ⟨e1, e2⟩ := c.exc 1 (d := xd1) rfl
      exact ⟨by decide, xcOk_of rfl xt1 e1 e2 rfl rfl rfl (by decide +kernel) (show ((["value"] : List PySem.Str)).Nodup by decide +kernel) rfl⟩
    | 2, _ =>
      obtain ⟨e1, e2⟩ := c.exc 2 (d := xd2) rfl
      exact ⟨by decide, xcOk_of rfl xt2 e1 e2 rfl rfl rfl (by decide +kernel) (show ((["index"] : List PySem.Str)).Nodup by decide +kernel) rfl⟩
    | 3, _ =>
      obtain ⟨e1, e2⟩ := c.exc 3 (d := xd3) rfl
      exact ⟨by decide, xcOk_of rfl xt3 e1 e2 rfl rfl rfl (by decide +kernel) (show ((["value"] : List PySem.Str)).Nodup by decide +kernel) rfl⟩
    | 4, _ =>
      obtain ⟨e1, e2⟩ := c.exc 4 (d := xd4) rfl
      exact ⟨by decide, xcOk_of rfl xt4 e1 e2 rfl rfl rfl (by decide +kernel) (show ((["line"] : List PySem.Str)).Nodup by decide +kernel) rfl⟩
    | 5, _ =>
      obtain ⟨e1, e2⟩ := c.exc 5 (d := xd5) rfl
      exact ⟨by decide, xcOk_of rfl xt5 e1 e2 rfl rfl rfl (by decide +kernel) (show ((["limit"] : List PySem.Str)).Nodup by decide +kernel) rfl⟩
    | 6, _ =>
      obtain ⟨e1, e2⟩ := c.exc 6 (d := xd6) rfl
      exact ⟨by decide, xcOk_of rfl xt6 e1 e2 rfl rfl rfl (by decide +kernel) (show ((["value"] : List PySem.Str)).Nodup by decide +kernel) rfl⟩
    | 7, _ =>
      obtain ⟨e1, e2⟩ := c.exc 7 (d := xd7) rfl
      exact ⟨by decide, xcOk_of rfl xt7 e1 e2 rfl rfl rfl (by decide +kernel) (show ((["value"] : List PySem.Str)).Nodup by decide +kernel) rfl⟩
    | 8, _ =>
      obtain ⟨e1, e2⟩ := c.exc 8 (d := xd8) rfl
      exact ⟨by decide, xcOk_of rfl xt8 e1 e2 rfl rfl rfl (by decide +kernel) (show ((["reason", "names"] : List PySem.Str)).Nodup by decide +kernel) rfl⟩
    | k + 9, hk => exact absurd hk (by omega)
  · intro i k v e
    have z := exm_in e
    exact He.exm_ok (fact (.exm _ _ _) (List.mem_append_right _ (List.mem_append_right _ (List.mem_append_right _ (List.mem_map.mpr ⟨_, z, rfl⟩)))))
  · exact ⟨fun c z => absurd z (Nat.not_lt_zero _), fun c k z => absurd z (Nat.not_lt_zero _), fun c z => absurd z (Nat.not_lt_zero _), fun k z => absurd z (Nat.not_lt_zero _)⟩
def sts : List PySem.Stmt := [s0, s1, s2, s3, s4]
theorem df {fdt : Nat → FuncData} (hF : ∀ (i : Nat) (d : He.DefD), dfs[i]? = some d → FunD K d.name d.qual d.params d.body d.scope (d.dvs K) (d.kws K) (He.fAd K d.at_) (fdt i)) (f : Nat) (b : Fd) (e : prog.fns[f]? = some b) : DfOk (TT K) prog tt Ns ps fdt f b := by
  match f, e with
  | 0, e => cases e; exact ⟨⟨_, _, s0, fun_of (hF 0 d0 rfl), sc0, rfl, c0⟩, bd0 (hF 0 d0 rfl)⟩
  | 1, e => cases e; exact ⟨⟨_, _, s1, fun_of (hF 1 d1 rfl), sc1, rfl, c1⟩, bd1 (hF 1 d1 rfl)⟩
  | 2, e => cases e; exact ⟨⟨_, _, s2, fun_of (hF 2 d2 rfl), sc2, rfl, c2⟩, bd2 (hF 2 d2 rfl)⟩
  | 3, e => cases e; exact ⟨⟨_, _, s3, fun_of (hF 3 d3 rfl), sc3, rfl, c3⟩, bd3 (hF 3 d3 rfl)⟩
  | 4, e => cases e; exact ⟨⟨_, _, s4, fun_of (hF 4 d4 rfl), sc4, rfl, c4⟩, bd4 (hF 4 d4 rfl)⟩
  | n + 5, e => exact absurd (List.getElem?_eq_some_iff.mp e).1 (by show ¬ n + 5 < 5; omega)
end
/-- what the mathematics is to show -/
def Math : Prop := ∀ ns : List Int, ns.length ≤ 63 → ∃ h', prog.run 10 4 [.zst (ns.map .int)] [] = .ok (.bl true) false h'
end Tr
open PySem PySem.W PySem.Calls PyProof.Rows
theorem Tr.holds (math : Tr.Math) : PySem.Challenge.rw_mouldyard_k09_errors.Holds := by
  w_on; o_law
  refine HandSHeadRun.head_any (r := OpenLaw.row PySem.Challenge.rw_mouldyard_k09_errors) (q := view (OpenLaw.row PySem.Challenge.rw_mouldyard_k09_errors).prog [17]) (H := Tr.hk) (ob := Tr.ob) (M := 3000) (loose := Tr.loose) (d := HandSHeadRun.topDef (OpenLaw.row PySem.Challenge.rw_mouldyard_k09_errors).prog 17) (kwd := []) Tr.ob_eq
    (by kernel_rfl) (fun s => by kernel_rfl) Tr.run (by kernel_rfl) (by kernel_rfl) (by kernel_rfl) (by rfl) (by first | assumption | decide +kernel) (by decide +kernel) ⟨rfl, rfl, rfl, rfl, rfl, by decide +kernel⟩ ?hw ?hc
  case hw => w_witness2
  case hc =>
    refine Ev.walk_ofG (l := PySem.Challenge.rw_mouldyard_k09_errors) (n := 63) (k := 20) (x := "script") (C := fun w => L2.CX Tr.Pg w) rfl (by decide) (by kernel_rfl) ⟨rfl, by decide, by decide⟩ ?F ?no
    case no =>
      intro w H s e s' ⟨a, B, H', cls, d, _, _, _, _, _, _, _, z⟩
      exact z
    case F =>
      intro w mg fa h Y G hmg0
      obtain ⟨K, KX, c⟩ := Y
      have hmg : mg ("law" : PySem.Str) = some (.ref fa) := by
        have e : (HandSHeadRun.topDef (OpenLaw.row PySem.Challenge.rw_mouldyard_k09_errors).prog 17).name = ("law" : PySem.Str) := by kernel_rfl
        rw [← e]
        exact hmg0
      obtain ⟨fdt, hF⟩ := Ev.fds c.base
      have g := Tr.gb KX G c
      have e := hmg.symm.trans (g.fn 4 (by decide) rfl)
      cases e
      refine ⟨K, fdt 4, Ev.spEv (Tr.TT K) Tr.prog Tr.Ns 10 4, KX, ?_, fun H a ns hl _ hS => Ev.law_sp rfl rfl rfl rfl (by decide) math H a ns hl hS, fun base KB GB => Ev.all_fns (Tr.gb KB GB c) rfl (Tr.df hF) 10 4 (by decide)⟩
      have b := L2.FunD.bindsA (ps := ["script"]) (hF 4 Tr.d4 rfl) fun _ _ _ _ _ _ us hl => match us, hl with | [_], _ => rfl
      exact fun s v => b s [v] rfl
end
section
set_option Elab.async false
set_option linter.all false
set_option maxRecDepth 100000
set_option maxHeartbeats 1000000
namespace Tr
open Ev
theorem f0 : prog.fns[0]? = some bTaken := rfl
theorem f2 : prog.fns[2]? = some (bAlike 2) := rfl
theorem md0 : prog.modes 0 = [.pu, .pu] := rfl
theorem md1 : prog.modes 1 = [.pu, .pu] := rfl
theorem md2 : prog.modes 2 = [.pu, .pu] := rfl
theorem md3 : prog.modes 3 = [.pu, .pu, .pu] := rfl
theorem pick {n : Nat} {l : List D} {ns : List Int} {R : D} (h0 : 0 < l.length) (h1 : l.length < 1000) (hR : DrR ns R) : ∃ (j : Nat) (hj : j < l.length) (R' : D), prog.run (n + 2) 1 [.loc 0, .lst l] [R] = .ok l[j] false [R'] ∧ DrR ns R' := by
  obtain ⟨x, R', t, x0, x1, h⟩ := taken (p := prog) (n := n) (r := []) f0 (m := l.length) (by omega) (by omega) hR
  have hj : x.toNat < l.length := by omega
  refine ⟨x.toNat, hj, R', ?_, h⟩
  have g : l[x.toNat]? = some l[x.toNat] := List.getElem?_eq_getElem hj
  rw [run_eq (fd := b1) rfl rfl]
  unfold b1
  simp [evE.eq_1, evE.eq_2, evE.eq_3, evE.eq_4, evE.eq_5, evE.eq_6, evE.eq_7, evE.eq_8, evE.eq_9, evE.eq_10, evE.eq_11, evE.eq_12, evE.eq_13, evE.eq_14, evE.eq_15, evE.eq_16, evE.eq_17, evE.eq_18, evE.eq_19, evE.eq_20, evE.eq_21, evE.eq_22, evE.eq_23, evE.eq_24, evE.eq_25, evE.eq_26, evE.eq_27, evE.eq_28, evE.eq_29, evE_comp, evE_rngl1, evE_rngl2, evE_isx, evE_xkw, evS.eq_1, evS.eq_2, evS.eq_3, evS.eq_4, evS.eq_5, evS.eq_6, evS.eq_7, evS.eq_8, evS.eq_9, evS.eq_10, evS.eq_11, evS.eq_12, evS.eq_13, evS.eq_16, evS.eq_17, evS.eq_18, evS.eq_19, evS.eq_20, evS.eq_21, evS.eq_22, evS_whl, evS_for, evEs, evRs, evEo, evC, evIt, evSs, evHs, evF, ro, roK, look, looks, lookF, viewH, opB, opC, cmpI, opIx, ixI, opBi, tOf, iOf, slotsOf, slotOf, endF, RE.lift, RE.fst, RE.bind, RE.thenS, RS.seq, RC.reB, callG, passA, passOne, asgTg, asgTgs, g_run, g_modes, g_w, g_sub, g_ncls, g_xfld, szOk_lit, turnQ, List.zipWith, walkOf, md0, t, x0, x1, g]
/-! ### what is raised -/
def kinds (k : Nat) : List D := (List.range 10).map fun j => .bl (decide (j = k))
def fld9 (k : Nat) (v nm : D) : D := if k = 9 then .non else if k = 8 then .tup [v, nm] else v
section
variable {n : Nat} {v nm : D} {h : List D}
theorem ps_sub : prog.sub = sub := rfl
theorem ps_xfld : prog.xfld = xfld := rfl
abbrev told (k : Nat) (v nm : D) : D := .tup [.lst (kinds k), fld9 k v nm]
theorem eqI {i j : Int} : eqD (.int i) (.int j) = some (i == j) := rfl
theorem rz0 : prog.run (n + 1) 3 [.int 0, v, nm] h = .ok (told 0 v nm) false h := by
  rw [run_eq (fd := b3) rfl rfl]
  have k : kinds 0 = [.bl true, .bl false, .bl false, .bl false, .bl false, .bl false, .bl false, .bl false, .bl false, .bl false] := rfl
  have z : inD (.int 0) (.lst [.int 0, .int 1, .int 3, .int 6, .int 7]) = some true := rfl
  unfold b3
  simp [evE.eq_1, evE.eq_2, evE.eq_3, evE.eq_4, evE.eq_5, evE.eq_6, evE.eq_7, evE.eq_8, evE.eq_9, evE.eq_10, evE.eq_11, evE.eq_12, evE.eq_13, evE.eq_14, evE.eq_15, evE.eq_16, evE.eq_17, evE.eq_18, evE.eq_19, evE.eq_20, evE.eq_21, evE.eq_22, evE.eq_23, evE.eq_24, evE.eq_25, evE.eq_26, evE.eq_27, evE.eq_28, evE.eq_29, evE_comp, evE_rngl1, evE_rngl2, evE_isx, evE_xkw, evS.eq_1, evS.eq_2, evS.eq_3, evS.eq_4, evS.eq_5, evS.eq_6, evS.eq_7, evS.eq_8, evS.eq_9, evS.eq_10, evS.eq_11, evS.eq_12, evS.eq_13, evS.eq_16, evS.eq_17, evS.eq_18, evS.eq_19, evS.eq_20, evS.eq_21, evS.eq_22, evS_whl, evS_for, evEs, evRs, evEo, evC, evIt, evSs, evHs, evF, ro, roK, look, looks, lookF, viewH, opB, opC, cmpI, opIx, ixI, opBi, tOf, iOf, slotsOf, slotOf, endF, RE.lift, RE.fst, RE.bind, RE.thenS, RS.seq, RC.reB, callG, passA, passOne, asgTg, asgTgs, g_run, g_modes, g_w, g_sub, g_ncls, g_xfld, szOk_lit, turnQ, List.zipWith, walkOf, noEx, inX, outX, evHs, ps_sub, ps_xfld, sub, subT, xfld, xtyG, eqI, z, told, k, fld9]
theorem rz1 : prog.run (n + 1) 3 [.int 1, v, nm] h = .ok (told 1 v nm) false h := by
  rw [run_eq (fd := b3) rfl rfl]
  have k : kinds 1 = [.bl false, .bl true, .bl false, .bl false, .bl false, .bl false, .bl false, .bl false, .bl false, .bl false] := rfl
  have z : inD (.int 1) (.lst [.int 0, .int 1, .int 3, .int 6, .int 7]) = some true := rfl
  unfold b3
  simp [evE.eq_1, evE.eq_2, evE.eq_3, evE.eq_4, evE.eq_5, evE.eq_6, evE.eq_7, evE.eq_8, evE.eq_9, evE.eq_10, evE.eq_11, evE.eq_12, evE.eq_13, evE.eq_14, evE.eq_15, evE.eq_16, evE.eq_17, evE.eq_18, evE.eq_19, evE.eq_20, evE.eq_21, evE.eq_22, evE.eq_23, evE.eq_24, evE.eq_25, evE.eq_26, evE.eq_27, evE.eq_28, evE.eq_29, evE_comp, evE_rngl1, evE_rngl2, evE_isx, evE_xkw, evS.eq_1, evS.eq_2, evS.eq_3, evS.eq_4, evS.eq_5, evS.eq_6, evS.eq_7, evS.eq_8, evS.eq_9, evS.eq_10, evS.eq_11, evS.eq_12, evS.eq_13, evS.eq_16, evS.eq_17, evS.eq_18, evS.eq_19, evS.eq_20, evS.eq_21, evS.eq_22, evS_whl, evS_for, evEs, evRs, evEo, evC, evIt, evSs, evHs, evF, ro, roK, look, looks, lookF, viewH, opB, opC, cmpI, opIx, ixI, opBi, tOf, iOf, slotsOf, slotOf, endF, RE.lift, RE.fst, RE.bind, RE.thenS, RS.seq, RC.reB, callG, passA, passOne, asgTg, asgTgs, g_run, g_modes, g_w, g_sub, g_ncls, g_xfld, szOk_lit, turnQ, List.zipWith, walkOf, noEx, inX, outX, evHs, ps_sub, ps_xfld, sub, subT, xfld, xtyG, eqI, z, told, k, fld9]
theorem rz2 : prog.run (n + 1) 3 [.int 2, v, nm] h = .ok (told 2 v nm) false h := by
  rw [run_eq (fd := b3) rfl rfl]
  have k : kinds 2 = [.bl false, .bl false, .bl true, .bl false, .bl false, .bl false, .bl false, .bl false, .bl false, .bl false] := rfl
  have z : inD (.int 2) (.lst [.int 0, .int 1, .int 3, .int 6, .int 7]) = some false := rfl
  unfold b3
  simp [evE.eq_1, evE.eq_2, evE.eq_3, evE.eq_4, evE.eq_5, evE.eq_6, evE.eq_7, evE.eq_8, evE.eq_9, evE.eq_10, evE.eq_11, evE.eq_12, evE.eq_13, evE.eq_14, evE.eq_15, evE.eq_16, evE.eq_17, evE.eq_18, evE.eq_19, evE.eq_20, evE.eq_21, evE.eq_22, evE.eq_23, evE.eq_24, evE.eq_25, evE.eq_26, evE.eq_27, evE.eq_28, evE.eq_29, evE_comp, evE_rngl1, evE_rngl2, evE_isx, evE_xkw, evS.eq_1, evS.eq_2, evS.eq_3, evS.eq_4, evS.eq_5, evS.eq_6, evS.eq_7, evS.eq_8, evS.eq_9, evS.eq_10, evS.eq_11, evS.eq_12, evS.eq_13, evS.eq_16, evS.eq_17, evS.eq_18, evS.eq_19, evS.eq_20, evS.eq_21, evS.eq_22, evS_whl, evS_for, evEs, evRs, evEo, evC, evIt, evSs, evHs, evF, ro, roK, look, looks, lookF, viewH, opB, opC, cmpI, opIx, ixI, opBi, tOf, iOf, slotsOf, slotOf, endF, RE.lift, RE.fst, RE.bind, RE.thenS, RS.seq, RC.reB, callG, passA, passOne, asgTg, asgTgs, g_run, g_modes, g_w, g_sub, g_ncls, g_xfld, szOk_lit, turnQ, List.zipWith, walkOf, noEx, inX, outX, evHs, ps_sub, ps_xfld, sub, subT, xfld, xtyG, eqI, z, told, k, fld9]
theorem rz3 : prog.run (n + 1) 3 [.int 3, v, nm] h = .ok (told 3 v nm) false h := by
  rw [run_eq (fd := b3) rfl rfl]
  have k : kinds 3 = [.bl false, .bl false, .bl false, .bl true, .bl false, .bl false, .bl false, .bl false, .bl false, .bl false] := rfl
  have z : inD (.int 3) (.lst [.int 0, .int 1, .int 3, .int 6, .int 7]) = some true := rfl
  unfold b3
  simp [evE.eq_1, evE.eq_2, evE.eq_3, evE.eq_4, evE.eq_5, evE.eq_6, evE.eq_7, evE.eq_8, evE.eq_9, evE.eq_10, evE.eq_11, evE.eq_12, evE.eq_13, evE.eq_14, evE.eq_15, evE.eq_16, evE.eq_17, evE.eq_18, evE.eq_19, evE.eq_20, evE.eq_21, evE.eq_22, evE.eq_23, evE.eq_24, evE.eq_25, evE.eq_26, evE.eq_27, evE.eq_28, evE.eq_29, evE_comp, evE_rngl1, evE_rngl2, evE_isx, evE_xkw, evS.eq_1, evS.eq_2, evS.eq_3, evS.eq_4, evS.eq_5, evS.eq_6, evS.eq_7, evS.eq_8, evS.eq_9, evS.eq_10, evS.eq_11, evS.eq_12, evS.eq_13, evS.eq_16, evS.eq_17, evS.eq_18, evS.eq_19, evS.eq_20, evS.eq_21, evS.eq_22, evS_whl, evS_for, evEs, evRs, evEo, evC, evIt, evSs, evHs, evF, ro, roK, look, looks, lookF, viewH, opB, opC, cmpI, opIx, ixI, opBi, tOf, iOf, slotsOf, slotOf, endF, RE.lift, RE.fst, RE.bind, RE.thenS, RS.seq, RC.reB, callG, passA, passOne, asgTg, asgTgs, g_run, g_modes, g_w, g_sub, g_ncls, g_xfld, szOk_lit, turnQ, List.zipWith, walkOf, noEx, inX, outX, evHs, ps_sub, ps_xfld, sub, subT, xfld, xtyG, eqI, z, told, k, fld9]
theorem rz4 : prog.run (n + 1) 3 [.int 4, v, nm] h = .ok (told 4 v nm) false h := by
  rw [run_eq (fd := b3) rfl rfl]
  have k : kinds 4 = [.bl false, .bl false, .bl false, .bl false, .bl true, .bl false, .bl false, .bl false, .bl false, .bl false] := rfl
  have z : inD (.int 4) (.lst [.int 0, .int 1, .int 3, .int 6, .int 7]) = some false := rfl
  unfold b3
  simp [evE.eq_1, evE.eq_2, evE.eq_3, evE.eq_4, evE.eq_5, evE.eq_6, evE.eq_7, evE.eq_8, evE.eq_9, evE.eq_10, evE.eq_11, evE.eq_12, evE.eq_13, evE.eq_14, evE.eq_15, evE.eq_16, evE.eq_17, evE.eq_18, evE.eq_19, evE.eq_20, evE.eq_21, evE.eq_22, evE.eq_23, evE.eq_24, evE.eq_25, evE.eq_26, evE.eq_27, evE.eq_28, evE.eq_29, evE_comp, evE_rngl1, evE_rngl2, evE_isx, evE_xkw, evS.eq_1, evS.eq_2, evS.eq_3, evS.eq_4, evS.eq_5, evS.eq_6, evS.eq_7, evS.eq_8, evS.eq_9, evS.eq_10, evS.eq_11, evS.eq_12, evS.eq_13, evS.eq_16, evS.eq_17, evS.eq_18, evS.eq_19, evS.eq_20, evS.eq_21, evS.eq_22, evS_whl, evS_for, evEs, evRs, evEo, evC, evIt, evSs, evHs, evF, ro, roK, look, looks, lookF, viewH, opB, opC, cmpI, opIx, ixI, opBi, tOf, iOf, slotsOf, slotOf, endF, RE.lift, RE.fst, RE.bind, RE.thenS, RS.seq, RC.reB, callG, passA, passOne, asgTg, asgTgs, g_run, g_modes, g_w, g_sub, g_ncls, g_xfld, szOk_lit, turnQ, List.zipWith, walkOf, noEx, inX, outX, evHs, ps_sub, ps_xfld, sub, subT, xfld, xtyG, eqI, z, told, k, fld9]
theorem rz5 : prog.run (n + 1) 3 [.int 5, v, nm] h = .ok (told 5 v nm) false h := by
  rw [run_eq (fd := b3) rfl rfl]
  have k : kinds 5 = [.bl false, .bl false, .bl false, .bl false, .bl false, .bl true, .bl false, .bl false, .bl false, .bl false] := rfl
  have z : inD (.int 5) (.lst [.int 0, .int 1, .int 3, .int 6, .int 7]) = some false := rfl
  unfold b3
  simp [evE.eq_1, evE.eq_2, evE.eq_3, evE.eq_4, evE.eq_5, evE.eq_6, evE.eq_7, evE.eq_8, evE.eq_9, evE.eq_10, evE.eq_11, evE.eq_12, evE.eq_13, evE.eq_14, evE.eq_15, evE.eq_16, evE.eq_17, evE.eq_18, evE.eq_19, evE.eq_20, evE.eq_21, evE.eq_22, evE.eq_23, evE.eq_24, evE.eq_25, evE.eq_26, evE.eq_27, evE.eq_28, evE.eq_29, evE_comp, evE_rngl1, evE_rngl2, evE_isx, evE_xkw, evS.eq_1, evS.eq_2, evS.eq_3, evS.eq_4, evS.eq_5, evS.eq_6, evS.eq_7, evS.eq_8, evS.eq_9, evS.eq_10, evS.eq_11, evS.eq_12, evS.eq_13, evS.eq_16, evS.eq_17, evS.eq_18, evS.eq_19, evS.eq_20, evS.eq_21, evS.eq_22, evS_whl, evS_for, evEs, evRs, evEo, evC, evIt, evSs, evHs, evF, ro, roK, look, looks, lookF, viewH, opB, opC, cmpI, opIx, ixI, opBi, tOf, iOf, slotsOf, slotOf, endF, RE.lift, RE.fst, RE.bind, RE.thenS, RS.seq, RC.reB, callG, passA, passOne, asgTg, asgTgs, g_run, g_modes, g_w, g_sub, g_ncls, g_xfld, szOk_lit, turnQ, List.zipWith, walkOf, noEx, inX, outX, evHs, ps_sub, ps_xfld, sub, subT, xfld, xtyG, eqI, z, told, k, fld9]
theorem rz6 : prog.run (n + 1) 3 [.int 6, v, nm] h = .ok (told 6 v nm) false h := by
  rw [run_eq (fd := b3) rfl rfl]
  have k : kinds 6 = [.bl false, .bl false, .bl false, .bl false, .bl false, .bl false, .bl true, .bl false, .bl false, .bl false] := rfl
  have z : inD (.int 6) (.lst [.int 0, .int 1, .int 3, .int 6, .int 7]) = some true := rfl
  unfold b3
  simp [evE.eq_1, evE.eq_2, evE.eq_3, evE.eq_4, evE.eq_5, evE.eq_6, evE.eq_7, evE.eq_8, evE.eq_9, evE.eq_10, evE.eq_11, evE.eq_12, evE.eq_13, evE.eq_14, evE.eq_15, evE.eq_16, evE.eq_17, evE.eq_18, evE.eq_19, evE.eq_20, evE.eq_21, evE.eq_22, evE.eq_23, evE.eq_24, evE.eq_25, evE.eq_26, evE.eq_27, evE.eq_28, evE.eq_29, evE_comp, evE_rngl1, evE_rngl2, evE_isx, evE_xkw, evS.eq_1, evS.eq_2, evS.eq_3, evS.eq_4, evS.eq_5, evS.eq_6, evS.eq_7, evS.eq_8, evS.eq_9, evS.eq_10, evS.eq_11, evS.eq_12, evS.eq_13, evS.eq_16, evS.eq_17, evS.eq_18, evS.eq_19, evS.eq_20, evS.eq_21, evS.eq_22, evS_whl, evS_for, evEs, evRs, evEo, evC, evIt, evSs, evHs, evF, ro, roK, look, looks, lookF, viewH, opB, opC, cmpI, opIx, ixI, opBi, tOf, iOf, slotsOf, slotOf, endF, RE.lift, RE.fst, RE.bind, RE.thenS, RS.seq, RC.reB, callG, passA, passOne, asgTg, asgTgs, g_run, g_modes, g_w, g_sub, g_ncls, g_xfld, szOk_lit, turnQ, List.zipWith, walkOf, noEx, inX, outX, evHs, ps_sub, ps_xfld, sub, subT, xfld, xtyG, eqI, z, told, k, fld9]
theorem rz7 : prog.run (n + 1) 3 [.int 7, v, nm] h = .ok (told 7 v nm) false h := by
  rw [run_eq (fd := b3) rfl rfl]
  have k : kinds 7 = [.bl false, .bl false, .bl false, .bl false, .bl false, .bl false, .bl false, .bl true, .bl false, .bl false] := rfl
  have z : inD (.int 7) (.lst [.int 0, .int 1, .int 3, .int 6, .int 7]) = some true := rfl
  unfold b3
  simp [evE.eq_1, evE.eq_2, evE.eq_3, evE.eq_4, evE.eq_5, evE.eq_6, evE.eq_7, evE.eq_8, evE.eq_9, evE.eq_10, evE.eq_11, evE.eq_12, evE.eq_13, evE.eq_14, evE.eq_15, evE.eq_16, evE.eq_17, evE.eq_18, evE.eq_19, evE.eq_20, evE.eq_21, evE.eq_22, evE.eq_23, evE.eq_24, evE.eq_25, evE.eq_26, evE.eq_27, evE.eq_28, evE.eq_29, evE_comp, evE_rngl1, evE_rngl2, evE_isx, evE_xkw, evS.eq_1, evS.eq_2, evS.eq_3, evS.eq_4, evS.eq_5, evS.eq_6, evS.eq_7, evS.eq_8, evS.eq_9, evS.eq_10, evS.eq_11, evS.eq_12, evS.eq_13, evS.eq_16, evS.eq_17, evS.eq_18, evS.eq_19, evS.eq_20, evS.eq_21, evS.eq_22, evS_whl, evS_for, evEs, evRs, evEo, evC, evIt, evSs, evHs, evF, ro, roK, look, looks, lookF, viewH, opB, opC, cmpI, opIx, ixI, opBi, tOf, iOf, slotsOf, slotOf, endF, RE.lift, RE.fst, RE.bind, RE.thenS, RS.seq, RC.reB, callG, passA, passOne, asgTg, asgTgs, g_run, g_modes, g_w, g_sub, g_ncls, g_xfld, szOk_lit, turnQ, List.zipWith, walkOf, noEx, inX, outX, evHs, ps_sub, ps_xfld, sub, subT, xfld, xtyG, eqI, z, told, k, fld9]
theorem rz8 : prog.run (n + 1) 3 [.int 8, v, nm] h = .ok (told 8 v nm) false h := by
  rw [run_eq (fd := b3) rfl rfl]
  have k : kinds 8 = [.bl false, .bl false, .bl false, .bl false, .bl false, .bl false, .bl false, .bl false, .bl true, .bl false] := rfl
  have z : inD (.int 8) (.lst [.int 0, .int 1, .int 3, .int 6, .int 7]) = some false := rfl
  unfold b3
  simp [evE.eq_1, evE.eq_2, evE.eq_3, evE.eq_4, evE.eq_5, evE.eq_6, evE.eq_7, evE.eq_8, evE.eq_9, evE.eq_10, evE.eq_11, evE.eq_12, evE.eq_13, evE.eq_14, evE.eq_15, evE.eq_16, evE.eq_17, evE.eq_18, evE.eq_19, evE.eq_20, evE.eq_21, evE.eq_22, evE.eq_23, evE.eq_24, evE.eq_25, evE.eq_26, evE.eq_27, evE.eq_28, evE.eq_29, evE_comp, evE_rngl1, evE_rngl2, evE_isx, evE_xkw, evS.eq_1, evS.eq_2, evS.eq_3, evS.eq_4, evS.eq_5, evS.eq_6, evS.eq_7, evS.eq_8, evS.eq_9, evS.eq_10, evS.eq_11, evS.eq_12, evS.eq_13, evS.eq_16, evS.eq_17, evS.eq_18, evS.eq_19, evS.eq_20, evS.eq_21, evS.eq_22, evS_whl, evS_for, evEs, evRs, evEo, evC, evIt, evSs, evHs, evF, ro, roK, look, looks, lookF, viewH, opB, opC, cmpI, opIx, ixI, opBi, tOf, iOf, slotsOf, slotOf, endF, RE.lift, RE.fst, RE.bind, RE.thenS, RS.seq, RC.reB, callG, passA, passOne, asgTg, asgTgs, g_run, g_modes, g_w, g_sub, g_ncls, g_xfld, szOk_lit, turnQ, List.zipWith, walkOf, noEx, inX, outX, evHs, ps_sub, ps_xfld, sub, subT, xfld, xtyG, eqI, z, told, k, fld9]
theorem rz9 : prog.run (n + 1) 3 [.int 9, v, nm] h = .ok (told 9 v nm) false h := by
  rw [run_eq (fd := b3) rfl rfl]
  have k : kinds 9 = [.bl false, .bl false, .bl false, .bl false, .bl false, .bl false, .bl false, .bl false, .bl false, .bl true] := rfl
  have z : inD (.int 9) (.lst [.int 0, .int 1, .int 3, .int 6, .int 7]) = some false := rfl
  unfold b3
  simp [evE.eq_1, evE.eq_2, evE.eq_3, evE.eq_4, evE.eq_5, evE.eq_6, evE.eq_7, evE.eq_8, evE.eq_9, evE.eq_10, evE.eq_11, evE.eq_12, evE.eq_13, evE.eq_14, evE.eq_15, evE.eq_16, evE.eq_17, evE.eq_18, evE.eq_19, evE.eq_20, evE.eq_21, evE.eq_22, evE.eq_23, evE.eq_24, evE.eq_25, evE.eq_26, evE.eq_27, evE.eq_28, evE.eq_29, evE_comp, evE_rngl1, evE_rngl2, evE_isx, evE_xkw, evS.eq_1, evS.eq_2, evS.eq_3, evS.eq_4, evS.eq_5, evS.eq_6, evS.eq_7, evS.eq_8, evS.eq_9, evS.eq_10, evS.eq_11, evS.eq_12, evS.eq_13, evS.eq_16, evS.eq_17, evS.eq_18, evS.eq_19, evS.eq_20, evS.eq_21, evS.eq_22, evS_whl, evS_for, evEs, evRs, evEo, evC, evIt, evSs, evHs, evF, ro, roK, look, looks, lookF, viewH, opB, opC, cmpI, opIx, ixI, opBi, tOf, iOf, slotsOf, slotOf, endF, RE.lift, RE.fst, RE.bind, RE.thenS, RS.seq, RC.reB, callG, passA, passOne, asgTg, asgTgs, g_run, g_modes, g_w, g_sub, g_ncls, g_xfld, szOk_lit, turnQ, List.zipWith, walkOf, noEx, inX, outX, evHs, ps_sub, ps_xfld, sub, subT, xfld, xtyG, eqI, z, told, k, fld9]
end
end Tr
end
section
set_option Elab.async false
set_option linter.all false
set_option maxRecDepth 100000
set_option maxHeartbeats 1000000
namespace Tr
open Ev
abbrev q0 : S := .asgL 1 (.lst (.cons (.var 0) (.cons (.int 0) (.cons (.int 53) (.cons (.int 0) (.nil))))))
abbrev q1 : S := .for (.name 2) (.rng1 (.int 10)) (.cons (.asg 4 (.call 1 (.cons (.var 1) (.cons (.lst (.cons (.non) (.cons (.int 7) (.cons (.str "x") (.cons (.tup (.cons (.int 1) (.cons (.int 2) (.nil)))) (.cons (.bl true) (.cons (.call 0 (.cons (.var 1) (.cons (.bin .pow (.int 10) (.int 9)) (.nil)))) (.nil)))))))) (.nil))))) (.cons (.asg 5 (.call 1 (.cons (.var 1) (.cons (.lst (.cons (.tup (.nil)) (.cons (.tup (.cons (.str "a") (.nil))) (.nil)))) (.nil))))) (.cons (.asg 6 (.call 3 (.cons (.var 2) (.cons (.var 4) (.cons (.var 5) (.nil)))))) (.cons (.ifs (.or (.cmp .isN (.var 6) (.non)) (.cmp .ne (.ix (.var 6) (.int 0)) (.comp (.name 8) [8] (.rng1 (.int 10)) (.none) (.cmp .eq (.var 8) (.var 2))))) (.cons (.ret (.bl false)) (.nil)) (.nil)) (.cons (.asg 7 (.var 4)) (.cons (.ifs (.cmp .eq (.var 2) (.int 8)) (.cons (.asg 7 (.tup (.cons (.var 4) (.cons (.var 5) (.nil))))) (.nil)) (.nil)) (.cons (.ifs (.and (.cmp .lt (.var 2) (.int 9)) (.or (.cmp .ne (.ix (.var 6) (.int 1)) (.var 7)) (.cmp .ne (.isi (.ix (.var 6) (.int 1)) [.bool]) (.isi (.var 7) [.bool])))) (.cons (.ret (.bl false)) (.nil)) (.nil)) (.nil))))))))
abbrev q2 : S := .asg 3 (.lst (.cons (.xkw 0 (.cons (.int 1) (.nil)) [0] 0) (.cons (.xkw 1 (.cons (.str "a") (.nil)) [0] 0) (.cons (.xkw 2 (.cons (.int 4) (.nil)) [0] 1) (.cons (.xkw 3 (.cons (.int 5) (.nil)) [0] 0) (.cons (.xkw 4 (.cons (.int 6) (.nil)) [0] 2) (.nil)))))))
abbrev q3 : S := .asg 3 (.bin .add (.var 3) (.lst (.cons (.xkw 5 (.cons (.int 7) (.nil)) [0] 3) (.cons (.xkw 6 (.cons (.int 8) (.nil)) [0] 0) (.cons (.xkw 7 (.cons (.int 9) (.nil)) [0] 0) (.cons (.xkw 8 (.cons (.str "r") (.cons (.int 11) (.nil))) [0, 1] 5) (.cons (.xkw 8 (.cons (.int 1) (.cons (.str "s") (.nil))) [1, 0] 4) (.nil))))))))
abbrev q4 : S := .ret (.call 2 (.cons (.var 3) (.cons (.lst (.cons (.int 1) (.cons (.str "a") (.cons (.int 4) (.cons (.int 5) (.cons (.int 6) (.cons (.int 7) (.cons (.int 8) (.cons (.int 9) (.cons (.int 11) (.cons (.str "s") (.nil)))))))))))) (.nil))))
abbrev y0 : S := .asg 4 (.call 1 (.cons (.var 1) (.cons (.lst (.cons (.non) (.cons (.int 7) (.cons (.str "x") (.cons (.tup (.cons (.int 1) (.cons (.int 2) (.nil)))) (.cons (.bl true) (.cons (.call 0 (.cons (.var 1) (.cons (.bin .pow (.int 10) (.int 9)) (.nil)))) (.nil)))))))) (.nil))))
abbrev y1 : S := .asg 5 (.call 1 (.cons (.var 1) (.cons (.lst (.cons (.tup (.nil)) (.cons (.tup (.cons (.str "a") (.nil))) (.nil)))) (.nil))))
abbrev y2 : S := .asg 6 (.call 3 (.cons (.var 2) (.cons (.var 4) (.cons (.var 5) (.nil)))))
abbrev y3 : S := .ifs (.or (.cmp .isN (.var 6) (.non)) (.cmp .ne (.ix (.var 6) (.int 0)) (.comp (.name 8) [8] (.rng1 (.int 10)) (.none) (.cmp .eq (.var 8) (.var 2))))) (.cons (.ret (.bl false)) (.nil)) (.nil)
abbrev y4 : S := .asg 7 (.var 4)
abbrev y5 : S := .ifs (.cmp .eq (.var 2) (.int 8)) (.cons (.asg 7 (.tup (.cons (.var 4) (.cons (.var 5) (.nil))))) (.nil)) (.nil)
abbrev y6 : S := .ifs (.and (.cmp .lt (.var 2) (.int 9)) (.or (.cmp .ne (.ix (.var 6) (.int 1)) (.var 7)) (.cmp .ne (.isi (.ix (.var 6) (.int 1)) [.bool]) (.isi (.var 7) [.bool])))) (.cons (.ret (.bl false)) (.nil)) (.nil)
theorem b4_eq : b4 = ⟨9, [.pu], false, .cons q0 (.cons q1 (.cons q2 (.cons q3 (.cons q4 (.nil)))))⟩ := rfl
abbrev yB : Ss := .cons y0 (.cons y1 (.cons y2 (.cons y3 (.cons y4 (.cons y5 (.cons y6 (.nil)))))))
theorem q1_eq : q1 = .for (.name 2) (.rng1 (.int 10)) yB := rfl
section
variable {h : List D} {Z v nm due : D} {k : Nat} {s2 s4 s5 s6 s7 : SL}
theorem raised {n : Nat} : ∀ (k : Nat), k < 10 → prog.run (n + 1) 3 [.int (k : Nat), v, nm] h = .ok (told k v nm) false h
  | 0, _ => rz0 | 1, _ => rz1 | 2, _ => rz2 | 3, _ => rz3 | 4, _ => rz4 | 5, _ => rz5 | 6, _ => rz6 | 7, _ => rz7 | 8, _ => rz8 | 9, _ => rz9
  | k + 10, hk => absurd hk (by omega)
structure Val (v : D) : Prop where
  ok : v.ok DEPTH = true
  ok9 : v.ok 49 = true
  ty : tyOk 0 v = true
theorem Val.view (V : Val v) : viewH h v = some v := by
  have := V.ok
  cases v <;> first | rfl | cases this
abbrev A0 (Z : D) (s2 s4 s5 s6 s7 : SL) : List SL := [.pu Z, .pu (.loc 0), s2, .no, s4, s5, s6, s7, .no]
def lv (x : Int) : List D := [.non, .int 7, .str "x", .tup [.int 1, .int 2], .bl true, .int x]
theorem lv_val {x : Int} : ∀ d ∈ lv x, Val d := by
  intro d hd
  unfold lv at hd
  simp only [List.mem_cons, List.not_mem_nil, or_false] at hd
  rcases hd with rfl | rfl | rfl | rfl | rfl | rfl
  · exact ⟨rfl, rfl, rfl⟩
  · exact ⟨rfl, rfl, rfl⟩
  · exact ⟨by decide +kernel, by decide +kernel, rfl⟩
  · exact ⟨rfl, rfl, rfl⟩
  · exact ⟨rfl, rfl, rfl⟩
  · exact ⟨rfl, rfl, rfl⟩
def ln : List D := [.tup [], .tup [.str "a"]]
theorem ln_val : ∀ d ∈ ln, Val d := by
  intro d hd
  unfold ln at hd
  simp only [List.mem_cons, List.not_mem_nil, or_false] at hd
  rcases hd with rfl | rfl
  · exact ⟨rfl, rfl, rfl⟩
  · exact ⟨by decide +kernel, by decide +kernel, rfl⟩
theorem w0 {R R1 R2 : D} {x : Int} (t : prog.run 9 0 [.loc 0, .int 1000000000] [R] = .ok (.int x) false [R1]) (p : prog.run 9 1 [.loc 0, .lst (lv x)] [R1] = .ok v false [R2]) : evS (prog.g 9) y0 (A0 Z s2 s4 s5 s6 s7) [R] = .nx (A0 Z s2 (.pu v) s5 s6 s7) [R2] := by
  unfold lv at p
  unfold y0
  simp [evE.eq_1, evE.eq_2, evE.eq_3, evE.eq_4, evE.eq_5, evE.eq_6, evE.eq_7, evE.eq_8, evE.eq_9, evE.eq_10, evE.eq_11, evE.eq_12, evE.eq_13, evE.eq_14, evE.eq_15, evE.eq_16, evE.eq_17, evE.eq_18, evE.eq_19, evE.eq_20, evE.eq_21, evE.eq_22, evE.eq_23, evE.eq_24, evE.eq_25, evE.eq_26, evE.eq_27, evE.eq_28, evE.eq_29, evE_comp, evE_rngl1, evE_rngl2, evE_isx, evE_xkw, evS.eq_1, evS.eq_2, evS.eq_3, evS.eq_4, evS.eq_5, evS.eq_6, evS.eq_7, evS.eq_8, evS.eq_9, evS.eq_10, evS.eq_11, evS.eq_12, evS.eq_13, evS.eq_16, evS.eq_17, evS.eq_18, evS.eq_19, evS.eq_20, evS.eq_21, evS.eq_22, evS_whl, evS_for, evEs, evRs, evEo, evC, evIt, evSs, evHs, evF, ro, roK, look, looks, lookF, viewH, opB, opC, cmpI, opIx, ixI, opBi, tOf, iOf, slotsOf, slotOf, endF, RE.lift, RE.fst, RE.bind, RE.thenS, RS.seq, RC.reB, callG, passA, passOne, asgTg, asgTgs, g_run, g_modes, g_w, g_sub, g_ncls, g_xfld, szOk_lit, turnQ, List.zipWith, walkOf, md0, md1, t, p]
theorem w1 {R R1 : D} (p : prog.run 9 1 [.loc 0, .lst ln] [R] = .ok v false [R1]) : evS (prog.g 9) y1 (A0 Z s2 s4 s5 s6 s7) [R] = .nx (A0 Z s2 s4 (.pu v) s6 s7) [R1] := by
  unfold ln at p
  unfold y1
  simp [evE.eq_1, evE.eq_2, evE.eq_3, evE.eq_4, evE.eq_5, evE.eq_6, evE.eq_7, evE.eq_8, evE.eq_9, evE.eq_10, evE.eq_11, evE.eq_12, evE.eq_13, evE.eq_14, evE.eq_15, evE.eq_16, evE.eq_17, evE.eq_18, evE.eq_19, evE.eq_20, evE.eq_21, evE.eq_22, evE.eq_23, evE.eq_24, evE.eq_25, evE.eq_26, evE.eq_27, evE.eq_28, evE.eq_29, evE_comp, evE_rngl1, evE_rngl2, evE_isx, evE_xkw, evS.eq_1, evS.eq_2, evS.eq_3, evS.eq_4, evS.eq_5, evS.eq_6, evS.eq_7, evS.eq_8, evS.eq_9, evS.eq_10, evS.eq_11, evS.eq_12, evS.eq_13, evS.eq_16, evS.eq_17, evS.eq_18, evS.eq_19, evS.eq_20, evS.eq_21, evS.eq_22, evS_whl, evS_for, evEs, evRs, evEo, evC, evIt, evSs, evHs, evF, ro, roK, look, looks, lookF, viewH, opB, opC, cmpI, opIx, ixI, opBi, tOf, iOf, slotsOf, slotOf, endF, RE.lift, RE.fst, RE.bind, RE.thenS, RS.seq, RC.reB, callG, passA, passOne, asgTg, asgTgs, g_run, g_modes, g_w, g_sub, g_ncls, g_xfld, szOk_lit, turnQ, List.zipWith, walkOf, md1, p]
theorem w2 (hk : k < 10) : evS (prog.g 9) y2 (A0 Z (.pu (.int (k : Nat))) (.pu v) (.pu nm) s6 s7) h = .nx (A0 Z (.pu (.int (k : Nat))) (.pu v) (.pu nm) (.pu (told k v nm)) s7) h := by
  have r : prog.run 9 3 [.int (k : Nat), v, nm] h = .ok (told k v nm) false h := raised k hk
  generalize told k v nm = Y at *
  unfold y2
  simp [evE.eq_1, evE.eq_2, evE.eq_3, evE.eq_4, evE.eq_5, evE.eq_6, evE.eq_7, evE.eq_8, evE.eq_9, evE.eq_10, evE.eq_11, evE.eq_12, evE.eq_13, evE.eq_14, evE.eq_15, evE.eq_16, evE.eq_17, evE.eq_18, evE.eq_19, evE.eq_20, evE.eq_21, evE.eq_22, evE.eq_23, evE.eq_24, evE.eq_25, evE.eq_26, evE.eq_27, evE.eq_28, evE.eq_29, evE_comp, evE_rngl1, evE_rngl2, evE_isx, evE_xkw, evS.eq_1, evS.eq_2, evS.eq_3, evS.eq_4, evS.eq_5, evS.eq_6, evS.eq_7, evS.eq_8, evS.eq_9, evS.eq_10, evS.eq_11, evS.eq_12, evS.eq_13, evS.eq_16, evS.eq_17, evS.eq_18, evS.eq_19, evS.eq_20, evS.eq_21, evS.eq_22, evS_whl, evS_for, evEs, evRs, evEo, evC, evIt, evSs, evHs, evF, ro, roK, look, looks, lookF, viewH, opB, opC, cmpI, opIx, ixI, opBi, tOf, iOf, slotsOf, slotOf, endF, RE.lift, RE.fst, RE.bind, RE.thenS, RS.seq, RC.reB, callG, passA, passOne, asgTg, asgTgs, g_run, g_modes, g_w, g_sub, g_ncls, g_xfld, szOk_lit, turnQ, List.zipWith, walkOf, md3, r]
theorem okK (k : Nat) : eqD (.lst (kinds k)) (.lst (kinds k)) = some true := by
  refine Ev.eq_self ?_
  show D.okAll 49 (kinds k) = true
  rfl
theorem w3 : evS (prog.g 9) y3 (A0 Z (.pu (.int (k : Nat))) s4 s5 (.pu (told k v nm)) s7) h = .nx (A0 Z (.pu (.int (k : Nat))) s4 s5 (.pu (told k v nm)) s7) h := by
  have r10 : rngOk 10 = true := by decide
  have c1 : evE (prog.g 9) (A0 Z (.pu (.int (k : Nat))) s4 s5 (.pu (told k v nm)) s7) (.comp (.name 8) [8] (.rng1 (.int 10)) (.none) (.cmp .eq (.var 8) (.var 2))) h = .ok (.lst (kinds k)) h := by
    refine comp_ok rfl (it_rng1 (i := 10) (h1 := h) (by rw [evE]) r10) (r := kinds k) (h2 := h) ?_ (szOk_of (show 10 ≤ 16777216 by decide))
    have q := compQ_fil (g := prog.g 9) (a := A0 Z (.pu (.int (k : Nat))) s4 s5 (.pu (told k v nm)) s7) (h := h) (t := .name 8) (own := [8]) (c := .none) (e := .cmp .eq (.var 8) (.var 2)) (F := fun j : Nat => D.int (0 + j)) (P := fun _ => true) (f := fun j : Nat => .bl (decide (j = k))) (l := List.range 10) fun j hj => by
      refine ⟨[.pu Z, .pu (.loc 0), .pu (.int (k : Nat)), .no, s4, s5, .pu (told k v nm), s7, .pu (.int (0 + j))], rfl, by rw [evC], fun _ => ?_⟩
      have e : ((0 + (j : Int)) == (k : Int)) = decide (j = k) := by
        by_cases z : j = k
        · subst z; simp
        · simp [z]; omega
      generalize told k v nm = Y
      simp [evE.eq_1, evE.eq_2, evE.eq_3, evE.eq_4, evE.eq_5, evE.eq_6, evE.eq_7, evE.eq_8, evE.eq_9, evE.eq_10, evE.eq_11, evE.eq_12, evE.eq_13, evE.eq_14, evE.eq_15, evE.eq_16, evE.eq_17, evE.eq_18, evE.eq_19, evE.eq_20, evE.eq_21, evE.eq_22, evE.eq_23, evE.eq_24, evE.eq_25, evE.eq_26, evE.eq_27, evE.eq_28, evE.eq_29, evE_comp, evE_rngl1, evE_rngl2, evE_isx, evE_xkw, evS.eq_1, evS.eq_2, evS.eq_3, evS.eq_4, evS.eq_5, evS.eq_6, evS.eq_7, evS.eq_8, evS.eq_9, evS.eq_10, evS.eq_11, evS.eq_12, evS.eq_13, evS.eq_16, evS.eq_17, evS.eq_18, evS.eq_19, evS.eq_20, evS.eq_21, evS.eq_22, evS_whl, evS_for, evEs, evRs, evEo, evC, evIt, evSs, evHs, evF, ro, roK, look, looks, lookF, viewH, opB, opC, cmpI, opIx, ixI, opBi, tOf, iOf, slotsOf, slotOf, endF, RE.lift, RE.fst, RE.bind, RE.thenS, RS.seq, RC.reB, callG, passA, passOne, asgTg, asgTgs, g_run, g_modes, g_w, g_sub, g_ncls, g_xfld, szOk_lit, turnQ, List.zipWith, walkOf, eqI, e]
      by_cases z : j = k
      · simp [z]
      · simp [z]
        omega
    have z : ((List.range 10).filter fun _ => true) = List.range 10 := rfl
    rw [z] at q
    exact q
  unfold y3
  refine ifs_f (h1 := h) (or_f (h1 := h) ?_ ?_) rfl
  · simp [evE.eq_1, evE.eq_2, evE.eq_3, evE.eq_4, evE.eq_5, evE.eq_6, evE.eq_7, evE.eq_8, evE.eq_9, evE.eq_10, evE.eq_11, evE.eq_12, evE.eq_13, evE.eq_14, evE.eq_15, evE.eq_16, evE.eq_17, evE.eq_18, evE.eq_19, evE.eq_20, evE.eq_21, evE.eq_22, evE.eq_23, evE.eq_24, evE.eq_25, evE.eq_26, evE.eq_27, evE.eq_28, evE.eq_29, evE_comp, evE_rngl1, evE_rngl2, evE_isx, evE_xkw, evS.eq_1, evS.eq_2, evS.eq_3, evS.eq_4, evS.eq_5, evS.eq_6, evS.eq_7, evS.eq_8, evS.eq_9, evS.eq_10, evS.eq_11, evS.eq_12, evS.eq_13, evS.eq_16, evS.eq_17, evS.eq_18, evS.eq_19, evS.eq_20, evS.eq_21, evS.eq_22, evS_whl, evS_for, evEs, evRs, evEo, evC, evIt, evSs, evHs, evF, ro, roK, look, looks, lookF, viewH, opB, opC, cmpI, opIx, ixI, opBi, tOf, iOf, slotsOf, slotOf, endF, RE.lift, RE.fst, RE.bind, RE.thenS, RS.seq, RC.reB, callG, passA, passOne, asgTg, asgTgs, g_run, g_modes, g_w, g_sub, g_ncls, g_xfld, szOk_lit, turnQ, List.zipWith, walkOf, isNonD]
  · have e0 : evE (prog.g 9) (A0 Z (.pu (.int (k : Nat))) s4 s5 (.pu (told k v nm)) s7) (.ix (.var 6) (.int 0)) h = .ok (.lst (kinds k)) h := by
      simp [evE.eq_1, evE.eq_2, evE.eq_3, evE.eq_4, evE.eq_5, evE.eq_6, evE.eq_7, evE.eq_8, evE.eq_9, evE.eq_10, evE.eq_11, evE.eq_12, evE.eq_13, evE.eq_14, evE.eq_15, evE.eq_16, evE.eq_17, evE.eq_18, evE.eq_19, evE.eq_20, evE.eq_21, evE.eq_22, evE.eq_23, evE.eq_24, evE.eq_25, evE.eq_26, evE.eq_27, evE.eq_28, evE.eq_29, evE_comp, evE_rngl1, evE_rngl2, evE_isx, evE_xkw, evS.eq_1, evS.eq_2, evS.eq_3, evS.eq_4, evS.eq_5, evS.eq_6, evS.eq_7, evS.eq_8, evS.eq_9, evS.eq_10, evS.eq_11, evS.eq_12, evS.eq_13, evS.eq_16, evS.eq_17, evS.eq_18, evS.eq_19, evS.eq_20, evS.eq_21, evS.eq_22, evS_whl, evS_for, evEs, evRs, evEo, evC, evIt, evSs, evHs, evF, ro, roK, look, looks, lookF, viewH, opB, opC, cmpI, opIx, ixI, opBi, tOf, iOf, slotsOf, slotOf, endF, RE.lift, RE.fst, RE.bind, RE.thenS, RS.seq, RC.reB, callG, passA, passOne, asgTg, asgTgs, g_run, g_modes, g_w, g_sub, g_ncls, g_xfld, szOk_lit, turnQ, List.zipWith, walkOf, told]
    rw [cmp_ok (d := .lst (kinds k)) (e := .lst (kinds k)) (h1 := h) (h2 := h) (v := false) (by rw [e0]; rfl) (by rw [c1]; rfl) rfl rfl (by show (eqD (.lst (kinds k)) (.lst (kinds k))).map (!·) = some false; rw [okK]; rfl)]
    rfl
theorem w4 : evS (prog.g 9) y4 (A0 Z (.pu (.int (k : Nat))) (.pu v) s5 s6 s7) h = .nx (A0 Z (.pu (.int (k : Nat))) (.pu v) s5 s6 (.pu v)) h := by
  unfold y4
  simp [evE.eq_1, evE.eq_2, evE.eq_3, evE.eq_4, evE.eq_5, evE.eq_6, evE.eq_7, evE.eq_8, evE.eq_9, evE.eq_10, evE.eq_11, evE.eq_12, evE.eq_13, evE.eq_14, evE.eq_15, evE.eq_16, evE.eq_17, evE.eq_18, evE.eq_19, evE.eq_20, evE.eq_21, evE.eq_22, evE.eq_23, evE.eq_24, evE.eq_25, evE.eq_26, evE.eq_27, evE.eq_28, evE.eq_29, evE_comp, evE_rngl1, evE_rngl2, evE_isx, evE_xkw, evS.eq_1, evS.eq_2, evS.eq_3, evS.eq_4, evS.eq_5, evS.eq_6, evS.eq_7, evS.eq_8, evS.eq_9, evS.eq_10, evS.eq_11, evS.eq_12, evS.eq_13, evS.eq_16, evS.eq_17, evS.eq_18, evS.eq_19, evS.eq_20, evS.eq_21, evS.eq_22, evS_whl, evS_for, evEs, evRs, evEo, evC, evIt, evSs, evHs, evF, ro, roK, look, looks, lookF, viewH, opB, opC, cmpI, opIx, ixI, opBi, tOf, iOf, slotsOf, slotOf, endF, RE.lift, RE.fst, RE.bind, RE.thenS, RS.seq, RC.reB, callG, passA, passOne, asgTg, asgTgs, g_run, g_modes, g_w, g_sub, g_ncls, g_xfld, szOk_lit, turnQ, List.zipWith, walkOf]
theorem w5 (V : Val v) (N : Val nm) : evSs (prog.g 9) (.cons y5 (.cons y6 (.nil))) (A0 Z (.pu (.int (k : Nat))) (.pu v) (.pu nm) (.pu (told k v nm)) (.pu v)) h = .nx (A0 Z (.pu (.int (k : Nat))) (.pu v) (.pu nm) (.pu (told k v nm)) (.pu (if k = 8 then .tup [v, nm] else v))) h := by
  by_cases k8 : k = 8
  · subst k8
    have tk : D.okAll 49 [v, nm] = true := by
      show (D.ok 49 v && (D.ok 49 nm && true)) = true
      rw [V.ok9, N.ok9]
      rfl
    have e2 : eqD (.tup [v, nm]) (.tup [v, nm]) = some true := Ev.eq_self tk
    unfold y5 y6
    simp [evE.eq_1, evE.eq_2, evE.eq_3, evE.eq_4, evE.eq_5, evE.eq_6, evE.eq_7, evE.eq_8, evE.eq_9, evE.eq_10, evE.eq_11, evE.eq_12, evE.eq_13, evE.eq_14, evE.eq_15, evE.eq_16, evE.eq_17, evE.eq_18, evE.eq_19, evE.eq_20, evE.eq_21, evE.eq_22, evE.eq_23, evE.eq_24, evE.eq_25, evE.eq_26, evE.eq_27, evE.eq_28, evE.eq_29, evE_comp, evE_rngl1, evE_rngl2, evE_isx, evE_xkw, evS.eq_1, evS.eq_2, evS.eq_3, evS.eq_4, evS.eq_5, evS.eq_6, evS.eq_7, evS.eq_8, evS.eq_9, evS.eq_10, evS.eq_11, evS.eq_12, evS.eq_13, evS.eq_16, evS.eq_17, evS.eq_18, evS.eq_19, evS.eq_20, evS.eq_21, evS.eq_22, evS_whl, evS_for, evEs, evRs, evEo, evC, evIt, evSs, evHs, evF, ro, roK, look, looks, lookF, viewH, opB, opC, cmpI, opIx, ixI, opBi, tOf, iOf, slotsOf, slotOf, endF, RE.lift, RE.fst, RE.bind, RE.thenS, RS.seq, RC.reB, callG, passA, passOne, asgTg, asgTgs, g_run, g_modes, g_w, g_sub, g_ncls, g_xfld, szOk_lit, turnQ, List.zipWith, walkOf, eqI, e2, told, fld9, isTy, tyOk, tyOk2, eq_bl]
  · have e1 : eqD (.int (k : Int)) (.int 8) = some false := by
      rw [eqI]
      have : ((k : Int) == 8) = false := by simp; omega
      rw [this]
    by_cases k9 : k = 9
    · subst k9
      unfold y5 y6
      simp [evE.eq_1, evE.eq_2, evE.eq_3, evE.eq_4, evE.eq_5, evE.eq_6, evE.eq_7, evE.eq_8, evE.eq_9, evE.eq_10, evE.eq_11, evE.eq_12, evE.eq_13, evE.eq_14, evE.eq_15, evE.eq_16, evE.eq_17, evE.eq_18, evE.eq_19, evE.eq_20, evE.eq_21, evE.eq_22, evE.eq_23, evE.eq_24, evE.eq_25, evE.eq_26, evE.eq_27, evE.eq_28, evE.eq_29, evE_comp, evE_rngl1, evE_rngl2, evE_isx, evE_xkw, evS.eq_1, evS.eq_2, evS.eq_3, evS.eq_4, evS.eq_5, evS.eq_6, evS.eq_7, evS.eq_8, evS.eq_9, evS.eq_10, evS.eq_11, evS.eq_12, evS.eq_13, evS.eq_16, evS.eq_17, evS.eq_18, evS.eq_19, evS.eq_20, evS.eq_21, evS.eq_22, evS_whl, evS_for, evEs, evRs, evEo, evC, evIt, evSs, evHs, evF, ro, roK, look, looks, lookF, viewH, opB, opC, cmpI, opIx, ixI, opBi, tOf, iOf, slotsOf, slotOf, endF, RE.lift, RE.fst, RE.bind, RE.thenS, RS.seq, RC.reB, callG, passA, passOne, asgTg, asgTgs, g_run, g_modes, g_w, g_sub, g_ncls, g_xfld, szOk_lit, turnQ, List.zipWith, walkOf, eqI, told, fld9]
    · have vv := V.view (h := h)
      have e2 := Ev.eq_self V.ok
      have ty : tyOk prog.ncls v = true := V.ty
      by_cases k10 : (k : Int) < 9
      · simp only [viewH] at vv
        have f9 : fld9 k v nm = v := by unfold fld9; rw [if_neg k9, if_neg k8]
        unfold y5 y6
        simp [evE.eq_1, evE.eq_2, evE.eq_3, evE.eq_4, evE.eq_5, evE.eq_6, evE.eq_7, evE.eq_8, evE.eq_9, evE.eq_10, evE.eq_11, evE.eq_12, evE.eq_13, evE.eq_14, evE.eq_15, evE.eq_16, evE.eq_17, evE.eq_18, evE.eq_19, evE.eq_20, evE.eq_21, evE.eq_22, evE.eq_23, evE.eq_24, evE.eq_25, evE.eq_26, evE.eq_27, evE.eq_28, evE.eq_29, evE_comp, evE_rngl1, evE_rngl2, evE_isx, evE_xkw, evS.eq_1, evS.eq_2, evS.eq_3, evS.eq_4, evS.eq_5, evS.eq_6, evS.eq_7, evS.eq_8, evS.eq_9, evS.eq_10, evS.eq_11, evS.eq_12, evS.eq_13, evS.eq_16, evS.eq_17, evS.eq_18, evS.eq_19, evS.eq_20, evS.eq_21, evS.eq_22, evS_whl, evS_for, evEs, evRs, evEo, evC, evIt, evSs, evHs, evF, ro, roK, look, looks, lookF, viewH, opB, opC, cmpI, opIx, ixI, opBi, tOf, iOf, slotsOf, slotOf, endF, RE.lift, RE.fst, RE.bind, RE.thenS, RS.seq, RC.reB, callG, passA, passOne, asgTg, asgTgs, g_run, g_modes, g_w, g_sub, g_ncls, g_xfld, szOk_lit, turnQ, List.zipWith, walkOf, e1, e2, told, f9, k8, k10, vv, ty, tyOk2, eq_bl, g_ncls]
      · unfold y5 y6
        simp [evE.eq_1, evE.eq_2, evE.eq_3, evE.eq_4, evE.eq_5, evE.eq_6, evE.eq_7, evE.eq_8, evE.eq_9, evE.eq_10, evE.eq_11, evE.eq_12, evE.eq_13, evE.eq_14, evE.eq_15, evE.eq_16, evE.eq_17, evE.eq_18, evE.eq_19, evE.eq_20, evE.eq_21, evE.eq_22, evE.eq_23, evE.eq_24, evE.eq_25, evE.eq_26, evE.eq_27, evE.eq_28, evE.eq_29, evE_comp, evE_rngl1, evE_rngl2, evE_isx, evE_xkw, evS.eq_1, evS.eq_2, evS.eq_3, evS.eq_4, evS.eq_5, evS.eq_6, evS.eq_7, evS.eq_8, evS.eq_9, evS.eq_10, evS.eq_11, evS.eq_12, evS.eq_13, evS.eq_16, evS.eq_17, evS.eq_18, evS.eq_19, evS.eq_20, evS.eq_21, evS.eq_22, evS_whl, evS_for, evEs, evRs, evEo, evC, evIt, evSs, evHs, evF, ro, roK, look, looks, lookF, viewH, opB, opC, cmpI, opIx, ixI, opBi, tOf, iOf, slotsOf, slotOf, endF, RE.lift, RE.fst, RE.bind, RE.thenS, RS.seq, RC.reB, callG, passA, passOne, asgTg, asgTgs, g_run, g_modes, g_w, g_sub, g_ncls, g_xfld, szOk_lit, turnQ, List.zipWith, walkOf, e1, k8, k10]
end
end Tr
end
section
set_option Elab.async false
set_option linter.all false
set_option maxRecDepth 100000
set_option maxHeartbeats 1000000
namespace Tr
open Ev
theorem turn {ns : List Int} {Z R : D} {k : Nat} {s2 s4 s5 s6 s7 : SL} (hk : k < 10) (hR : DrR ns R) : ∃ (t4 t5 t6 t7 : SL) (R' : D), turnQ (prog.g 9) (.name 2) yB (.int (0 + (k : Nat))) (A0 Z s2 s4 s5 s6 s7) [R] = .nx (A0 Z (.pu (.int (k : Nat))) t4 t5 t6 t7) [R'] ∧ DrR ns R' := by
  obtain ⟨x, R1, t, x0, x1, h1⟩ := taken (p := prog) (n := 8) (r := []) f0 (m := 1000000000) (by decide) (by decide) hR
  obtain ⟨j, hj, R2, p, h2⟩ := pick (n := 7) (l := lv x) (show 0 < 6 by decide) (show 6 < 1000 by decide) h1
  obtain ⟨i, hi, R3, p2, h3⟩ := pick (n := 7) (l := ln) (show 0 < 2 by decide) (show 2 < 1000 by decide) h2
  have V := lv_val _ (List.getElem_mem hj)
  have N := ln_val _ (List.getElem_mem hi)
  generalize (lv x)[j] = v at *
  generalize ln[i] = nm at *
  refine ⟨.pu v, .pu nm, .pu (told k v nm), .pu (if k = 8 then .tup [v, nm] else v), R3, ?_, h3⟩
  have z : (0 : Int) + (k : Nat) = (k : Nat) := by omega
  rw [z]
  show evSs (prog.g 9) yB (A0 Z (.pu (.int (k : Nat))) s4 s5 s6 s7) [R] = _
  exact evSs_nx (w0 t p) (evSs_nx (w1 p2) (evSs_nx (w2 hk) (evSs_nx w3 (evSs_nx w4 (w5 V N)))))
theorem turns {ns : List Int} {Z : D} : ∀ (l : List Nat) (R : D) (s2 s4 s5 s6 s7 : SL), (∀ k ∈ l, k < 10) → DrR ns R → ∃ (t2 t4 t5 t6 t7 : SL) (R' : D), forQ (prog.g 9) (.name 2) yB (l.map fun k : Nat => .int (0 + k)) (A0 Z s2 s4 s5 s6 s7) [R] = .nx (A0 Z t2 t4 t5 t6 t7) [R']
  | [], R, s2, s4, s5, s6, s7, _, _ => ⟨s2, s4, s5, s6, s7, R, rfl⟩
  | k :: l, R, s2, s4, s5, s6, s7, hl, hR => by
    obtain ⟨t4, t5, t6, t7, R1, e, h1⟩ := turn (Z := Z) (s2 := s2) (s4 := s4) (s5 := s5) (s6 := s6) (s7 := s7) (hl k (List.mem_cons_self ..)) hR
    obtain ⟨u2, u4, u5, u6, u7, R2, e2⟩ := turns (Z := Z) l R1 (.pu (.int (k : Nat))) t4 t5 t6 t7 (fun j hj => hl j (List.mem_cons_of_mem _ hj)) h1
    refine ⟨u2, u4, u5, u6, u7, R2, ?_⟩
    rw [List.map_cons, forQ_cons, e]
    exact e2
def L1 : List D := [.int 1, .str "a", .int 4, .int 5, .int 6]
def L2 : List D := [.int 1, .str "a", .int 4, .int 5, .int 6, .int 7, .int 8, .int 9, .int 11, .str "s"]
theorem v2 {h : List D} {Z : D} {s2 s4 s5 s6 s7 : SL} : evS (prog.g 9) q2 (A0 Z s2 s4 s5 s6 s7) h = .nx [.pu Z, .pu (.loc 0), s2, .pu (.lst L1), s4, s5, s6, s7, .no] h := by
  unfold q2
  simp [evE.eq_1, evE.eq_2, evE.eq_3, evE.eq_4, evE.eq_5, evE.eq_6, evE.eq_7, evE.eq_8, evE.eq_9, evE.eq_10, evE.eq_11, evE.eq_12, evE.eq_13, evE.eq_14, evE.eq_15, evE.eq_16, evE.eq_17, evE.eq_18, evE.eq_19, evE.eq_20, evE.eq_21, evE.eq_22, evE.eq_23, evE.eq_24, evE.eq_25, evE.eq_26, evE.eq_27, evE.eq_28, evE.eq_29, evE_comp, evE_rngl1, evE_rngl2, evE_isx, evE_xkw, evS.eq_1, evS.eq_2, evS.eq_3, evS.eq_4, evS.eq_5, evS.eq_6, evS.eq_7, evS.eq_8, evS.eq_9, evS.eq_10, evS.eq_11, evS.eq_12, evS.eq_13, evS.eq_16, evS.eq_17, evS.eq_18, evS.eq_19, evS.eq_20, evS.eq_21, evS.eq_22, evS_whl, evS_for, evEs, evRs, evEo, evC, evIt, evSs, evHs, evF, ro, roK, look, looks, lookF, viewH, opB, opC, cmpI, opIx, ixI, opBi, tOf, iOf, slotsOf, slotOf, endF, RE.lift, RE.fst, RE.bind, RE.thenS, RS.seq, RC.reB, callG, passA, passOne, asgTg, asgTgs, g_run, g_modes, g_w, g_sub, g_ncls, g_xfld, szOk_lit, turnQ, List.zipWith, walkOf, ps_xfld, xfld, L1]
theorem v3 {h : List D} {Z : D} {s2 s4 s5 s6 s7 : SL} : evS (prog.g 9) q3 [.pu Z, .pu (.loc 0), s2, .pu (.lst L1), s4, s5, s6, s7, .no] h = .nx [.pu Z, .pu (.loc 0), s2, .pu (.lst L2), s4, s5, s6, s7, .no] h := by
  unfold q3
  simp [evE.eq_1, evE.eq_2, evE.eq_3, evE.eq_4, evE.eq_5, evE.eq_6, evE.eq_7, evE.eq_8, evE.eq_9, evE.eq_10, evE.eq_11, evE.eq_12, evE.eq_13, evE.eq_14, evE.eq_15, evE.eq_16, evE.eq_17, evE.eq_18, evE.eq_19, evE.eq_20, evE.eq_21, evE.eq_22, evE.eq_23, evE.eq_24, evE.eq_25, evE.eq_26, evE.eq_27, evE.eq_28, evE.eq_29, evE_comp, evE_rngl1, evE_rngl2, evE_isx, evE_xkw, evS.eq_1, evS.eq_2, evS.eq_3, evS.eq_4, evS.eq_5, evS.eq_6, evS.eq_7, evS.eq_8, evS.eq_9, evS.eq_10, evS.eq_11, evS.eq_12, evS.eq_13, evS.eq_16, evS.eq_17, evS.eq_18, evS.eq_19, evS.eq_20, evS.eq_21, evS.eq_22, evS_whl, evS_for, evEs, evRs, evEo, evC, evIt, evSs, evHs, evF, ro, roK, look, looks, lookF, viewH, opB, opC, cmpI, opIx, ixI, opBi, tOf, iOf, slotsOf, slotOf, endF, RE.lift, RE.fst, RE.bind, RE.thenS, RS.seq, RC.reB, callG, passA, passOne, asgTg, asgTgs, g_run, g_modes, g_w, g_sub, g_ncls, g_xfld, szOk_lit, turnQ, List.zipWith, walkOf, ps_xfld, xfld, L1, L2]
theorem v4 {h : List D} {Z : D} {s2 s4 s5 s6 s7 : SL} : evS (prog.g 9) q4 [.pu Z, .pu (.loc 0), s2, .pu (.lst L2), s4, s5, s6, s7, .no] h = .ret (.bl true) false h := by
  have k : prog.run 9 2 [.lst L2, .lst L2] h = .ok (.bl true) false h := al_same f2 (n := 7) 1 (.lst L2) (by decide +kernel)
  unfold L2 at k
  unfold q4
  simp [evE.eq_1, evE.eq_2, evE.eq_3, evE.eq_4, evE.eq_5, evE.eq_6, evE.eq_7, evE.eq_8, evE.eq_9, evE.eq_10, evE.eq_11, evE.eq_12, evE.eq_13, evE.eq_14, evE.eq_15, evE.eq_16, evE.eq_17, evE.eq_18, evE.eq_19, evE.eq_20, evE.eq_21, evE.eq_22, evE.eq_23, evE.eq_24, evE.eq_25, evE.eq_26, evE.eq_27, evE.eq_28, evE.eq_29, evE_comp, evE_rngl1, evE_rngl2, evE_isx, evE_xkw, evS.eq_1, evS.eq_2, evS.eq_3, evS.eq_4, evS.eq_5, evS.eq_6, evS.eq_7, evS.eq_8, evS.eq_9, evS.eq_10, evS.eq_11, evS.eq_12, evS.eq_13, evS.eq_16, evS.eq_17, evS.eq_18, evS.eq_19, evS.eq_20, evS.eq_21, evS.eq_22, evS_whl, evS_for, evEs, evRs, evEo, evC, evIt, evSs, evHs, evF, ro, roK, look, looks, lookF, viewH, opB, opC, cmpI, opIx, ixI, opBi, tOf, iOf, slotsOf, slotOf, endF, RE.lift, RE.fst, RE.bind, RE.thenS, RS.seq, RC.reB, callG, passA, passOne, asgTg, asgTgs, g_run, g_modes, g_w, g_sub, g_ncls, g_xfld, szOk_lit, turnQ, List.zipWith, walkOf, md2, k, L2]
theorem law_ok (ns : List Int) : ∃ h', prog.run 10 4 [.zst (ns.map .int)] [] = .ok (.bl true) false h' := by
  have h0 : DrR ns (.lst [.zst (ns.map .int), .int 0, .int 53, .int 0]) := DrR.new (by decide) (by decide)
  obtain ⟨t2, t4, t5, t6, t7, R, e⟩ := turns (Z := .zst (ns.map .int)) (List.range 10) _ .no .no .no .no .no (fun k hk => List.mem_range.mp hk) h0
  refine ⟨[R], ?_⟩
  rw [run_eq (fd := b4) rfl rfl, b4_eq]
  refine congrArg (endF false) (a₂ := .ret (.bl true) false [R]) ?_
  refine evSs_nx (a1 := A0 (.zst (ns.map .int)) .no .no .no .no .no) (h1 := [.lst [.zst (ns.map .int), .int 0, .int 53, .int 0]]) ?_ (evSs_nx (a1 := A0 (.zst (ns.map .int)) t2 t4 t5 t6 t7) (h1 := [R]) ?_ (evSs_nx v2 (evSs_nx v3 (evSs_ret v4))))
  · unfold q0
    simp [evE.eq_1, evE.eq_2, evE.eq_3, evE.eq_4, evE.eq_5, evE.eq_6, evE.eq_7, evE.eq_8, evE.eq_9, evE.eq_10, evE.eq_11, evE.eq_12, evE.eq_13, evE.eq_14, evE.eq_15, evE.eq_16, evE.eq_17, evE.eq_18, evE.eq_19, evE.eq_20, evE.eq_21, evE.eq_22, evE.eq_23, evE.eq_24, evE.eq_25, evE.eq_26, evE.eq_27, evE.eq_28, evE.eq_29, evE_comp, evE_rngl1, evE_rngl2, evE_isx, evE_xkw, evS.eq_1, evS.eq_2, evS.eq_3, evS.eq_4, evS.eq_5, evS.eq_6, evS.eq_7, evS.eq_8, evS.eq_9, evS.eq_10, evS.eq_11, evS.eq_12, evS.eq_13, evS.eq_16, evS.eq_17, evS.eq_18, evS.eq_19, evS.eq_20, evS.eq_21, evS.eq_22, evS_whl, evS_for, evEs, evRs, evEo, evC, evIt, evSs, evHs, evF, ro, roK, look, looks, lookF, viewH, opB, opC, cmpI, opIx, ixI, opBi, tOf, iOf, slotsOf, slotOf, endF, RE.lift, RE.fst, RE.bind, RE.thenS, RS.seq, RC.reB, callG, passA, passOne, asgTg, asgTgs, g_run, g_modes, g_w, g_sub, g_ncls, g_xfld, szOk_lit, turnQ, List.zipWith, walkOf, evF, fresh, isObj]
  · rw [q1_eq, evS_for, it_rng1 (i := 10) (h1 := [.lst [.zst (ns.map .int), .int 0, .int 53, .int 0]]) (by rw [evE]) (by decide)]
    exact e
end Tr
end
set_option Elab.async false
theorem PySem.Challenge.cw_mouldyard_k09_errors_holds : PySem.Challenge.rw_mouldyard_k09_errors.Holds :=
  Tr.holds fun ns _ => Tr.law_ok ns
