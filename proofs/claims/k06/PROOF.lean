import PyProof.Rows.All
import Wide.All
import OpenK.AllK
import Wide.FinOn
import KE.KStateDown
import Lean
import HandS.ForMost
import HandS.TupAny
import HandS.Wide
import KE.SortData
import PyProof.ReprReads
import HandS.TupMul
import HandS.Deep
import PyProof.ListMulRoad
import PyProof.FactsAll.tuple_2
import HandS.Text
import HandS.Dict
import KE.KTupSum
import PyProof.CallFns
import PyProof.ReprRoads
import HandS.IsInst
import HandS.TupLen
import HandS.Conv
import HandS.Style
import KE.KRevSl
import HandS.Walk
import HandS.Small
import HandS.Comp
import HandS.Defaults
import HandS.Ends
import HandS.HeadEnd
import KE.KDictSum
import KE.KDictCopyH
import HandS.Head0
import HandS.Head1
import HandS.Head2
import HandS.HeadHook1
import HandS.HeadHook2
import PyProof.Rows.RegStrFacts
import PySem.Challenge.RW_tipwoods_k06_whole_what_are_bushes
set_option Elab.async false
set_option linter.all false
set_option maxRecDepth 100000
set_option maxHeartbeats 0
section
/-! A small language of the programs' own: terms, statements, and what they come to, over plain data. -/
namespace TW
open PySem

abbrev D := PyData

/-- what a slot holds: data that is never written; a list, a dict of the def's own (b: lent by the caller); the script -/
inductive Rv where
  | d (x : D)
  | ol (xs : List D) (b : Bool)
  | od (t : Bool) (kvs : List (D × D)) (b : Bool)
  | sc (ns : List Int)
abbrev En := List (Option Rv)
/-- what an expression gives: data; the object that slot i holds; a new list, a new dict; the script -/
inductive Res where
  | d (x : D)
  | al (i : Nat)
  | fl (xs : List D)
  | fd (t : Bool) (kvs : List (D × D))
  | sc (ns : List Int)

/-- as data that is read -/
def view (σ : En) : Res → Option D
  | .d x => some x
  | .al i => match σ[i]? with
    | some (some (.ol xs _)) => some (.list xs)
    | some (some (.d x)) => some x
    | _ => none
  | .fl xs => some (.list xs)
  | _ => none
/-- as a dict that is read -/
def dview (σ : En) : Res → Option (Bool × List (D × D))
  | .al i => match σ[i]? with
    | some (some (.od t kvs _)) => some (t, kvs)
    | _ => none
  | .fd t kvs => some (t, kvs)
  | _ => none
/-- from here on never written -/
def frz (σ : En) : Res → Option (D × En)
  | .d x => some (x, σ)
  | .al i => match σ[i]? with
    | some (some (.ol xs false)) => some (.list xs, σ.set i (some (.d (.list xs))))
    | some (some (.d x)) => some (x, σ)
    | _ => none
  | .fl xs => some (.list xs, σ)
  | _ => none
def frzs : En → List Res → Option (List D × En)
  | σ, [] => some ([], σ)
  | σ, r :: rs => match frz σ r with
    | some (x, σ1) => match frzs σ1 rs with
      | some (xs, σ2) => some (x :: xs, σ2)
      | none => none
    | none => none

inductive Tg where
  | nm (i : Nat)
  | tp (ts : Tg)
  | nil
  | cons (t ts : Tg)
inductive Bi where
  | len | abs | int | lst | tupl | sum | min | max | any | all | srt | str | rep | vals
  | isi (T : String)
inductive Me where
  | get | idx | cnt | join
inductive Mw where
  | app | pop | popAt
inductive T where
  | var (i : Nat)
  | lit (x : D)
  | glb (x : Str) (v : D)
  | scl (i : Nat)
  | tup (es : T)
  | lst (es : T)
  | dic (t : Bool)
  | nil
  | cons (e es : T)
  | bin (op : Operator) (a b : T)
  | neg (a : T)
  | cmp (op : CmpOp) (a b : T)
  | cmp2 (o1 o2 : CmpOp) (a b c : T)
  | and (a b : T)
  | or (a b : T)
  | not (a : T)
  | ife (c a b : T)
  | idx (a i : T)
  | slc (a lo hi : T)
  | slm (a lo hi : T)
  | cal (f : Nat) (ms : List Bool) (args : T)
  | blt (b : Bi) (args : T)
  | mth (m : Me) (o args : T)
  | gtt (o k x : T)
  | mtw (m : Mw) (i : Nat) (args : T)
  | lc (tg : Tg) (it : T) (ws : List Nat) (c e : T)
  | rng (args : T)
  | enm (a : T)
  | sq (a : T)
  | sm (a : T)
  | tst (a : T)
  | zp (a b : T)
inductive S where
  | asg (i : Nat) (e : T)
  | asgP (p : Tg) (e : T)
  | asgM (is : List Nat) (es : T)
  | sti (i : Nat) (ix e : T)
  | exp (e : T)
  | ite (c : T) (a b : S)
  | whl (c : T) (b : S)
  | for (p : Tg) (it : T) (b : S)
  | ret (e : T)
  | retN
  | brk | cnt | pss | rai
  | nil
  | cons (s ss : S)
inductive Flow where
  | nx | brk | cnt
  | ret (r : Res)

def LIM : Nat := 16777216
def mulOk (i j : Int) : Bool := decide (i.natAbs < 18446744073709551616) || decide (j.natAbs < 18446744073709551616) || decide (i.natAbs.log2 + j.natAbs.log2 < 1000000)
def binR : Operator → D → D → Option Res
  | .Add, .int i, .int j => some (.d (.int (i + j)))
  | .Add, .tuple xs, .tuple ys => if xs.length + ys.length ≤ LIM then some (.d (.tuple (xs ++ ys))) else none
  | .Add, .list xs, .list ys => if xs.length + ys.length ≤ LIM then some (.fl (xs ++ ys)) else none
  | .Add, .str x, .str y => if x.length + y.length ≤ LIM then some (.d (.str (x ++ y))) else none
  | .Sub, .int i, .int j => some (.d (.int (i - j)))
  | .Mult, .int i, .int j => if mulOk i j = true then some (.d (.int (i * j))) else none
  | .Mult, .tuple xs, .int k => if 1 ≤ k ∧ k ≤ 1000 ∧ xs ≠ [] ∧ xs.length ≤ 1000 then some (.d (.tuple (List.replicate k.toNat xs).flatten)) else none
  | .Mult, .list xs, .int k => if -1000000 ≤ k ∧ k ≤ 1000000 ∧ xs.length * k.toNat ≤ LIM then some (.fl (List.replicate k.toNat xs).flatten) else none
  | .FloorDiv, .int i, .int j => if 0 < j ∧ j.natAbs.log2 < 9000 then some (.d (.int (i / j))) else none
  | .Mod, .int i, .int j => if 0 < j then some (.d (.int (i % j))) else none
  | .Pow, .int i, .int j => if 0 ≤ j ∧ j ≤ 1000000 ∧ i.natAbs < 18446744073709551616 then some (.d (.int (i ^ j.toNat))) else none
  | _, _, _ => none
def dpt (x y : D) : Bool := decide (min x.depth y.depth ≤ 150)
def inAny (x : D) : List D → Option Bool
  | [] => some false
  | y :: ys => if dpt y x = true then (match inAny x ys with
    | some b => some (PyData.eqv y x || b)
    | none => none) else none
def isNoneD : D → Bool
  | .none => true
  | _ => false
def cmpR : CmpOp → D → D → Option Bool
  | .Eq, x, y => if dpt x y = true then some (PyData.eqv x y) else none
  | .NotEq, x, y => if dpt x y = true then some (!PyData.eqv x y) else none
  | .Lt, .int i, .int j => some (decide (i < j))
  | .LtE, .int i, .int j => some (decide (i ≤ j))
  | .Gt, .int i, .int j => some (decide (j < i))
  | .GtE, .int i, .int j => some (decide (j ≤ i))
  | .LtE, .str x, .str y => some (!decide (y.cps.toList < x.cps.toList))
  | .Is, x, .none => some (isNoneD x)
  | .IsNot, x, .none => some (!isNoneD x)
  | .Is, .bool a, .bool b => some (decide (a = b))
  | .IsNot, .bool a, .bool b => some (!decide (a = b))
  | .In, .str x, .str y => some (!(Builtin.Str.occurrences y x 0 y.length 1).isEmpty)
  | .NotIn, .str x, .str y => some (!(!(Builtin.Str.occurrences y x 0 y.length 1).isEmpty))
  | .In, x, .list ys => inAny x ys
  | .In, x, .tuple ys => inAny x ys
  | .NotIn, x, .list ys => (inAny x ys).map (!·)
  | .NotIn, x, .tuple ys => (inAny x ys).map (!·)
  | _, _, _ => none
/-! dicts: keys are intL and texts (t = false), or tuples of such -/
def flatK : D → Bool
  | .int _ => true
  | .str _ => true
  | _ => false
def keyOk (t : Bool) : D → Bool
  | .tuple xs => t && xs.all flatK
  | x => !t && flatK x
def kvGet (k : D) : List (D × D) → Option D
  | [] => none
  | p :: r => if PyData.eqv p.1 k = true then some p.2 else kvGet k r
def kvPut (k v : D) (kvs : List (D × D)) : List (D × D) :=
  if (kvs.any fun p => PyData.eqv p.1 k) = true then kvs.map fun p => if PyData.eqv p.1 k = true then (p.1, v) else p else kvs ++ [(k, v)]
def idxR : D → D → Option D
  | .list xs, .int i => L2.atI xs i
  | .tuple xs, .int i => L2.atI xs i
  | .str x, .int i => if x.length ≤ LIM then (L2.atI x.cps.toList i).map fun c => .str ⟨#[c]⟩ else none
  | _, _ => none
def cut {α : Type} (xs : List α) (lo hi : Option Int) : List α := (xs.drop (HT.sIx xs.length 0 lo)).take (HT.sIx xs.length xs.length hi - HT.sIx xs.length 0 lo)
def slcR (lo hi : Option Int) : D → Option Res
  | .list xs => some (.fl (cut xs lo hi))
  | .tuple xs => some (.d (.tuple (cut xs lo hi)))
  | _ => none
/-- a[lo:hi:-1]: from lo (or the end) down to above hi (or to the front) -/
def dwn {α : Type} (xs : List α) (lo hi : Option Int) : List α :=
  let n : Int := xs.length
  let f : Int → Int := fun v => if v < 0 then max (v + n) (-1) else min v (n - 1)
  let a : Int := match lo with
    | some v => f v
    | none => n - 1
  let b : Int := match hi with
    | some v => f v
    | none => -1
  ((xs.take (a + 1).toNat).drop (b + 1).toNat).reverse
def slmR (lo hi : Option Int) : D → Option Res
  | .tuple xs => some (.d (.tuple (dwn xs lo hi)))
  | _ => none
def intL : List D → Option (List Int)
  | [] => some []
  | .int i :: r => (intL r).map (i :: ·)
  | _ => none
def boolL : List D → Option (List Bool)
  | [] => some []
  | .bool i :: r => (boolL r).map (i :: ·)
  | _ => none
def minI : Int → List Int → Int
  | x, [] => x
  | x, y :: r => minI (if y < x then y else x) r
def maxI : Int → List Int → Int
  | x, [] => x
  | x, y :: r => maxI (if x < y then y else x) r
/-- what a builtin reads: data, or a dict -/
inductive Vw where
  | d (x : D)
  | di (t : Bool) (kvs : List (D × D))
def dataB : D → D → Bool := fun x y => !PySem.W.dataLt y x
def tyN : D → Option String
  | .none => some "NoneType"
  | .bool _ => some "bool"
  | .int _ => some "int"
  | .str _ => some "str"
  | .list _ => some "list"
  | .tuple _ => some "tuple"
  | .dict _ => none
def alikeAny (xs : List D) : Bool := xs.all fun x => xs.all fun y => PySem.W.alike x y
/-- whether items can be sorted (of one kind, at each place) -/
def srtOk (xs : List D) : Bool := alikeAny xs && xs.all (fun x => decide (x.depth ≤ 150)) && (xs.all (fun x => match x with
  | .tuple _ => true
  | _ => false) || xs.all (fun x => match x with
  | .tuple _ => false
  | .none => false
  | _ => true))
def lenR : List Vw → Option Res
  | [.d (.list xs)] => some (.d (.int xs.length))
  | [.d (.tuple xs)] => some (.d (.int xs.length))
  | [.d (.str x)] => if x.length ≤ LIM then some (.d (.int x.length)) else none
  | [.di _ kvs] => some (.d (.int kvs.length))
  | _ => none
def absR : List Vw → Option Res
  | [.d (.int i)] => some (.d (.int (if i < 0 then -i else i)))
  | _ => none
def intR : List Vw → Option Res
  | [.d (.int i)] => some (.d (.int i))
  | [.d (.bool b)] => some (.d (.int (if b then 1 else 0)))
  | _ => none
def lstR : List Vw → Option Res
  | [.d (.list xs)] => some (.fl xs)
  | [.d (.tuple xs)] => some (.fl xs)
  | [.di _ kvs] => some (.fl (kvs.map (·.1)))
  | _ => none
def valsR : List Vw → Option Res
  | [.di _ kvs] => some (.fl (kvs.map (·.2)))
  | _ => none
def tuplR : List Vw → Option Res
  | [.d (.list xs)] => some (.d (.tuple xs))
  | [.d (.tuple xs)] => some (.d (.tuple xs))
  | _ => none
def sumR : List Vw → Option Res
  | [.d (.list xs)] => (intL xs).map fun ns => .d (.int ns.sum)
  | [.d (.tuple xs)] => (intL xs).map fun ns => .d (.int ns.sum)
  | _ => none
def minR : List Vw → Option Res
  | [.d (.list xs)] => (match intL xs with
    | some (n :: ns) => some (.d (.int (minI n ns)))
    | _ => none)
  | [.d (.int i), .d (.int j)] => some (.d (.int (if j < i then j else i)))
  | _ => none
def maxR : List Vw → Option Res
  | [.d (.list xs)] => (match intL xs with
    | some (n :: ns) => some (.d (.int (maxI n ns)))
    | _ => none)
  | [.d (.int i), .d (.int j)] => some (.d (.int (if j > i then j else i)))
  | _ => none
def anyR : List Vw → Option Res
  | [.d (.list xs)] => (boolL xs).map fun bs => .d (.bool (bs.any id))
  | _ => none
def allR : List Vw → Option Res
  | [.d (.list xs)] => (boolL xs).map fun bs => .d (.bool (bs.all id))
  | _ => none
def srtR : List Vw → Option Res
  | [.d (.list xs)] => if srtOk xs = true then some (.fl (xs.mergeSort dataB)) else none
  | [.di _ kvs] => if srtOk (kvs.map (·.1)) = true then some (.fl ((kvs.map (·.1)).mergeSort dataB)) else none
  | _ => none
def strR : List Vw → Option Res
  | [.d (.int i)] => if i.natAbs.log2 < 1920 then some (.d (.str (toString i))) else none
  | _ => none
def repOk (x : D) : Bool := x.showable && !x.hasDict && decide (x.depth ≤ 150) && decide (x.shown.length ≤ LIM) && PyData.strOk x.shown
def repR : List Vw → Option Res
  | [.d x] => if repOk x = true then some (.d (.str x.shown)) else none
  | _ => none
def isiR (t : String) : List Vw → Option Res
  | [.d x] => (match tyN x with
    | some n => some (.d (.bool (n == t || (n == "bool" && t == "int"))))
    | none => none)
  | _ => none
def bltR : Bi → List Vw → Option Res
  | .len => lenR
  | .abs => absR
  | .int => intR
  | .lst => lstR
  | .vals => valsR
  | .tupl => tuplR
  | .sum => sumR
  | .min => minR
  | .max => maxR
  | .any => anyR
  | .all => allR
  | .srt => srtR
  | .str => strR
  | .rep => repR
  | .isi t => isiR t
def vw (σ : En) (r : Res) : Option Vw := match view σ r with
  | some x => some (.d x)
  | none => (dview σ r).map fun p => .di p.1 p.2
def vws (σ : En) : List Res → Option (List Vw)
  | [] => some []
  | r :: rs => match vw σ r with
    | some v => (vws σ rs).map (v :: ·)
    | none => none
/-- the place of the first item that is equal -/
def posOf (x : D) : List D → Nat → Option Nat
  | [], _ => none
  | y :: r, i => if dpt y x = true then (if PyData.eqv y x = true then some i else posOf x r (i + 1)) else none
def cntOf (x : D) : List D → Option Nat
  | [] => some 0
  | y :: r => if dpt y x = true then (cntOf x r).map (fun n => if PyData.eqv y x = true then n + 1 else n) else none
/-- a method that reads its receiver -/
def mthR : Me → Vw → List D → Option D
  | .idx, .d (.list xs), [x] => (posOf x xs 0).map fun i => .int i
  | .idx, .d (.tuple xs), [x] => (posOf x xs 0).map fun i => .int i
  | .get, .di t kvs, [k, x] => if keyOk t k = true then some ((kvGet k kvs).getD x) else none
  | _, _, _ => none
/-- a method that writes the list of slot i -/
def mthW : Mw → List D → List D → Option (D × List D)
  | .app, xs, [y] => if xs.length < LIM then some (.none, xs ++ [y]) else none
  | .pop, xs, [] => match xs.getLast? with
    | some y => some (y, xs.dropLast)
    | none => none
  | .popAt, xs, [.int i] => if xs.length ≤ LIM then (match L2.ixN xs.length i with
    | some k => (match xs[k]? with
      | some y => some (y, xs.eraseIdx k)
      | none => none)
    | none => none) else none
  | _, _, _ => none

def put (i : Nat) (v : Rv) (σ : En) : Option En := match σ[i]? with
  | some (some (.ol _ true)) => none
  | some (some (.od _ _ true)) => none
  | some _ => some (σ.set i (some v))
  | none => none
/-! a target from data -/
mutual
def bindT : Tg → D → En → Option En
  | .nm i, x, σ => put i (.d x) σ
  | .tp ts, .tuple xs, σ => bindTs ts xs σ
  | _, _, _ => none
def bindTs : Tg → List D → En → Option En
  | .nil, [], σ => some σ
  | .cons t ts, x :: xs, σ => match bindT t x σ with
    | some σ1 => bindTs ts xs σ1
    | none => none
  | _, _, _ => none
end
/-- what is kept: the def's own where it is new -/
def keep1 (σ : En) : Res → Option (Rv × En)
  | .fl xs => some (.ol xs false, σ)
  | .fd t kvs => some (.od t kvs false, σ)
  | r => match frz σ r with
    | some (x, σ1) => some (.d x, σ1)
    | none => none
def keeps : En → List Res → Option (List Rv × En)
  | σ, [] => some ([], σ)
  | σ, r :: rs => match keep1 σ r with
    | some (v, σ1) => match keeps σ1 rs with
      | some (vs, σ2) => some (v :: vs, σ2)
      | none => none
    | none => none
def puts : List Nat → List Rv → En → Option En
  | [], [], σ => some σ
  | i :: is, v :: vs, σ => match put i v σ with
    | some σ1 => puts is vs σ1
    | none => none
  | _, _, _ => none
def isOwn : Option Rv → Bool
  | some (.ol _ _) => true
  | some (.od _ _ _) => true
  | _ => false
def wipe (σ : En) : List Nat → En
  | [] => σ
  | v :: vs => (wipe σ vs).set v none
def restore (σ0 : En) (ws : List Nat) (σ : En) : En := σ.mapIdx fun i r => if ws.contains i then (σ0[i]?).getD none else r
/-- an argument made ready: m: the def may write it -/
def prep1 (σ : En) : Bool → Res → Option (Res × En)
  | true, .al i => some (.al i, σ)
  | _, .sc ns => some (.sc ns, σ)
  | _, r => match frz σ r with
    | some (x, σ1) => some (.d x, σ1)
    | none => none
def prep : En → List Bool → List Res → Option (List Res × En)
  | σ, [], [] => some ([], σ)
  | σ, m :: ms, r :: rs => match prep1 σ m r with
    | some (r1, σ1) => match prep σ1 ms rs with
      | some (rs1, σ2) => some (r1 :: rs1, σ2)
      | none => none
    | none => none
  | _, _, _ => none
def isAl (i : Nat) : Res → Bool
  | .al j => i == j
  | _ => false
/-- the arguments of a call: each its own, none twice -/
def lend (σ : En) : List Res → Option (List Rv)
  | [] => some []
  | .d x :: rs => (lend σ rs).map (.d x :: ·)
  | .sc ns :: rs => (lend σ rs).map (.sc ns :: ·)
  | .al i :: rs => if rs.any (isAl i) = true then none else match σ[i]? with
    | some (some (.ol xs _)) => (lend σ rs).map (.ol xs true :: ·)
    | some (some (.od t kvs _)) => (lend σ rs).map (.od t kvs true :: ·)
    | _ => none
  | _ => none
/-- what was lent comes back -/
def updR : Rv → Rv → Rv
  | .ol _ b, .ol xs _ => .ol xs b
  | .od t _ b, .od _ kvs _ => .od t kvs b
  | r, _ => r
def giveBack : List Res → List Rv → En → En
  | .al i :: rs, o :: os, σ => giveBack rs os (match σ[i]? with
    | some (some r) => σ.set i (some (updR r o))
    | _ => σ)
  | _ :: rs, _ :: os, σ => giveBack rs os σ
  | _, _, σ => σ
def forL (body : En → Option (Flow × En)) (p : Tg) : List D → En → Option (Flow × En)
  | [], σ => some (.nx, σ)
  | x :: xs, σ => match bindT p x σ with
    | some σ1 => match body σ1 with
      | some (.nx, σ2) => forL body p xs σ2
      | some (.cnt, σ2) => forL body p xs σ2
      | some (.brk, σ2) => some (.nx, σ2)
      | r => r
    | none => none
def whlL (c : En → Option (Bool × En)) (body : En → Option (Flow × En)) : Nat → En → Option (Flow × En)
  | 0, _ => none
  | n + 1, σ => match c σ with
    | some (true, σ1) => (match body σ1 with
      | some (.nx, σ2) => whlL c body n σ2
      | some (.cnt, σ2) => whlL c body n σ2
      | some (.brk, σ2) => some (.nx, σ2)
      | r => r)
    | some (false, σ1) => some (.nx, σ1)
    | none => none
def lcL (c : En → Option (Bool × En)) (e : En → Option (Res × En)) (p : Tg) (ws : List Nat) : List D → En → Option (List D × En)
  | [], σ => some ([], σ)
  | x :: xs, σ => match bindT p x (wipe σ ws) with
    | some σ1 => match c σ1 with
      | some (true, σ2) => (match e σ2 with
        | some (r, σ3) => (match frz σ3 r with
          | some (y, σ4) => (match lcL c e p ws xs σ4 with
            | some (ys, σ5) => some (y :: ys, σ5)
            | none => none)
          | none => none)
        | none => none)
      | some (false, σ2) => lcL c e p ws xs σ2
      | none => none
    | none => none
abbrev Cl := Nat → List Rv → Option (Res × List Rv)
def rngI (a b : Int) : List D := (List.range (b - a).toNat).map fun i => .int (a + (i : Nat))
def b62 (a : Int) : Bool := decide (-4611686018427387904 ≤ a ∧ a < 4611686018427387904)
def enmI : Nat → List D → List D
  | _, [] => []
  | n, x :: r => .tuple [.int n, x] :: enmI (n + 1) r
def zipI : List D → List D → List D
  | x :: r, y :: s => .tuple [x, y] :: zipI r s
  | _, _ => []
def toB : Option (Res × En) → Option (Bool × En)
  | some (.d (.bool b), σ) => some (b, σ)
  | _ => none
def toI : Option (Res × En) → Option (Int × En)
  | some (.d (.int i), σ) => some (i, σ)
  | _ => none

abbrev Fe := En → Option (Res × En)
abbrev Fa := En → Option (List Res × En)
abbrev Fo := En → Option (Option Int × En)
abbrev Fi := En → Option (List D × En)
def varF (i : Nat) (σ : En) : Option (Res × En) := match σ[i]? with
  | some (some (.d x)) => some (.d x, σ)
  | some (some (.ol _ _)) => some (.al i, σ)
  | some (some (.od _ _ _)) => some (.al i, σ)
  | some (some (.sc ns)) => some (.sc ns, σ)
  | _ => none
def litF (x : D) (σ : En) : Option (Res × En) := some (.d x, σ)
def sclF (i : Nat) (σ : En) : Option (Res × En) := match σ[i]? with
  | some (some (.sc ns)) => some (.fl (ns.map .int), σ)
  | _ => none
def tupF (g : Fa) (σ : En) : Option (Res × En) := match g σ with
  | some (rs, σ1) => (match frzs σ1 rs with
    | some (xs, σ2) => if xs.length ≤ LIM then some (.d (.tuple xs), σ2) else none
    | none => none)
  | none => none
def lstF (g : Fa) (σ : En) : Option (Res × En) := match g σ with
  | some (rs, σ1) => (match frzs σ1 rs with
    | some (xs, σ2) => if xs.length ≤ LIM then some (.fl xs, σ2) else none
    | none => none)
  | none => none
def dicF (t : Bool) (σ : En) : Option (Res × En) := some (.fd t [], σ)
def binF (op : Operator) (f g : Fe) (σ : En) : Option (Res × En) := match f σ with
  | some (r1, σ1) => (match g σ1 with
    | some (r2, σ2) => (match view σ2 r1, view σ2 r2 with
      | some x, some y => (binR op x y).map fun r => (r, σ2)
      | _, _ => none)
    | none => none)
  | none => none
def negF (f : Fe) (σ : En) : Option (Res × En) := match toI (f σ) with
  | some (i, σ1) => some (.d (.int (-i)), σ1)
  | none => none
def cmpF (op : CmpOp) (f g : Fe) (σ : En) : Option (Res × En) := match f σ with
  | some (r1, σ1) => (match g σ1 with
    | some (r2, σ2) => (match view σ2 r1, vw σ2 r2 with
      | some x, some (.d y) => (cmpR op x y).map fun z => (.d (.bool z), σ2)
      | some x, some (.di t kvs) => if keyOk t x = true then (match op with
        | .In => some (.d (.bool (kvGet x kvs).isSome), σ2)
        | .NotIn => some (.d (.bool (!(kvGet x kvs).isSome)), σ2)
        | _ => none) else none
      | _, _ => none)
    | none => none)
  | none => none
def cmp2F (o1 o2 : CmpOp) (f g h : Fe) (σ : En) : Option (Res × En) := match f σ with
  | some (r1, σ1) => (match g σ1 with
    | some (r2, σ2) => (match view σ2 r1, view σ2 r2 with
      | some x, some y => (match cmpR o1 x y with
        | some true => (match h σ2 with
          | some (r3, σ3) => (match view σ3 r2, view σ3 r3 with
            | some y, some z => (cmpR o2 y z).map fun w => (.d (.bool w), σ3)
            | _, _ => none)
          | none => none)
        | some false => some (.d (.bool false), σ2)
        | none => none)
      | _, _ => none)
    | none => none)
  | none => none
def andF (f g : Fe) (σ : En) : Option (Res × En) := match toB (f σ) with
  | some (true, σ1) => g σ1
  | some (false, σ1) => some (.d (.bool false), σ1)
  | none => none
def orF (f g : Fe) (σ : En) : Option (Res × En) := match toB (f σ) with
  | some (true, σ1) => some (.d (.bool true), σ1)
  | some (false, σ1) => g σ1
  | none => none
def notF (f : Fe) (σ : En) : Option (Res × En) := match toB (f σ) with
  | some (z, σ1) => some (.d (.bool (!z)), σ1)
  | none => none
def ifeF (t f g : Fe) (σ : En) : Option (Res × En) := match toB (t σ) with
  | some (true, σ1) => f σ1
  | some (false, σ1) => g σ1
  | none => none
def idxF (f g : Fe) (σ : En) : Option (Res × En) := match f σ with
  | some (r1, σ1) => (match g σ1 with
    | some (r2, σ2) => (match vw σ2 r1, view σ2 r2 with
      | some (.d x), some k => (idxR x k).map fun z => (.d z, σ2)
      | some (.di t kvs), some k => if keyOk t k = true then (kvGet k kvs).map fun z => (.d z, σ2) else none
      | _, _ => none)
    | none => none)
  | none => none
def slcF (R : Option Int → Option Int → D → Option Res) (f : Fe) (lo hi : Fo) (σ : En) : Option (Res × En) := match f σ with
  | some (r1, σ1) => (match lo σ1 with
    | some (l, σ2) => (match hi σ2 with
      | some (h, σ3) => (match view σ3 r1 with
        | some x => (R l h x).map fun r => (r, σ3)
        | none => none)
      | none => none)
    | none => none)
  | none => none
def calF (c : Cl) (f : Nat) (ms : List Bool) (g : Fa) (σ : En) : Option (Res × En) := match g σ with
  | some (rs0, σ0) => (match prep σ0 ms rs0 with
    | some (rs, σ1) => (match lend σ1 rs with
      | some vs => (match c f vs with
        | some (r, os) => some (r, giveBack rs os σ1)
        | none => none)
      | none => none)
    | none => none)
  | none => none
def bltF (b : Bi) (g : Fa) (σ : En) : Option (Res × En) := match g σ with
  | some (rs, σ1) => (match vws σ1 rs with
    | some vs => (bltR b vs).map fun r => (r, σ1)
    | none => none)
  | none => none
def mthF (m : Me) (f : Fe) (g : Fa) (σ : En) : Option (Res × En) := match f σ with
  | some (r1, σ1) => (match g σ1 with
    | some (rs, σ2) => (match frzs σ2 rs with
      | some (xs, σ3) => (match vw σ3 r1 with
        | some v => (mthR m v xs).map fun z => (.d z, σ3)
        | none => none)
      | none => none)
    | none => none)
  | none => none
def gttF (fo fk fx : Fe) (σ : En) : Option (Res × En) := match fo σ with
  | some (r1, σ1) => (match vw σ1 r1 with
    | some (.di _ _) => (match fk σ1 with
      | some (r2, σ2) => (match fx σ2 with
        | some (.d x, σ3) => (match vw σ3 r1, view σ3 r2 with
          | some (.di t kvs), some k => if keyOk t k = true then some (.d ((kvGet k kvs).getD x), σ3) else none
          | _, _ => none)
        | _ => none)
      | none => none)
    | _ => none)
  | none => none
def isOl : Option (Option Rv) → Bool
  | some (some (.ol _ _)) => true
  | _ => false
def mtwF (m : Mw) (i : Nat) (g : Fa) (σ : En) : Option (Res × En) := if isOl σ[i]? = true then (match g σ with
  | some (rs, σ2) => (match frzs σ2 rs with
    | some (xs, σ3) => (match σ3[i]? with
      | some (some (.ol ys b)) => (mthW m ys xs).map fun p => (.d p.1, σ3.set i (some (.ol p.2 b)))
      | _ => none)
    | none => none)
  | none => none) else none
def lcF (p : Tg) (it : Fi) (ws : List Nat) (t e : Fe) (σ : En) : Option (Res × En) := match it σ with
  | some (xs, σ1) => if (ws.any fun i => isOwn ((σ1[i]?).getD none)) = true then none else
    (match lcL (fun s => toB (t s)) e p ws xs σ1 with
    | some (ys, σ2) => if ys.length ≤ LIM then some (.fl ys, restore σ1 ws σ2) else none
    | none => none)
  | none => none
def noO (σ : En) : Option (Option Int × En) := some (none, σ)
def someO (f : Fe) (σ : En) : Option (Option Int × En) := match toI (f σ) with
  | some (i, σ1) => some (some i, σ1)
  | none => none
def nilA (σ : En) : Option (List Res × En) := some ([], σ)
def consA (f : Fe) (g : Fa) (σ : En) : Option (List Res × En) := match f σ with
  | some (r, σ1) => (match g σ1 with
    | some (rs, σ2) => some (r :: rs, σ2)
    | none => none)
  | none => none
def rngF (g : Fa) (σ : En) : Option (List D × En) := match g σ with
  | some ([.d (.int a)], σ1) => if b62 a = true then some (rngI 0 a, σ1) else none
  | some ([.d (.int a), .d (.int b)], σ1) => if b62 a = true ∧ b62 b = true then some (rngI a b, σ1) else none
  | _ => none
def enmF (f : Fe) (σ : En) : Option (List D × En) := match f σ with
  | some (r, σ1) => (match frz σ1 r with
    | some (.list xs, σ2) => some (enmI 0 xs, σ2)
    | _ => none)
  | none => none
def zpF (f g : Fe) (σ : En) : Option (List D × En) := match f σ with
  | some (r1, σ1) => (match g σ1 with
    | some (r2, σ2) => (match frzs σ2 [r1, r2] with
      | some ([.list xs, .list ys], σ3) => some (zipI xs ys, σ3)
      | some ([.tuple xs, .tuple ys], σ3) => some (zipI xs ys, σ3)
      | _ => none)
    | none => none)
  | none => none
def seqF (f : Fe) (σ : En) : Option (List D × En) := match f σ with
  | some (r, σ1) => (match frz σ1 r with
    | some (.list xs, σ2) => some (xs, σ2)
    | some (.tuple xs, σ2) => some (xs, σ2)
    | _ => none)
  | none => none
mutual
def evE (c : Cl) : T → Fe
  | .var i => varF i
  | .lit x => litF x
  | .glb _ v => litF v
  | .scl i => sclF i
  | .tup es => tupF (evA c es)
  | .lst es => lstF (evA c es)
  | .dic t => dicF t
  | .bin op a b => binF op (evE c a) (evE c b)
  | .neg a => negF (evE c a)
  | .cmp op a b => cmpF op (evE c a) (evE c b)
  | .cmp2 o1 o2 a b e => cmp2F o1 o2 (evE c a) (evE c b) (evE c e)
  | .and a b => andF (evE c a) (evE c b)
  | .or a b => orF (evE c a) (evE c b)
  | .not a => notF (evE c a)
  | .ife t a b => ifeF (evE c t) (evE c a) (evE c b)
  | .idx a i => idxF (evE c a) (evE c i)
  | .slc a lo hi => slcF slcR (evE c a) (evO c lo) (evO c hi)
  | .slm a lo hi => slcF slmR (evE c a) (evO c lo) (evO c hi)
  | .cal f ms args => calF c f ms (evA c args)
  | .blt b args => bltF b (evA c args)
  | .mth m o args => mthF m (evE c o) (evA c args)
  | .gtt o k x => gttF (evE c o) (evE c k) (evE c x)
  | .mtw m i args => mtwF m i (evA c args)
  | .lc p it ws t e => lcF p (evI c it) ws (evE c t) (evE c e)
  | .tst a => evE c a
  | _ => fun _ => none
def evO (c : Cl) : T → Fo
  | .nil => noO
  | .sm e => someO (evE c e)
  | _ => fun _ => none
def evA (c : Cl) : T → Fa
  | .nil => nilA
  | .cons e es => consA (evE c e) (evA c es)
  | _ => fun _ => none
def evI (c : Cl) : T → Fi
  | .rng args => rngF (evA c args)
  | .enm a => enmF (evE c a)
  | .zp a b => zpF (evE c a) (evE c b)
  | .sq e => seqF (evE c e)
  | _ => fun _ => none
end
abbrev Fs := En → Option (Flow × En)
def asgF (i : Nat) (f : Fe) (σ : En) : Option (Flow × En) := match f σ with
  | some (r, σ1) => (match keep1 σ1 r with
    | some (v, σ2) => (put i v σ2).map fun σ3 => (.nx, σ3)
    | none => none)
  | none => none
def asgPF (p : Tg) (f : Fe) (σ : En) : Option (Flow × En) := match f σ with
  | some (r, σ1) => (match frz σ1 r with
    | some (x, σ2) => (bindT p x σ2).map fun σ3 => (.nx, σ3)
    | none => none)
  | none => none
def asgMF (is : List Nat) (g : Fa) (σ : En) : Option (Flow × En) := match g σ with
  | some (rs, σ1) => (match keeps σ1 rs with
    | some (vs, σ2) => (puts is vs σ2).map fun σ3 => (.nx, σ3)
    | none => none)
  | none => none
def stiF (i : Nat) (f g : Fe) (σ : En) : Option (Flow × En) := match g σ with
  | some (r, σ1) => (match frz σ1 r with
    | some (y, σ2) => if isOwn ((σ2[i]?).getD none) = true then (match f σ2 with
      | some (r2, σ3) => (match view σ3 r2 with
        | some k => (match σ3[i]? with
          | some (some (.ol xs b)) => (match k with
            | .int j => (match L2.ixN xs.length j with
              | some n => some (.nx, σ3.set i (some (.ol (xs.set n y) b)))
              | none => none)
            | _ => none)
          | some (some (.od t kvs b)) => if keyOk t k = true ∧ kvs.length < LIM then some (.nx, σ3.set i (some (.od t (kvPut k y kvs) b))) else none
          | _ => none)
        | none => none)
      | none => none) else none
    | none => none)
  | none => none
def expF (f : Fe) (σ : En) : Option (Flow × En) := match f σ with
  | some (_, σ1) => some (.nx, σ1)
  | none => none
def iteF (t : Fe) (a b : Fs) (σ : En) : Option (Flow × En) := match toB (t σ) with
  | some (true, σ1) => a σ1
  | some (false, σ1) => b σ1
  | none => none
def forF (p : Tg) (it : Fi) (b : Fs) (σ : En) : Option (Flow × En) := match it σ with
  | some (xs, σ1) => forL b p xs σ1
  | none => none
def retF (f : Fe) (σ : En) : Option (Flow × En) := match f σ with
  | some (r, σ1) => some (.ret r, σ1)
  | none => none
def seqS (f g : Fs) (σ : En) : Option (Flow × En) := match f σ with
  | some (.nx, σ1) => g σ1
  | r => r
def evS (c : Cl) (W : Nat) : S → Fs
  | .asg i e => asgF i (evE c e)
  | .asgP p e => asgPF p (evE c e)
  | .asgM p es => asgMF p (evA c es)
  | .sti i ix e => stiF i (evE c ix) (evE c e)
  | .exp e => expF (evE c e)
  | .ite t a b => iteF (evE c t) (evS c W a) (evS c W b)
  | .whl t b => whlL (fun s => toB (evE c t s)) (evS c W b) W
  | .for p it b => forF p (evI c it) (evS c W b)
  | .ret e => retF (evE c e)
  | .retN => fun σ => some (.ret (.d .none), σ)
  | .brk => fun σ => some (.brk, σ)
  | .cnt => fun σ => some (.cnt, σ)
  | .pss => fun σ => some (.nx, σ)
  | .rai => fun _ => none
  | .nil => fun σ => some (.nx, σ)
  | .cons s ss => seqS (evS c W s) (evS c W ss)

structure Fd where
  np : Nat
  n : Nat
  body : S
/-- what a def hands back -/
def fin (σ : En) : Res → Option Res
  | .al i => match σ[i]? with
    | some (some (.ol xs false)) => some (.fl xs)
    | some (some (.od t kvs false)) => some (.fd t kvs)
    | some (some (.d x)) => some (.d x)
    | _ => none
  | .sc _ => none
  | r => some r
def outs1 : Rv → Option Rv → Rv
  | .ol _ b, some (.ol ys _) => .ol ys b
  | .od t _ b, some (.od _ ys _) => .od t ys b
  | a, _ => a
def outs : List Rv → En → List Rv
  | a :: as, x :: σ => outs1 a x :: outs as σ
  | as, _ => as
def callK (Fs : Nat → Option Fd) (W : Nat) : Nat → Cl
  | 0, _, _ => none
  | k + 1, f, args => match Fs f with
    | none => none
    | some fd => if args.length = fd.np then (match evS (callK Fs W k) W fd.body (args.map some ++ List.replicate (fd.n - fd.np) none) with
      | some (.ret r, σ) => (fin σ r).map fun p => (p, outs args σ)
      | some (.nx, σ) => some (.d .none, outs args σ)
      | _ => none) else none
end TW
end

section
/-! How the language's values lie in the layer's heap. -/
namespace TW
open PySem PySem.Spec PyProof.Rows L2

mutual
inductive Rep (F : Hp) : V → D → Prop
  | non : Rep F .non .none
  | bl (b : Bool) : Rep F (.bl b) (.bool b)
  | int (i : Int) : Rep F (.int i) (.int i)
  | str (x : Str) (h : PyData.strOk x = true) : Rep F (.str x) (.str x)
  | lst {a : Addr} {xs : List V} {ds : List D} : F a = some (.lst xs) → RepL F xs ds → Rep F (.ref a) (.list ds)
  | tup {a : Addr} {xs : List V} {ds : List D} : F a = some (.tup xs) → RepL F xs ds → Rep F (.ref a) (.tuple ds)
inductive RepL (F : Hp) : List V → List D → Prop
  | nil : RepL F [] []
  | cons {v : V} {vs : List V} {d : D} {ds : List D} : Rep F v d → RepL F vs ds → RepL F (v :: vs) (d :: ds)
end

mutual
theorem Rep.mono {F F' : Hp} (s : Same F F') : ∀ {v : V} {d : D}, Rep F v d → Rep F' v d
  | _, _, .non => .non
  | _, _, .bl b => .bl b
  | _, _, .int i => .int i
  | _, _, .str x h => .str x h
  | _, _, .lst h r => .lst (s _ _ h) (RepL.mono s r)
  | _, _, .tup h r => .tup (s _ _ h) (RepL.mono s r)
theorem RepL.mono {F F' : Hp} (s : Same F F') : ∀ {vs : List V} {ds : List D}, RepL F vs ds → RepL F' vs ds
  | _, _, .nil => .nil
  | _, _, .cons h r => .cons (Rep.mono s h) (RepL.mono s r)
end
mutual
theorem Rep.dp {K : PySem.W.Frag} {F H : Hp} (s : Same F H) : ∀ {v : V} {d : D}, Rep F v d → Dp K H v d
  | _, _, .non => .non
  | _, _, .bl b => .bl b
  | _, _, .int i => .int i
  | _, _, .str x h => .str x
  | _, _, .lst h r => .lst (SqL.of (s _ _ h)) (RepL.dp s r)
  | _, _, .tup h r => .tup (SqT.of (s _ _ h)) (RepL.dp s r)
theorem RepL.dp {K : PySem.W.Frag} {F H : Hp} (s : Same F H) : ∀ {vs : List V} {ds : List D}, RepL F vs ds → DpAll K H vs ds
  | _, _, .nil => .nil
  | _, _, .cons h r => .cons (Rep.dp s h) (RepL.dp s r)
end
mutual
theorem Rep.can {F : Hp} : ∀ {v : V} {d : D}, Rep F v d → d.canLay0 = true
  | _, _, .non => rfl
  | _, _, .bl b => rfl
  | _, _, .int i => rfl
  | _, _, .str x h => h
  | _, _, .lst h r => by simpa [PyData.canLay0] using RepL.can r
  | _, _, .tup h r => by simpa [PyData.canLay0] using RepL.can r
theorem RepL.can {F : Hp} : ∀ {vs : List V} {ds : List D}, RepL F vs ds → PyData.canLayAll0 ds = true
  | _, _, .nil => rfl
  | _, _, .cons h r => by simp [PyData.canLayAll0, Rep.can h, RepL.can r]
end
section
variable {F : Hp}
theorem RepL.length : ∀ {vs : List V} {ds : List D}, RepL F vs ds → vs.length = ds.length
  | _, _, .nil => rfl
  | _, _, .cons _ r => by simp [RepL.length r]
theorem RepL.get : ∀ {vs : List V} {ds : List D} {i : Nat} {d : D}, RepL F vs ds → ds[i]? = some d → ∃ v, vs[i]? = some v ∧ Rep F v d
  | _, _, 0, _, .cons h _, e => by simp at e; subst e; exact ⟨_, rfl, h⟩
  | _, _, i + 1, _, .cons _ r, e => by
    obtain ⟨v, h1, h2⟩ := RepL.get (i := i) r (by simpa using e)
    exact ⟨v, by simpa using h1, h2⟩
theorem RepL.get' : ∀ {vs : List V} {ds : List D} {i : Nat} {v : V}, RepL F vs ds → vs[i]? = some v → ∃ d, ds[i]? = some d ∧ Rep F v d
  | _, _, 0, _, .cons h _, e => by simp at e; subst e; exact ⟨_, rfl, h⟩
  | _, _, i + 1, _, .cons _ r, e => by
    obtain ⟨v, h1, h2⟩ := RepL.get' (i := i) r (by simpa using e)
    exact ⟨v, by simpa using h1, h2⟩
theorem RepL.append : ∀ {vs ws : List V} {ds es : List D}, RepL F vs ds → RepL F ws es → RepL F (vs ++ ws) (ds ++ es)
  | _, _, _, _, .nil, s => s
  | _, _, _, _, .cons h r, s => .cons h (RepL.append r s)
theorem RepL.take : ∀ {vs : List V} {ds : List D} (n : Nat), RepL F vs ds → RepL F (vs.take n) (ds.take n)
  | _, _, 0, _ => by simpa using RepL.nil
  | _, _, _ + 1, .nil => by simpa using RepL.nil
  | _, _, n + 1, .cons h r => by simpa using RepL.cons h (RepL.take n r)
theorem RepL.drop : ∀ {vs : List V} {ds : List D} (n : Nat), RepL F vs ds → RepL F (vs.drop n) (ds.drop n)
  | _, _, 0, r => by simpa using r
  | _, _, _ + 1, .nil => by simpa using RepL.nil
  | _, _, n + 1, .cons h r => by simpa using RepL.drop n r
theorem RepL.reverse : ∀ {vs : List V} {ds : List D}, RepL F vs ds → RepL F vs.reverse ds.reverse
  | _, _, .nil => by simpa using RepL.nil
  | _, _, .cons h r => by
    rw [List.reverse_cons, List.reverse_cons]
    exact RepL.append (RepL.reverse r) (.cons h .nil)
theorem RepL.set : ∀ {vs : List V} {ds : List D} (n : Nat) {v : V} {d : D}, Rep F v d → RepL F vs ds → RepL F (vs.set n v) (ds.set n d)
  | _, _, _, _, _, _, .nil => by simpa using RepL.nil
  | _, _, 0, _, _, q, .cons h r => by simpa using RepL.cons q r
  | _, _, n + 1, _, _, q, .cons h r => by simpa using RepL.cons h (RepL.set n q r)
theorem RepL.eraseIdx : ∀ {vs : List V} {ds : List D} (n : Nat), RepL F vs ds → RepL F (vs.eraseIdx n) (ds.eraseIdx n)
  | _, _, _, .nil => by simpa using RepL.nil
  | _, _, 0, .cons h r => by simpa using r
  | _, _, n + 1, .cons h r => by simpa using RepL.cons h (RepL.eraseIdx n r)
theorem RepL.dropLast {vs : List V} {ds : List D} (r : RepL F vs ds) : RepL F vs.dropLast ds.dropLast := by
  rw [List.dropLast_eq_take, List.dropLast_eq_take, r.length]
  exact r.take _
theorem RepL.rep {vs : List V} {ds : List D} (r : RepL F vs ds) : ∀ n : Nat, RepL F (List.replicate n vs).flatten (List.replicate n ds).flatten
  | 0 => by simpa using RepL.nil
  | n + 1 => by
    rw [List.replicate_succ, List.replicate_succ, List.flatten_cons, List.flatten_cons]
    exact r.append (RepL.rep r n)
theorem RepL.ints : ∀ {ns : List Int}, RepL F (ns.map V.int) (ns.map .int)
  | [] => .nil
  | n :: ns => .cons (.int n) RepL.ints
theorem RepL.of_ints : ∀ {vs : List V} {ds : List D} {ns : List Int}, RepL F vs ds → intL ds = some ns → vs = ns.map V.int
  | _, _, _, .nil, e => by simp [intL] at e; subst e; rfl
  | _, _, ns, .cons h r, e => by
    cases h with
    | int i =>
      simp only [intL] at e
      rename_i vs' ds'
      cases q : intL ds' with
      | none => rw [q] at e; cases e
      | some ms =>
        rw [q] at e
        cases e
        rw [RepL.of_ints r q]
        rfl
    | _ => simp [intL] at e
theorem RepL.of_bools : ∀ {vs : List V} {ds : List D} {ns : List Bool}, RepL F vs ds → boolL ds = some ns → vs = ns.map V.bl
  | _, _, _, .nil, e => by simp [boolL] at e; subst e; rfl
  | _, _, ns, .cons h r, e => by
    cases h with
    | bl i =>
      simp only [boolL] at e
      rename_i vs' ds'
      cases q : boolL ds' with
      | none => rw [q] at e; cases e
      | some ms =>
        rw [q] at e
        cases e
        rw [RepL.of_bools r q]
        rfl
    | _ => simp [boolL] at e
end

/-! ### what stays -/
def Tup (H : Hp) (a : Addr) : Prop := ∃ xs, H a = some (.tup xs)
structure Step (B : Addr → Prop) (F H F' H' : Hp) : Prop where
  same : Same F F'
  sub : Same F' H'
  keep : ∀ a o, H a = some o → ¬ B a → H' a = some o
  new : ∀ a, F' a ≠ none → F a ≠ none ∨ H a = none ∨ B a ∨ Tup H a
theorem Step.refl {B : Addr → Prop} {F H : Hp} (s : Same F H) : Step B F H F H := ⟨Same.refl _, s, fun _ _ e _ => e, fun _ e => .inl e⟩
theorem Step.trans {B B' : Addr → Prop} {F H F1 H1 F2 H2 : Hp} (x : Step B F H F1 H1) (y : Step B' F1 H1 F2 H2) (hb : ∀ a, B' a → B a ∨ H a = none) : Step B F H F2 H2 := by
  refine ⟨x.same.trans y.same, y.sub, fun a o e n => ?_, fun a e => ?_⟩
  · refine y.keep a o (x.keep a o e n) fun b => ?_
    rcases hb a b with q | q
    · exact n q
    · rw [q] at e; cases e
  · rcases y.new a e with q | q | q | ⟨xs, q⟩
    · exact x.new a q
    · cases h : H a with
      | none => exact .inr (.inl rfl)
      | some o =>
        by_cases b : B a
        · exact .inr (.inr (.inl b))
        · rw [x.keep a o h b] at q; cases q
    · rcases hb a q with q | q
      · exact .inr (.inr (.inl q))
      · exact .inr (.inl q)
    · cases h : H a with
      | none => exact .inr (.inl rfl)
      | some o =>
        by_cases b : B a
        · exact .inr (.inr (.inl b))
        · rw [x.keep a o h b] at q
          cases q
          exact .inr (.inr (.inr ⟨xs, h⟩))
theorem Step.mono {B B' : Addr → Prop} {F H F' H' : Hp} (x : Step B F H F' H') (hb : ∀ a, B a → B' a) : Step B' F H F' H' :=
  ⟨x.same, x.sub, fun a o e n => x.keep a o e fun b => n (hb a b), fun a e => by
    rcases x.new a e with q | q | q | q
    · exact .inl q
    · exact .inr (.inl q)
    · exact .inr (.inr (.inl (hb a q)))
    · exact .inr (.inr (.inr q))⟩
/-- a new object, frozen -/
theorem Step.mkF {B : Addr → Prop} {F H : Hp} {p : Addr} {o : HO} (s : Same F H) (np : H p = none) : Step B F H (upd F p o) (upd H p o) := by
  have fp : F p = none := s.free np
  refine ⟨fun b x e => by rw [upd_ne (ne_of_none e fp)]; exact e, fun b x e => ?_, fun b x e _ => by rw [upd_ne (ne_of_none e np)]; exact e, fun b e => ?_⟩
  · by_cases hb : b = p
    · subst hb; rw [upd_same] at e ⊢; exact e
    · rw [upd_ne hb] at e ⊢; exact s _ _ e
  · by_cases hb : b = p
    · subst hb; exact .inr (.inl np)
    · rw [upd_ne hb] at e; exact .inl e
/-- a new object, not frozen -/
theorem Step.mk' {B : Addr → Prop} {F H : Hp} {p : Addr} {o : HO} (s : Same F H) (np : H p = none) : Step B F H F (upd H p o) :=
  ⟨Same.refl _, fun b x e => by rw [upd_ne (ne_of_none (s _ _ e) np)]; exact s _ _ e, fun b x e _ => by rw [upd_ne (ne_of_none e np)]; exact e, fun b e => .inl e⟩
/-- an object of B is written -/
theorem Step.wr {B : Addr → Prop} {F H : Hp} {p : Addr} {o : HO} (s : Same F H) (fp : F p = none) (b : B p) : Step B F H F (upd H p o) :=
  ⟨Same.refl _, fun c x e => by rw [upd_ne (ne_of_none e fp)]; exact s _ _ e, fun c x e n => by rw [upd_ne (fun q => n (by rw [q]; exact b))]; exact e, fun b e => .inl e⟩
/-- what stands is frozen -/
theorem Step.fz {B : Addr → Prop} {F H : Hp} {p : Addr} {o : HO} (s : Same F H) (hp : H p = some o) (fp : F p = none) (b : B p) : Step B F H (upd F p o) H := by
  refine ⟨fun c x e => by rw [upd_ne (ne_of_none e fp)]; exact e, fun c x e => ?_, fun _ _ e _ => e, fun c e => ?_⟩
  · by_cases hb : c = p
    · subst hb; rw [upd_same] at e; cases e; exact hp
    · rw [upd_ne hb] at e; exact s _ _ e
  · by_cases hb : c = p
    · subst hb; exact .inr (.inr (.inl b))
    · rw [upd_ne hb] at e; exact .inl e

/-! ### slots -/
def kD : Key → D
  | .inl i => .int i
  | .inr x => .str x
def DicOk (F H : Hp) : Bool → Addr → List (D × D) → Prop
  | false, a, kvs => ∃ ks : List (Key × V), H a = some (.dK ks) ∧ Paired (fun (p : Key × V) (q : D × D) => kD p.1 = q.1 ∧ q.1.canLay0 = true ∧ Rep F p.2 q.2) ks kvs
  | true, a, kvs => ∃ ks : List (List Key × V), H a = some (.dT ks) ∧ Paired (fun (p : List Key × V) (q : D × D) => .tuple (p.1.map kD) = q.1 ∧ q.1.canLay0 = true ∧ Rep F p.2 q.2) ks kvs
theorem Paired.imp {α β : Type} {F G : α → β → Prop} : ∀ {l₁ : List α} {l₂ : List β}, Paired F l₁ l₂ → (∀ a b, F a b → G a b) → Paired G l₁ l₂
  | _, _, .nil, _ => .nil
  | _, _, .cons r t, f => .cons (f _ _ r) (Paired.imp t f)
theorem DicOk.mono {F F' H H' : Hp} {t : Bool} {a : Addr} {kvs : List (D × D)} (s : Same F F') (e : H' a = H a) (h : DicOk F H t a kvs) : DicOk F' H' t a kvs := by
  cases t with
  | false =>
    obtain ⟨ks, h1, h2⟩ := h
    exact ⟨ks, e.trans h1, Paired.imp h2 fun p q x => ⟨x.1, x.2.1, x.2.2.mono s⟩⟩
  | true =>
    obtain ⟨ks, h1, h2⟩ := h
    exact ⟨ks, e.trans h1, Paired.imp h2 fun p q x => ⟨x.1, x.2.1, x.2.2.mono s⟩⟩
theorem DicOk.at {F H : Hp} {t : Bool} {a : Addr} {kvs : List (D × D)} (h : DicOk F H t a kvs) : ∃ o, H a = some o ∧ ¬ Tup H a := by
  cases t with
  | false =>
    obtain ⟨ks, h1, _⟩ := h
    exact ⟨_, h1, fun ⟨xs, e⟩ => by rw [h1] at e; cases e⟩
  | true =>
    obtain ⟨ks, h1, _⟩ := h
    exact ⟨_, h1, fun ⟨xs, e⟩ => by rw [h1] at e; cases e⟩
/-- the script -/
def ScOk (K : PySem.W.Frag) (F : Hp) (a : Addr) (ns : List Int) : Prop := ∀ H', Same F H' → SqL K H' a (ns.map V.int)
theorem ScOk.mono {K : PySem.W.Frag} {F F' : Hp} {a : Addr} {ns : List Int} (s : Same F F') (h : ScOk K F a ns) : ScOk K F' a ns := fun H' q => h H' (s.trans q)
def RvOk (K : PySem.W.Frag) (F H : Hp) : Rv → V → Prop
  | .d x, v => Rep F v x
  | .ol xs _, v => ∃ a vs, v = .ref a ∧ F a = none ∧ H a = some (.lst vs) ∧ RepL F vs xs
  | .od t kvs _, v => ∃ a, v = .ref a ∧ F a = none ∧ DicOk F H t a kvs
  | .sc ns, v => ∃ a, v = .ref a ∧ ScOk K F a ns
def own : Rv → Bool
  | .ol _ _ => true
  | .od _ _ _ => true
  | _ => false
def lent : Rv → Bool
  | .ol _ b => b
  | .od _ _ b => b
  | _ => false
theorem own_at {K : PySem.W.Frag} {F H : Hp} {r : Rv} {a : Addr} (h : RvOk K F H r (.ref a)) (o : own r = true) : F a = none ∧ (∃ x, H a = some x) ∧ ¬ Tup H a := by
  cases r with
  | ol xs b =>
    obtain ⟨a', vs, e, h1, h2, _⟩ := h
    cases e
    exact ⟨h1, ⟨_, h2⟩, fun ⟨ys, e⟩ => by rw [h2] at e; cases e⟩
  | od t kvs b =>
    obtain ⟨a', e, h1, h2⟩ := h
    cases e
    obtain ⟨x, h3, h4⟩ := h2.at
    exact ⟨h1, ⟨x, h3⟩, h4⟩
  | _ => cases o
theorem own_ref {K : PySem.W.Frag} {F H : Hp} {r : Rv} {v : V} (h : RvOk K F H r v) (o : own r = true) : ∃ a, v = .ref a := by
  cases r with
  | ol xs b => obtain ⟨a', vs, e, _⟩ := h; exact ⟨_, e⟩
  | od t kvs b => obtain ⟨a', e, _⟩ := h; exact ⟨_, e⟩
  | _ => cases o
/-- a value stays while its own object does -/
theorem RvOk.keep {K : PySem.W.Frag} {F H F' H' : Hp} {r : Rv} {v : V} (h : RvOk K F H r v) (s : Same F F') (k : own r = true → ∀ a, v = .ref a → F' a = none ∧ H' a = H a) : RvOk K F' H' r v := by
  cases r with
  | d x => exact Rep.mono s h
  | ol xs b =>
    obtain ⟨a, vs, rfl, h1, h2, h3⟩ := h
    obtain ⟨k1, k2⟩ := k rfl a rfl
    exact ⟨a, vs, rfl, k1, k2.trans h2, h3.mono s⟩
  | od t kvs b =>
    obtain ⟨a, rfl, h1, h2⟩ := h
    obtain ⟨k1, k2⟩ := k rfl a rfl
    exact ⟨a, rfl, k1, h2.mono s k2⟩
  | sc ns =>
    obtain ⟨a, rfl, h1⟩ := h
    exact ⟨a, rfl, h1.mono s⟩

/-- the slots stand for the language's slots -/
structure Sim (K : PySem.W.Frag) (z : En) (σ : List (Option V)) (F H : Hp) : Prop where
  len : z.length = σ.length
  slot : ∀ (i : Nat) r, z[i]? = some (some r) → ∃ v, σ[i]? = some (some v) ∧ RvOk K F H r v
  apart : ∀ (i j : Nat) r s a, z[i]? = some (some r) → z[j]? = some (some s) → own r = true → own s = true → σ[i]? = some (some (.ref a)) → σ[j]? = some (some (.ref a)) → i = j
  sub : Same F H
def Own (z : En) (σ : List (Option V)) (a : Addr) : Prop := ∃ (i : Nat) (r : Rv), z[i]? = some (some r) ∧ own r = true ∧ σ[i]? = some (some (.ref a))
theorem Sim.own {K : PySem.W.Frag} {z : En} {σ : List (Option V)} {F H : Hp} (S : Sim K z σ F H) {a : Addr} (o : Own z σ a) : F a = none ∧ (∃ x, H a = some x) ∧ ¬ Tup H a := by
  obtain ⟨i, r, h1, h2, h3⟩ := o
  obtain ⟨v, h4, h5⟩ := S.slot i r h1
  rw [h3] at h4
  cases h4
  exact own_at h5 h2
/-- the heap grows, nothing of the def's own is touched -/
theorem Sim.step0 {K : PySem.W.Frag} {z : En} {σ : List (Option V)} {F H F' H' : Hp} (S : Sim K z σ F H) (t : Step (fun _ => False) F H F' H') : Sim K z σ F' H' := by
  refine ⟨S.len, fun i r e => ?_, S.apart, t.sub⟩
  obtain ⟨v, h1, h2⟩ := S.slot i r e
  refine ⟨v, h1, h2.keep t.same fun o a ea => ?_⟩
  subst ea
  obtain ⟨q1, ⟨x, q2⟩, q3⟩ := own_at h2 o
  refine ⟨?_, ?_⟩
  · cases e2 : F' a with
    | none => rfl
    | some y =>
      rcases t.new a (by rw [e2]; simp) with w | w | w | w
      · exact absurd q1 w
      · rw [q2] at w; cases w
      · exact w.elim
      · exact absurd w q3
  · rw [q2]; exact t.keep a x q2 fun w => w
end TW
end

section
/-! The operators, by values. -/
namespace TW
open PySem PySem.Spec PyProof.Rows L2

/-- readable data: frozen, or a list of the def's own -/
def RepH (F H : Hp) (v : V) (d : D) : Prop := Rep F v d ∨ ∃ a vs xs, v = V.ref a ∧ d = .list xs ∧ H a = some (.lst vs) ∧ RepL F vs xs
section
variable {F H : Hp} {v : V} {d : D}
theorem RepH.int {i : Int} (h : RepH F H v (.int i)) : v = .int i := by
  rcases h with h | ⟨_, _, _, _, e, _⟩
  · cases h; rfl
  · cases e
theorem RepH.bl {i : Bool} (h : RepH F H v (.bool i)) : v = .bl i := by
  rcases h with h | ⟨_, _, _, _, e, _⟩
  · cases h; rfl
  · cases e
theorem RepH.str {x : Str} (h : RepH F H v (.str x)) : v = .str x ∧ PyData.strOk x = true := by
  rcases h with h | ⟨_, _, _, _, e, _⟩
  · cases h with | str _ k => exact ⟨rfl, k⟩
  · cases e
theorem RepH.tup {xs : List D} (h : RepH F H v (.tuple xs)) : ∃ a vs, v = .ref a ∧ F a = some (.tup vs) ∧ RepL F vs xs := by
  rcases h with h | ⟨_, _, _, _, e, _⟩
  · cases h with | tup k r => exact ⟨_, _, rfl, k, r⟩
  · cases e
theorem RepH.lst {xs : List D} (s : Same F H) (h : RepH F H v (.list xs)) : ∃ a vs, v = .ref a ∧ H a = some (.lst vs) ∧ RepL F vs xs := by
  rcases h with h | ⟨a, vs, ys, e0, e, h1, h2⟩
  · cases h with | lst k r => exact ⟨_, _, rfl, s _ _ k, r⟩
  · cases e; exact ⟨a, vs, e0, h1, h2⟩
theorem RepH.dp {K : PySem.W.Frag} (s : Same F H) (h : RepH F H v d) : Dp K H v d := by
  rcases h with h | ⟨a, vs, ys, rfl, rfl, h1, h2⟩
  · exact h.dp s
  · exact .lst (SqL.of h1) (h2.dp s)
theorem RepH.can (h : RepH F H v d) : d.canLay0 = true := by
  rcases h with h | ⟨a, vs, ys, rfl, rfl, h1, h2⟩
  · exact h.can
  · simpa [PyData.canLay0] using h2.can
end
/-- what an operation gives: data, or a new list -/
def NewRes (F' H H' : Hp) : Res → V → Prop
  | .d x, v => Rep F' v x
  | .fl xs, v => ∃ a vs, v = V.ref a ∧ H a = none ∧ F' a = none ∧ H' a = some (.lst vs) ∧ RepL F' vs xs
  | _, _ => False
def N0 : Addr → Prop := fun _ => False
/-- what is asked of the value and the heap behind an operation -/
def After (F H : Hp) (r : Res) (Q : VK) : Prop := ∀ v F' H', Step N0 F H F' H' → NewRes F' H H' r v → Q v H'
section
variable {F H : Hp} {Q : VK}
theorem After.same {d : D} {v : V} (h : After F H (.d d) Q) (s : Same F H) (r : Rep F v d) : Q v H := h v F H (Step.refl s) r
theorem After.tup {xs : List D} {vs : List V} (h : After F H (.d (.tuple xs)) Q) (s : Same F H) (r : RepL F vs xs) : ∀ p, H p = none → Q (.ref p) (upd H p (.tup vs)) := fun p np => by
  have t : Step N0 F H _ _ := Step.mkF (o := .tup vs) s np
  exact h (.ref p) _ _ t (.tup upd_same (r.mono t.same))
theorem After.fl {xs : List D} {vs : List V} (h : After F H (.fl xs) Q) (s : Same F H) (r : RepL F vs xs) : ∀ p, H p = none → Q (.ref p) (upd H p (.lst vs)) := fun p np =>
  h (.ref p) _ _ (Step.mk' s np) ⟨p, vs, rfl, np, s.free np, upd_same, r⟩
end
theorem strOk_app {x y : Str} (h : PyData.strOk x = true) (h' : PyData.strOk y = true) : PyData.strOk (x ++ y) = true := by
  unfold PyData.strOk at *
  rw [← Array.all_toList] at *
  have e : (x ++ y).cps.toList = x.cps.toList ++ y.cps.toList := TL.tl_append x y
  rw [e, List.all_append, h, h']
  rfl
theorem lim : LIM = sizeLine := by rw [sizeLine_eq]; rfl
section
variable {X : Cx}
theorem mulOk_ok {i j : Int} (h : mulOk i j = true) : IntMulOk i j := by
  unfold mulOk at h
  simp only [Bool.or_eq_true, decide_eq_true_eq] at h
  rcases h with (h | h) | h
  · exact CMul.ok (.inl ⟨by omega, by omega⟩)
  · exact CMul.ok (.inr ⟨by omega, by omega⟩)
  · exact CMulW.ok h
theorem tuple_mul1 (l : Addr) (items : Array Value) (n : Nat) (sl : Array (Option Value)) (dd : Option Addr) (u : Tok) :
    Meets (Builtin.«tuple.__mul__» ⟨[.ref l, .int 1 u], []⟩) (fun _ R s => s.heap.get? l = some { cls := .type "tuple", dict := dd, data := .seq items n, slots := sl } ∧ R (.ok (.ret (Value.ref l))) s) :=
  .of_wp fun prog w A R s h => by
    obtain ⟨hp, g, d, tk, os⟩ := s
    obtain ⟨hl, h⟩ := h
    have f1 := AutoSeq1.idx_int
    have c0 : (decide ((1 : Int) < -(2 ^ 63)) || decide ((1 : Int) ≥ 2 ^ 63)) = false := by decide
    have c1 : (items.isEmpty || (1 : Int) == 1) = true := by simp
    wp_walk using wpAny_loadPart' hl
    exact ⟨_, rfl, h⟩
theorem rep1 {α : Type} (xs : List α) : (List.replicate 1 xs).flatten = xs := by simp
theorem bin_ok (op : Operator) : OpR X (binaryOp op) (fun x y H Q => ∃ F d e r, Same F H ∧ RepH F H x d ∧ RepH F H y e ∧ binR op d e = some r ∧ After F H r Q) := by
  intro pins s σ H x y v u Q I rx ry h
  obtain ⟨F, d, e, r, sm, hd, he, hb, q⟩ := h
  unfold binR at hb
  split at hb
  · cases hb; cases hd.int; cases he.int
    exact op_add pins s σ H _ _ v u Q I rx ry ⟨_, _, rfl, rfl, q.same sm (.int _)⟩
  · split at hb
    · rename_i hl
      cases hb
      obtain ⟨a, vs, rfl, h1, h2⟩ := hd.tup
      obtain ⟨b, ws, rfl, k1, k2⟩ := he.tup
      refine op_catA pins s σ H _ _ v u Q I rx ry ⟨a, b, vs, ws, rfl, rfl, SqT.of (sm _ _ h1), SqT.of (sm _ _ k1), by rw [h2.length, k2.length, ← lim]; exact hl, fun e => ?_, fun _ e => ?_, fun _ _ => q.tup sm (h2.append k2)⟩
      · subst e
        cases h2
        exact q.same sm (.tup k1 (by simpa using k2))
      · subst e
        cases k2
        exact q.same sm (.tup h1 (by simpa using h2))
    · cases hb
  · split at hb
    · rename_i hl
      cases hb
      obtain ⟨a, vs, rfl, h1, h2⟩ := hd.lst sm
      obtain ⟨b, ws, rfl, k1, k2⟩ := he.lst sm
      exact op_cat pins s σ H _ _ v u Q I rx ry ⟨a, b, vs, ws, rfl, rfl, h1, k1, by rw [h2.length, k2.length, ← lim]; exact hl, q.fl sm (h2.append k2)⟩
    · cases hb
  · split at hb
    · rename_i hl
      cases hb
      obtain ⟨rfl, h1⟩ := hd.str
      obtain ⟨rfl, k1⟩ := he.str
      exact op_add_str pins s σ H _ _ v u Q I rx ry ⟨_, _, rfl, rfl, by rw [← lim]; exact hl, q.same sm (.str _ (strOk_app h1 k1))⟩
    · cases hb
  · cases hb; cases hd.int; cases he.int
    exact op_sub pins s σ H _ _ v u Q I rx ry ⟨_, _, rfl, rfl, q.same sm (.int _)⟩
  · split at hb
    · rename_i hl
      cases hb; cases hd.int; cases he.int
      exact opI (C := fun i j => mulOk i j = true) (g := fun i j => i * j) (fun _ _ _ _ _ _ _ hc q => mul_int q (mulOk_ok hc)) pins s σ H _ _ v u Q I rx ry ⟨_, _, rfl, rfl, hl, q.same sm (.int _)⟩
    · cases hb
  · split at hb
    · rename_i hl
      cases hb
      obtain ⟨a, vs, rfl, h1, h2⟩ := hd.tup
      cases he.int
      obtain ⟨l1, l2, l3, l4⟩ := hl
      by_cases h : (‹Int› : Int) = 1
      · rw [h] at ry q
        cases rx
        obtain ⟨t, rfl⟩ := ry
        obtain ⟨its, r, ⟨⟨cls, dd, data, sl⟩, ho, hc, n, hd⟩, hs⟩ := I.tuple (SqT.of (sm _ _ h1))
        simp only at hc hd
        subst hc hd
        refine wpAny_binaryOp_repeat_ref (T := "tuple") (U := "int") (by decide) ⟨_, ho, rfl⟩ (fun s' => typeIs_int s' 1 t) noFill_tuple_mul PySem.F.fills_int_mul PySem.F.slot_int_rmul repeat_tuple PySem.F.slot_int_index.lookup
          (call_meets PySem.F.slot_int_rmul (typeIs_int s 1 t) PySem.F.entry_int_rmul (PySem.F.args_int_rmul_2 _ _) (int_rmul_tuple 1 t a its.toArray n dd sl)
            ⟨ho, rfl, ⟨_, ho, rfl⟩, call_meets PySem.F.slot_tuple_mul ⟨_, ho, rfl⟩ PySem.F.entry_tuple_mul (PySem.F.args_tuple_mul_2 _ _) (tuple_mul1 a its.toArray n sl dd t) ⟨ho, ?_⟩⟩)
        refine ⟨.ref a, H, I, rfl, q.same sm (.tup h1 ?_)⟩
        have e : (List.replicate (1 : Int).toNat ‹List D›).flatten = ‹List D› := rep1 _
        rw [e]
        exact h2
      · refine op_repT pins s σ H _ _ v u Q I rx ry ⟨a, _, vs, rfl, rfl, SqT.of (sm _ _ h1), fun e => ?_, by omega, l2, by rw [h2.length]; exact l4, q.tup sm (h2.rep _)⟩
        subst e; cases h2; exact l3 rfl
    · cases hb
  · split at hb
    · rename_i hl
      cases hb
      obtain ⟨a, vs, rfl, h1, h2⟩ := hd.lst sm
      cases he.int
      obtain ⟨l1, l2, l3⟩ := hl
      exact op_rep pins s σ H _ _ v u Q I rx ry ⟨a, _, vs, rfl, rfl, h1, by omega, by omega, by rw [h2.length, ← lim]; exact l3, q.fl sm (h2.rep _)⟩
    · cases hb
  · split at hb
    · rename_i hl
      cases hb; cases hd.int; cases he.int
      exact op_fdivW pins s σ H _ _ v u Q I rx ry ⟨_, _, rfl, rfl, hl, q.same sm (.int _)⟩
    · cases hb
  · split at hb
    · rename_i hl
      cases hb; cases hd.int; cases he.int
      exact op_mod pins s σ H _ _ v u Q I rx ry ⟨_, _, rfl, rfl, hl, q.same sm (.int _)⟩
    · cases hb
  · split at hb
    · rename_i hl
      cases hb; cases hd.int; cases he.int
      exact op_pow pins s σ H _ _ v u Q I rx ry ⟨_, _, rfl, rfl, ⟨hl.1, hl.2.1, by have := hl.2.2; omega⟩, q.same sm (.int _)⟩
    · cases hb
  · cases hb
end
end TW
end

section
namespace TW
open PySem PySem.Spec PyProof.Rows L2
section
variable {X : Cx}
theorem reads_of {pins : List (Addr × Obj)} {s : Shared} {σ : List (Option V)} {F H : Hp} {v : V} {u : Value} {d : D} (I : Inv X pins σ H s) (sm : Same F H) (h : RepH F H v d) (r : RelV v u) : ∃ as, Reads s.heap u d as :=
  Dp.reads I d v u (h.dp sm) r
theorem eq_ok (hu : X.A.units + 200 < cLine) : OpR X (compareOp .Eq) (fun x y H Q => ∃ F d e, Same F H ∧ RepH F H x d ∧ RepH F H y e ∧ dpt d e = true ∧ Q (.bl (PyData.eqv d e)) H) := by
  intro pins s σ H x y v u Q I rx ry h
  obtain ⟨F, d, e, sm, hd, he, hp, q⟩ := h
  obtain ⟨as, r1⟩ := reads_of I sm hd rx
  obtain ⟨bs, r2⟩ := reads_of I sm he ry
  have hp' : min d.depth e.depth ≤ 150 := of_decide_eq_true hp
  exact SeqAt.compareEq_reads r1 r2 hd.can he.can (by omega) ⟨.bl _, H, I, rfl, q⟩
theorem ne_ok (hu : X.A.units + 200 < cLine) : OpR X (compareOp .NotEq) (fun x y H Q => ∃ F d e, Same F H ∧ RepH F H x d ∧ RepH F H y e ∧ dpt d e = true ∧ Q (.bl (!PyData.eqv d e)) H) := by
  intro pins s σ H x y v u Q I rx ry h
  obtain ⟨F, d, e, sm, hd, he, hp, q⟩ := h
  obtain ⟨as, r1⟩ := reads_of I sm hd rx
  obtain ⟨bs, r2⟩ := reads_of I sm he ry
  have hp' : min d.depth e.depth ≤ 150 := of_decide_eq_true hp
  exact SeqAt.compareNe_reads r1 r2 hd.can he.can (by omega) ⟨.bl _, H, I, rfl, q⟩
theorem inAny_ok {x : D} : ∀ {ys : List D} {b : Bool}, inAny x ys = some b → b = (ys.any fun y => PyData.eqv y x) ∧ min (PyData.depthAll ys) x.depth ≤ 150
  | [], b, h => by
    simp [inAny] at h
    subst h
    refine ⟨rfl, ?_⟩
    simp [PyData.depthAll]
  | y :: ys, b, h => by
    unfold inAny at h
    split at h
    · rename_i hd
      split at h
      · rename_i c hc
        cases h
        obtain ⟨h1, h2⟩ := inAny_ok hc
        have hd' : min y.depth x.depth ≤ 150 := of_decide_eq_true hd
        refine ⟨by simp [h1], ?_⟩
        simp only [PyData.depthAll]
        omega
      · cases h
    · cases h
/-- the items of a sequence against one value -/
theorem seq_eqAt {pins : List (Addr × Obj)} {s : Shared} {σ : List (Option V)} {F H : Hp} {v : V} {u : Value} {d : D} {vs : List V} {its : List Value} {ds : List D} (hu : X.A.units + 200 < cLine) (I : Inv X pins σ H s) (sm : Same F H)
    (h : RepH F H v d) (r : RelV v u) (hl : RepL F vs ds) (rv : Vals vs its) (hm : min (PyData.depthAll ds) d.depth ≤ 150) :
    (∀ w, w ∈ its.toArray → SeqAt.EqAt X.A.in1 s w u (PyData.eqv (SeqAt.readOf s.heap w) d)) ∧ its.map (SeqAt.readOf s.heap) = ds := by
  obtain ⟨bs, r1⟩ := reads_of I sm h r
  obtain ⟨as, h4⟩ := Dp.readsAll I ds _ its (hl.dp sm) rv
  exact ⟨SeqAt.items_eqAt (vs := its.toArray) (show ReadsAll s.heap its.toArray.toList ds as from h4) r1 hl.can h.can (show X.A.units + 1 + min (PyData.depthAll ds) d.depth < cLine by omega), SeqAt.readsAll_map ds its as hl.can h4⟩
theorem any_read {h : Heap} {its : List Value} {ds : List D} {d : D} (e : its.map (SeqAt.readOf h) = ds) : (its.toArray.any fun w => PyData.eqv (SeqAt.readOf h w) d) = ds.any fun y => PyData.eqv y d := by
  rw [← e, List.any_map]
  simp [Function.comp_def]
theorem in_ok (hu : X.A.units + 200 < cLine) : OpR X (compareOp .In) (fun x y H Q => ∃ F d ds b, Same F H ∧ RepH F H x d ∧ (RepH F H y (.list ds) ∨ RepH F H y (.tuple ds)) ∧ inAny d ds = some b ∧ Q (.bl b) H) := by
  intro pins s σ H x y v u Q I rx ry h
  obtain ⟨F, d, ds, b, sm, hd, he, hb, q⟩ := h
  obtain ⟨rfl, hm⟩ := inAny_ok hb
  rcases he with he | he
  · obtain ⟨a, vs, rfl, h1, h2⟩ := he.lst sm
    cases ry
    obtain ⟨its, r, pl, hz⟩ := I.list (SqL.of h1)
    obtain ⟨k1, k2⟩ := seq_eqAt hu I sm hd rx h2 r hm
    exact SeqAt.in_listAt _ pl.isList k1 ⟨.bl _, H, I, rfl, by rw [any_read k2]; exact q⟩
  · obtain ⟨a, vs, rfl, h1, h2⟩ := he.tup
    cases ry
    obtain ⟨its, r, pl, hz⟩ := I.tuple (SqT.of (sm _ _ h1))
    obtain ⟨k1, k2⟩ := seq_eqAt hu I sm hd rx h2 r hm
    exact SeqAt.in_tupleAt _ pl k1 ⟨.bl _, H, I, rfl, by rw [any_read k2]; exact q⟩
theorem notIn_ok (hu : X.A.units + 200 < cLine) : OpR X (compareOp .NotIn) (fun x y H Q => ∃ F d ds b, Same F H ∧ RepH F H x d ∧ (RepH F H y (.list ds) ∨ RepH F H y (.tuple ds)) ∧ inAny d ds = some b ∧ Q (.bl (!b)) H) := by
  intro pins s σ H x y v u Q I rx ry h
  obtain ⟨F, d, ds, b, sm, hd, he, hb, q⟩ := h
  obtain ⟨rfl, hm⟩ := inAny_ok hb
  rcases he with he | he
  · obtain ⟨a, vs, rfl, h1, h2⟩ := he.lst sm
    cases ry
    obtain ⟨its, r, pl, hz⟩ := I.list (SqL.of h1)
    obtain ⟨k1, k2⟩ := seq_eqAt hu I sm hd rx h2 r hm
    exact SeqAt.notIn_listAt _ pl.isList k1 ⟨.bl _, H, I, rfl, by rw [any_read k2]; exact q⟩
  · obtain ⟨a, vs, rfl, h1, h2⟩ := he.tup
    cases ry
    obtain ⟨its, r, pl, hz⟩ := I.tuple (SqT.of (sm _ _ h1))
    obtain ⟨k1, k2⟩ := seq_eqAt hu I sm hd rx h2 r hm
    exact SeqAt.notIn_tupleAt _ pl k1 ⟨.bl _, H, I, rfl, by rw [any_read k2]; exact q⟩
/-! dicts -/
theorem kD_inj {a b : Key} : PyData.eqv (kD a) (kD b) = decide (a = b) := by
  cases a <;> cases b <;> simp [kD, PyData.eqv, Bool.beq_eq_decide_eq]
  all_goals rw [Bool.eq_iff_iff]; simp
theorem kDs_inj : ∀ {a b : List Key}, PyData.eqvAll (a.map kD) (b.map kD) = decide (a = b)
  | [], [] => by simp [PyData.eqvAll]
  | [], y :: ys => by simp [PyData.eqvAll]
  | x :: xs, [] => by simp [PyData.eqvAll]
  | x :: xs, y :: ys => by
    simp only [List.map_cons, PyData.eqvAll, kD_inj, kDs_inj]
    by_cases h1 : x = y <;> by_cases h2 : xs = ys <;> simp [h1, h2]
theorem flatK_kD {d : D} (h : flatK d = true) : ∃ k, d = kD k := by
  cases d <;> simp [flatK] at h
  · exact ⟨.inl _, rfl⟩
  · exact ⟨.inr _, rfl⟩
theorem flatK_all : ∀ {ds : List D}, ds.all flatK = true → ∃ ks : List Key, ds = ks.map kD
  | [], _ => ⟨[], rfl⟩
  | d :: ds, h => by
    simp only [List.all_cons, Bool.and_eq_true] at h
    obtain ⟨k, rfl⟩ := flatK_kD h.1
    obtain ⟨ks, rfl⟩ := flatK_all h.2
    exact ⟨k :: ks, rfl⟩
theorem rep_kD {F : Hp} {v : V} {k : Key} (h : Rep F v (kD k)) : v = kV k := by
  cases k with
  | inl i => cases h; rfl
  | inr x => cases h; rfl
theorem repL_kD {F : Hp} : ∀ {vs : List V} {ks : List Key}, RepL F vs (ks.map kD) → vs = ks.map kV
  | _, [], h => by cases h; rfl
  | _, k :: ks, h => by
    cases h with
    | cons h1 h2 => rw [rep_kD h1, repL_kD h2] <;> rfl
abbrev PK (F : Hp) : Key × V → D × D → Prop := fun p q => kD p.1 = q.1 ∧ q.1.canLay0 = true ∧ Rep F p.2 q.2
abbrev PT (F : Hp) : List Key × V → D × D → Prop := fun p q => .tuple (p.1.map kD) = q.1 ∧ q.1.canLay0 = true ∧ Rep F p.2 q.2
theorem get_K {F : Hp} {k : Key} : ∀ {ks : List (Key × V)} {kvs : List (D × D)}, Paired (PK F) ks kvs → (valV ks k = none ∧ kvGet (kD k) kvs = none) ∨ ∃ v d, valV ks k = some v ∧ kvGet (kD k) kvs = some d ∧ Rep F v d
  | _, _, .nil => .inl ⟨rfl, rfl⟩
  | _, _, .cons (a := p) (b := q) (l₂ := l2) h r => by
    by_cases e : p.1 = k
    · exact .inr ⟨p.2, q.2, valV_pos e, by simp only [kvGet]; rw [← h.1, e, kD_inj]; simp, h.2.2⟩
    · have e2 : kvGet (kD k) (q :: l2) = kvGet (kD k) l2 := by
        simp only [kvGet]
        rw [← h.1, kD_inj, if_neg (by simpa using e)]
      rw [valV_neg e]
      rcases get_K (k := k) r with ⟨h1, h2⟩ | ⟨v, d, h1, h2, h3⟩
      · exact .inl ⟨h1, by rw [← h2]; exact e2⟩
      · exact .inr ⟨v, d, h1, by rw [← h2]; exact e2, h3⟩
theorem get_T {F : Hp} {k : List Key} : ∀ {ks : List (List Key × V)} {kvs : List (D × D)}, Paired (PT F) ks kvs → (valV ks k = none ∧ kvGet (.tuple (k.map kD)) kvs = none) ∨ ∃ v d, valV ks k = some v ∧ kvGet (.tuple (k.map kD)) kvs = some d ∧ Rep F v d
  | _, _, .nil => .inl ⟨rfl, rfl⟩
  | _, _, .cons (a := p) (b := q) (l₂ := l2) h r => by
    by_cases e : p.1 = k
    · exact .inr ⟨p.2, q.2, valV_pos e, by simp only [kvGet]; rw [← h.1, e]; simp [PyData.eqv, kDs_inj], h.2.2⟩
    · have e2 : kvGet (.tuple (k.map kD)) (q :: l2) = kvGet (.tuple (k.map kD)) l2 := by
        simp only [kvGet]
        rw [← h.1, if_neg (by simpa [PyData.eqv, kDs_inj] using e)]
      rw [valV_neg e]
      rcases get_T (k := k) r with ⟨h1, h2⟩ | ⟨v, d, h1, h2, h3⟩
      · exact .inl ⟨h1, by rw [← h2]; exact e2⟩
      · exact .inr ⟨v, d, h1, by rw [← h2]; exact e2, h3⟩
/-- what a dict holds at a key -/
theorem dic_get {F H : Hp} {t : Bool} {a : Addr} {kvs : List (D × D)} {y : V} {k : D} (sm : Same F H) (h : DicOk F H t a kvs) (ky : RepH F H y k) (ok : keyOk t k = true) :
    (DGet H a y none ∧ kvGet k kvs = none) ∨ ∃ v d, DGet H a y (some v) ∧ kvGet k kvs = some d ∧ Rep F v d := by
  cases t with
  | false =>
    obtain ⟨ks, h1, h2⟩ := h
    have fk : flatK k = true := by cases k <;> simp_all [keyOk]
    obtain ⟨k', rfl⟩ := flatK_kD fk
    have ey : y = kV k' := by
      rcases ky with q | ⟨_, _, _, _, e, _⟩
      · exact rep_kD q
      · cases k' <;> cases e
    subst ey
    rcases get_K (k := k') h2 with ⟨q1, q2⟩ | ⟨v, d, q1, q2, q3⟩
    · exact .inl ⟨by rw [← q1]; exact DGet.k h1, q2⟩
    · exact .inr ⟨v, d, by rw [← q1]; exact DGet.k h1, q2, q3⟩
  | true =>
    obtain ⟨ks, h1, h2⟩ := h
    cases k with
    | tuple xs =>
      have fk : xs.all flatK = true := by simpa [keyOk] using ok
      obtain ⟨k', rfl⟩ := flatK_all fk
      obtain ⟨b, vs, rfl, h3, h4⟩ := ky.tup
      have ev := repL_kD h4
      subst ev
      rcases get_T (k := k') h2 with ⟨q1, q2⟩ | ⟨v, d, q1, q2, q3⟩
      · exact .inl ⟨by rw [← q1]; exact DGet.t h1 (sm _ _ h3), q2⟩
      · exact .inr ⟨v, d, by rw [← q1]; exact DGet.t h1 (sm _ _ h3), q2, q3⟩
    | _ => simp [keyOk] at ok
theorem any_K {F : Hp} {k : Key} : ∀ {ks : List (Key × V)} {kvs : List (D × D)}, Paired (PK F) ks kvs → (kvs.any fun p => PyData.eqv p.1 (kD k)) = ks.any fun p => decide (p.1 = k)
  | _, _, .nil => rfl
  | _, _, .cons h r => by
    rw [List.any_cons, List.any_cons, any_K r, ← h.1, kD_inj]
theorem any_T {F : Hp} {k : List Key} : ∀ {ks : List (List Key × V)} {kvs : List (D × D)}, Paired (PT F) ks kvs → (kvs.any fun p => PyData.eqv p.1 (.tuple (k.map kD))) = ks.any fun p => decide (p.1 = k)
  | _, _, .nil => rfl
  | _, _, .cons h r => by
    rw [List.any_cons, List.any_cons, any_T r, ← h.1]
    simp [PyData.eqv, kDs_inj]
theorem paired_app {α β : Type} {G : α → β → Prop} : ∀ {l1 : List α} {l2 : List β} {a : α} {b : β}, Paired G l1 l2 → G a b → Paired G (l1 ++ [a]) (l2 ++ [b])
  | _, _, _, _, .nil, h => .cons h .nil
  | _, _, _, _, .cons h r, g => .cons h (paired_app r g)
theorem paired_map {α β : Type} {G : α → β → Prop} {f : α → α} {g : β → β} (hf : ∀ a b, G a b → G (f a) (g b)) : ∀ {l1 : List α} {l2 : List β}, Paired G l1 l2 → Paired G (l1.map f) (l2.map g)
  | _, _, .nil => .nil
  | _, _, .cons h r => .cons (hf _ _ h) (paired_map hf r)
theorem put_K {F : Hp} {k : Key} {v : V} {d : D} (c : (kD k).canLay0 = true) (hv : Rep F v d) {ks : List (Key × V)} {kvs : List (D × D)} (h : Paired (PK F) ks kvs) : Paired (PK F) (putK ks k v) (kvPut (kD k) d kvs) := by
  unfold putK kvPut
  rw [any_K h]
  split
  · refine paired_map (fun p q z => ?_) h
    rw [← z.1, kD_inj]
    by_cases e : p.1 = k
    · rw [if_pos e, if_pos (by simpa using e)]
      exact ⟨rfl, by rw [z.1]; exact z.2.1, hv⟩
    · rw [if_neg e, if_neg (by simpa using e)]
      exact z
  · exact paired_app h ⟨rfl, c, hv⟩
theorem put_T {F : Hp} {k : List Key} {v : V} {d : D} (c : (PyData.tuple (k.map kD)).canLay0 = true) (hv : Rep F v d) {ks : List (List Key × V)} {kvs : List (D × D)} (h : Paired (PT F) ks kvs) : Paired (PT F) (putK ks k v) (kvPut (.tuple (k.map kD)) d kvs) := by
  unfold putK kvPut
  rw [any_T h]
  split
  · refine paired_map (fun p q z => ?_) h
    rw [← z.1, show PyData.eqv (.tuple (p.1.map kD)) (.tuple (k.map kD)) = decide (p.1 = k) by simp [PyData.eqv, kDs_inj]]
    by_cases e : p.1 = k
    · rw [if_pos e, if_pos (by simpa using e)]
      exact ⟨rfl, by rw [z.1]; exact z.2.1, hv⟩
    · rw [if_neg e, if_neg (by simpa using e)]
      exact z
  · exact paired_app h ⟨rfl, c, hv⟩
theorem paired_len {α β : Type} {G : α → β → Prop} : ∀ {l1 : List α} {l2 : List β}, Paired G l1 l2 → l1.length = l2.length
  | _, _, .nil => rfl
  | _, _, .cons _ r => by simp [paired_len r]
/-- a dict is written at a key -/
theorem dic_put {F H : Hp} {t : Bool} {a : Addr} {kvs : List (D × D)} {y v : V} {k d : D} (sm : Same F H) (h : DicOk F H t a kvs) (ky : RepH F H y k) (ok : keyOk t k = true) (hl : kvs.length < LIM) (hv : Rep F v d) :
    ∃ o, DPut H a y v (upd H a o) ∧ DicOk F (upd H a o) t a (kvPut k d kvs) := by
  rw [lim] at hl
  cases t with
  | false =>
    obtain ⟨ks, h1, h2⟩ := h
    have fk : flatK k = true := by cases k <;> simp_all [keyOk]
    obtain ⟨k', rfl⟩ := flatK_kD fk
    have ey : y = kV k' := by
      rcases ky with q | ⟨_, _, _, _, e, _⟩
      · exact rep_kD q
      · cases k' <;> cases e
    subst ey
    exact ⟨_, DPut.k h1 (by rw [paired_len h2]; exact hl), _, upd_same, put_K ky.can hv h2⟩
  | true =>
    obtain ⟨ks, h1, h2⟩ := h
    cases k with
    | tuple xs =>
      have fk : xs.all flatK = true := by simpa [keyOk] using ok
      obtain ⟨k', rfl⟩ := flatK_all fk
      have hc := ky.can
      obtain ⟨b, vs, rfl, h3, h4⟩ := ky.tup
      have ev := repL_kD h4
      subst ev
      exact ⟨_, DPut.t h1 (sm _ _ h3) (by rw [paired_len h2]; exact hl), _, upd_same, put_T hc hv h2⟩
    | _ => simp [keyOk] at ok
theorem inD_ok (hu : X.A.units + 200 < cLine) : OpR X (compareOp .In) (fun x y H Q => ∃ F d t a kvs, Same F H ∧ RepH F H x d ∧ y = .ref a ∧ DicOk F H t a kvs ∧ keyOk t d = true ∧ Q (.bl (kvGet d kvs).isSome) H) := by
  intro pins s σ H x y v u Q I rx ry h
  obtain ⟨F, d, t, a, kvs, sm, hd, rfl, he, ok, q⟩ := h
  cases ry
  rcases dic_get sm he hd ok with ⟨g, e⟩ | ⟨w, z, g, e, _⟩
  · exact d_in (by omega) I g rx fun s' I' => ⟨.bl _, H, I', rfl, by rw [e] at q; exact q⟩
  · exact d_in (by omega) I g rx fun s' I' => ⟨.bl _, H, I', rfl, by rw [e] at q; exact q⟩
theorem notInD_ok (hu : X.A.units + 200 < cLine) : OpR X (compareOp .NotIn) (fun x y H Q => ∃ F d t a kvs, Same F H ∧ RepH F H x d ∧ y = .ref a ∧ DicOk F H t a kvs ∧ keyOk t d = true ∧ Q (.bl (!(kvGet d kvs).isSome)) H) := by
  intro pins s σ H x y v u Q I rx ry h
  obtain ⟨F, d, t, a, kvs, sm, hd, rfl, he, ok, q⟩ := h
  cases ry
  rcases dic_get sm he hd ok with ⟨g, e⟩ | ⟨w, z, g, e, _⟩
  · exact d_notIn (by omega) I g rx fun s' I' => ⟨.bl _, H, I', rfl, by rw [e] at q; exact q⟩
  · exact d_notIn (by omega) I g rx fun s' I' => ⟨.bl _, H, I', rfl, by rw [e] at q; exact q⟩
theorem ixD_ok (hu : X.A.units + 200 < cLine) : IxR X (fun x y H Q => ∃ F d t a kvs z, Same F H ∧ RepH F H y d ∧ x = .ref a ∧ DicOk F H t a kvs ∧ keyOk t d = true ∧ kvGet d kvs = some z ∧ ∀ v, Rep F v z → Q v H) := by
  intro value slice pins s σ H x y v u Q I rx ry h hs
  obtain ⟨F, d, t, a, kvs, z, sm, hd, rfl, he, ok, e, q⟩ := h
  cases rx
  rcases dic_get sm he hd ok with ⟨g, e'⟩ | ⟨w, z', g, e', rw'⟩
  · rw [e] at e'; cases e'
  · rw [e] at e'
    cases e'
    have hT := dict_typeIs I g
    unfold subscriptTail
    refine wpAny_bind ?_
    rw [getitemInPython_of_ne hT.not_modules]
    refine wpAny_bind (wpAny_specialOf hT PySem.F.slot_dict_getitem.lookup ?_)
    have fin : wpAny (model X.prog X.w) X.A (subscripted slice false (.ref a) u) (fun r s₃ => wpAny (model X.prog X.w) X.A (letTemporaryGo value (.ref a) r >>= fun _ => pure r) (EP X pins σ Q) X.xe s₃) X.xe s := by
      rw [hs]
      exact wpAny_operating (d_getItem (by omega) I g ry fun w' s3 I3 rw3 => wpAny_bind (wpAny_letTemporaryGo (wpAny_pure ⟨w, H, I3, rw3, q w rw'⟩)))
    first
      | exact wpAny_pure (wpAny_bind fin)
      | exact wpAny_bind (wpAny_pure (wpAny_bind fin))
      | exact wpAny_bind fin
/-- a subscript -/
theorem ix_ok : IxR X (fun x y H Q => ∃ F d e z, Same F H ∧ RepH F H x d ∧ RepH F H y e ∧ idxR d e = some z ∧ ∀ v, Rep F v z → Q v H) := by
  intro value slice pins s σ H x y v u Q I rx ry h hs
  obtain ⟨F, d, e, z, sm, hd, he, ez, q⟩ := h
  unfold idxR at ez
  split at ez
  · obtain ⟨a, vs, rfl, h1, h2⟩ := hd.lst sm
    cases he.int
    unfold atI at ez
    obtain ⟨j, hj, hz⟩ := Option.bind_eq_some_iff.mp ez
    obtain ⟨w, hw, rw'⟩ := h2.get hz
    exact ix_list value slice pins s σ H _ _ v u Q I rx ry ⟨a, vs, _, w, rfl, rfl, SqL.of h1, by unfold atI; rw [h2.length, hj]; exact hw, q w rw'⟩ hs
  · obtain ⟨a, vs, rfl, h1, h2⟩ := hd.tup
    cases he.int
    unfold atI at ez
    obtain ⟨j, hj, hz⟩ := Option.bind_eq_some_iff.mp ez
    obtain ⟨w, hw, rw'⟩ := h2.get hz
    exact ix_tup value slice pins s σ H _ _ v u Q I rx ry ⟨a, vs, _, w, rfl, rfl, SqT.of (sm _ _ h1), by unfold atI; rw [h2.length, hj]; exact hw, q w rw'⟩ hs
  · split at ez
    · rename_i hl
      obtain ⟨rfl, h1⟩ := hd.str
      cases he.int
      obtain ⟨c, hc, e2⟩ := Option.map_eq_some_iff.mp ez
      subst e2
      refine ix_str value slice pins s σ H _ _ v u Q I rx ry ⟨_, _, c, rfl, rfl, by rw [← lim]; exact hl, hc, q _ (.str _ ?_)⟩ hs
      obtain ⟨j, _, hj, _⟩ := atI_get hc
      have hm := List.mem_of_getElem? hj
      unfold PyData.strOk at h1 ⊢
      rw [← Array.all_toList, List.all_eq_true] at h1
      simpa using h1 c hm
    · cases ez
  · cases ez
theorem cut_V (vs : List V) (lo hi : Option Int) : cutV vs lo hi = cut vs lo hi := rfl
theorem RepL.cut {F : Hp} {vs : List V} {ds : List D} (lo hi : Option Int) (h : RepL F vs ds) : RepL F (cut vs lo hi) (cut ds lo hi) := by
  unfold TW.cut
  rw [h.length]
  exact (h.drop _).take _
theorem slc_ok : SlR X (fun x lo hi H Q => ∃ F d r, Same F H ∧ RepH F H x d ∧ slcR lo hi d = some r ∧ After F H r Q) := by
  intro pins s σ H x v vl vu lo hi sl Q I rx hs pl pu h
  obtain ⟨F, d, r, sm, hd, hr, q⟩ := h
  unfold slcR at hr
  split at hr
  · cases hr
    obtain ⟨a, vs, rfl, h1, h2⟩ := hd.lst sm
    exact sl_list pins s σ H _ v vl vu lo hi sl Q I rx hs pl pu ⟨a, vs, rfl, SqL.of h1, q.fl sm (h2.cut lo hi)⟩
  · cases hr
    obtain ⟨a, vs, rfl, h1, h2⟩ := hd.tup
    refine sl_tupA pins s σ H _ v vl vu lo hi sl Q I rx hs pl pu ⟨a, vs, rfl, SqT.of (sm _ _ h1), fun w => ?_, fun _ => q.tup sm (h2.cut lo hi)⟩
    refine q.same sm (.tup h1 ?_)
    have e : cut vs lo hi = vs := by
      unfold TW.cut
      rw [w.1, w.2]
      simp
    have z := h2.cut lo hi
    rw [e] at z
    exact z
  · cases hr
end
end TW
end

section
namespace TW
open PySem PySem.Spec PyProof.Rows L2
section
variable {X : Cx}
theorem isN_iff {F H : Hp} {x : V} {d : D} (h : RepH F H x d) : decide (x = .non) = isNoneD d := by
  rcases h with h | ⟨a, vs, xs, rfl, rfl, _⟩
  · cases h <;> rfl
  · rfl
theorem cmp_ok (hu : X.A.units + 200 < cLine) (op : CmpOp) : OpR X (compareOp op) (fun x y H Q => ∃ F d e z, Same F H ∧ RepH F H x d ∧ RepH F H y e ∧ cmpR op d e = some z ∧ Q (.bl z) H) := by
  intro pins s σ H x y v u Q I rx ry h
  obtain ⟨F, d, e, z, sm, hd, he, hz, q⟩ := h
  unfold cmpR at hz
  split at hz
  · split at hz
    · rename_i hp
      cases hz
      exact eq_ok hu pins s σ H x y v u Q I rx ry ⟨F, _, _, sm, hd, he, hp, q⟩
    · cases hz
  · split at hz
    · rename_i hp
      cases hz
      exact ne_ok hu pins s σ H x y v u Q I rx ry ⟨F, _, _, sm, hd, he, hp, q⟩
    · cases hz
  · cases hz; cases hd.int; cases he.int
    exact op_lt pins s σ H _ _ v u Q I rx ry ⟨_, _, rfl, rfl, q⟩
  · cases hz; cases hd.int; cases he.int
    exact op_le pins s σ H _ _ v u Q I rx ry ⟨_, _, rfl, rfl, q⟩
  · cases hz; cases hd.int; cases he.int
    exact op_gt pins s σ H _ _ v u Q I rx ry ⟨_, _, rfl, rfl, q⟩
  · cases hz; cases hd.int; cases he.int
    exact op_ge pins s σ H _ _ v u Q I rx ry ⟨_, _, rfl, rfl, q⟩
  · cases hz
    obtain ⟨rfl, _⟩ := hd.str
    obtain ⟨rfl, _⟩ := he.str
    exact op_le_str pins s σ H _ _ v u Q I rx ry ⟨_, _, rfl, rfl, q⟩
  · cases hz
    have ey : y = .non := by
      rcases he with k | ⟨_, _, _, _, k, _⟩
      · cases k; rfl
      · cases k
    subst ey
    exact op_isN pins s σ H _ _ v u Q I rx ry ⟨rfl, by rw [isN_iff hd]; exact q⟩
  · cases hz
    have ey : y = .non := by
      rcases he with k | ⟨_, _, _, _, k, _⟩
      · cases k; rfl
      · cases k
    subst ey
    refine op_notN pins s σ H _ _ v u Q I rx ry ⟨rfl, ?_⟩
    rw [isN_iff hd]
    exact q
  · cases hz
    have bl : ∀ {v : V} {b : Bool}, RepH F H v (.bool b) → v = .bl b := fun {v b} k => by
      rcases k with k | ⟨_, _, _, _, k, _⟩
      · cases k; rfl
      · cases k
    exact op_isBl pins s σ H _ _ v u Q I rx ry ⟨_, _, bl hd, bl he, q⟩
  · cases hz
    have bl : ∀ {v : V} {b : Bool}, RepH F H v (.bool b) → v = .bl b := fun {v b} k => by
      rcases k with k | ⟨_, _, _, _, k, _⟩
      · cases k; rfl
      · cases k
    exact op_notBl pins s σ H _ _ v u Q I rx ry ⟨_, _, bl hd, bl he, q⟩
  · cases hz
    obtain ⟨rfl, _⟩ := hd.str
    obtain ⟨rfl, _⟩ := he.str
    exact op_in_str pins s σ H _ _ v u Q I rx ry ⟨_, _, rfl, rfl, q⟩
  · cases hz
    obtain ⟨rfl, _⟩ := hd.str
    obtain ⟨rfl, _⟩ := he.str
    exact op_notin_str pins s σ H _ _ v u Q I rx ry ⟨_, _, rfl, rfl, q⟩
  · exact in_ok hu pins s σ H _ _ v u Q I rx ry ⟨F, _, _, _, sm, hd, .inl he, hz, q⟩
  · exact in_ok hu pins s σ H _ _ v u Q I rx ry ⟨F, _, _, _, sm, hd, .inr he, hz, q⟩
  · obtain ⟨b, hb, e⟩ := Option.map_eq_some_iff.mp hz
    subst e
    exact notIn_ok hu pins s σ H _ _ v u Q I rx ry ⟨F, _, _, _, sm, hd, .inl he, hb, q⟩
  · obtain ⟨b, hb, e⟩ := Option.map_eq_some_iff.mp hz
    subst e
    exact notIn_ok hu pins s σ H _ _ v u Q I rx ry ⟨F, _, _, _, sm, hd, .inr he, hb, q⟩
  · cases hz
/-! builtins -/
def VwOk (F H : Hp) (v : V) : Vw → Prop
  | .d x => RepH F H v x
  | .di t kvs => ∃ a, v = .ref a ∧ F a = none ∧ DicOk F H t a kvs
def VwsOk (F H : Hp) : List V → List Vw → Prop := Paired (VwOk F H)
theorem vw1 {F H : Hp} {xs : List V} {w : Vw} (h : VwsOk F H xs [w]) : ∃ v, xs = [v] ∧ VwOk F H v w := by
  cases h with
  | cons h1 h2 => cases h2; exact ⟨_, rfl, h1⟩
theorem vw2 {F H : Hp} {xs : List V} {w w' : Vw} (h : VwsOk F H xs [w, w']) : ∃ v v', xs = [v, v'] ∧ VwOk F H v w ∧ VwOk F H v' w' := by
  cases h with
  | cons h1 h2 =>
    obtain ⟨v', e, h3⟩ := vw1 h2
    subst e
    exact ⟨_, _, rfl, h1, h3⟩
theorem minI_ok : ∀ (ns : List Int) (n : Int), minI n ns ∈ n :: ns ∧ ∀ y ∈ n :: ns, minI n ns ≤ y
  | [], n => ⟨by simp [minI], fun y h => by simp at h; subst h; simp [minI]⟩
  | m :: ns, n => by
    simp only [minI]
    obtain ⟨h1, h2⟩ := minI_ok ns (if m < n then m else n)
    refine ⟨?_, fun y hy => ?_⟩
    · rcases List.mem_cons.mp h1 with e | e
      · rw [e]; split <;> simp
      · simp [e]
    · have h3 := h2 (if m < n then m else n) (List.mem_cons_self ..)
      have h4 : (if m < n then m else n) ≤ m ∧ (if m < n then m else n) ≤ n := by split <;> omega
      generalize (if m < n then m else n) = z at *
      rcases List.mem_cons.mp hy with e | e
      · subst e; omega
      · rcases List.mem_cons.mp e with e | e
        · subst e; omega
        · exact h2 y (List.mem_cons_of_mem _ e)
theorem maxI_ok : ∀ (ns : List Int) (n : Int), maxI n ns ∈ n :: ns ∧ ∀ y ∈ n :: ns, y ≤ maxI n ns
  | [], n => ⟨by simp [maxI], fun y h => by simp at h; subst h; simp [maxI]⟩
  | m :: ns, n => by
    simp only [maxI]
    obtain ⟨h1, h2⟩ := maxI_ok ns (if n < m then m else n)
    refine ⟨?_, fun y hy => ?_⟩
    · rcases List.mem_cons.mp h1 with e | e
      · rw [e]; split <;> simp
      · simp [e]
    · have h3 := h2 (if n < m then m else n) (List.mem_cons_self ..)
      have h4 : m ≤ (if n < m then m else n) ∧ n ≤ (if n < m then m else n) := by split <;> omega
      generalize (if n < m then m else n) = z at *
      rcases List.mem_cons.mp hy with e | e
      · subst e; omega
      · rcases List.mem_cons.mp e with e | e
        · subst e; omega
        · exact h2 y (List.mem_cons_of_mem _ e)
theorem rep_key {F : Hp} {k : Key} (c : (kD k).canLay0 = true) : Rep F (kV k) (kD k) := by
  cases k with
  | inl i => exact .int i
  | inr z => exact .str z c
theorem keys_K {F : Hp} : ∀ {ks : List (Key × V)} {kvs : List (D × D)}, Paired (PK F) ks kvs → RepL F (ks.map fun kv => kV kv.1) (kvs.map (·.1))
  | _, _, .nil => .nil
  | _, _, .cons h r => by
    refine .cons ?_ (keys_K r)
    have e := h.1
    have c := h.2.1
    dsimp only
    rw [← e] at c ⊢
    exact rep_key c
theorem vals_K {F : Hp} : ∀ {ks : List (Key × V)} {kvs : List (D × D)}, Paired (PK F) ks kvs → RepL F (ks.map (·.2)) (kvs.map (·.2))
  | _, _, .nil => .nil
  | _, _, .cons h r => .cons h.2.2 (vals_K r)
theorem vals_T {F : Hp} : ∀ {ks : List (List Key × V)} {kvs : List (D × D)}, Paired (PT F) ks kvs → RepL F (ks.map (·.2)) (kvs.map (·.2))
  | _, _, .nil => .nil
  | _, _, .cons h r => .cons h.2.2 (vals_T r)
theorem reps_kD {F : Hp} : ∀ {ks : List Key}, PyData.canLayAll0 (ks.map kD) = true → RepL F (ks.map kV) (ks.map kD)
  | [], _ => .nil
  | k :: ks, h => by
    simp only [List.map_cons, PyData.canLayAll0, Bool.and_eq_true] at h
    exact .cons (rep_key h.1) (reps_kD h.2)
theorem keys_T {F F' H : Hp} : ∀ {ks : List (List Key × V)} {kvs : List (D × D)} {bs : List Addr}, Paired (PT F) ks kvs → IsKeys H ks bs → (∀ b ∈ bs, F' b = H b) → RepL F' (bs.map V.ref) (kvs.map (·.1))
  | _, _, _, .nil, .nil, _ => .nil
  | _, _, _, .cons h r, .cons k q, f => by
    refine .cons ?_ (keys_T r q fun b hb => f b (List.mem_cons_of_mem _ hb))
    have e := h.1
    have c := h.2.1
    dsimp only
    rw [← e] at c ⊢
    exact .tup ((f _ (List.mem_cons_self ..)).trans k) (reps_kD (by simpa [PyData.canLay0] using c))
theorem keys_at {H : Hp} : ∀ {ks : List (List Key × V)} {bs : List Addr}, IsKeys H ks bs → ∀ b ∈ bs, Tup H b
  | _, _, .nil, _, h => by cases h
  | _, _, .cons k q, b, h => by
    rcases List.mem_cons.mp h with e | h
    · subst e; exact ⟨_, k⟩
    · exact keys_at q b h
/-- tuples of the heap are frozen -/
theorem Step.tups {B : Addr → Prop} {F H : Hp} (sm : Same F H) (bs : List Addr) (hb : ∀ b ∈ bs, Tup H b) : Step B F H (fun b => if b ∈ bs then H b else F b) H := by
  refine ⟨fun b o e => ?_, fun b o e => ?_, fun _ _ e _ => e, fun b e => ?_⟩
  · show (if b ∈ bs then H b else F b) = some o
    split
    · exact sm _ _ e
    · exact e
  · have e : (if b ∈ bs then H b else F b) = some o := e
    split at e
    · exact e
    · exact sm _ _ e
  · have e : (if b ∈ bs then H b else F b) ≠ none := e
    split at e
    · rename_i hm; exact .inr (.inr (.inr (hb b hm)))
    · exact .inl e
/-- list(d) -/
theorem list_dic {F H : Hp} {Q : VK} {t : Bool} {a : Addr} {kvs : List (D × D)} (hc : X.calm = true) (sm : Same F H) (h : DicOk F H t a kvs) (q : After F H (.fl (kvs.map (·.1))) Q) :
    ∀ (pins : List (Addr × Obj)) (s : Shared) (σ : List (Option V)) (us : List Value), Inv X pins σ H s → Vals [V.ref a] us → wpAny (model X.prog X.w) X.A (call (.type "list") us) (EP X pins σ Q) X.xe s := by
  intro pins s σ us I r
  cases t with
  | false =>
    obtain ⟨ks, h1, h2⟩ := h
    exact call_list_dK hc pins s σ H _ us Q I r ⟨a, ks, rfl, h1, q.fl sm (keys_K h2)⟩
  | true =>
    obtain ⟨ks, h1, h2⟩ := h
    refine call_list_dT hc pins s σ H _ us Q I r ⟨a, ks, rfl, .inl h1, fun p bs np ib => ?_⟩
    have t1 : Step N0 F H (fun b => if b ∈ bs then H b else F b) H := Step.tups sm bs (keys_at ib)
    have t2 : Step N0 (fun b => if b ∈ bs then H b else F b) H _ (upd H p (.lst (bs.map V.ref))) := Step.mk' t1.sub np
    refine q (.ref p) _ _ (t1.trans t2 fun _ z => z.elim) ⟨p, _, rfl, np, t1.sub.free np, upd_same, keys_T h2 ib fun b hb => ?_⟩
    show (if b ∈ bs then H b else F b) = H b
    rw [if_pos hb]
def bVal : Bi → Value
  | .len => .builtin "len"
  | .abs => .builtin "abs"
  | .int => .type "int"
  | .lst => .type "list"
  | .tupl => .type "tuple"
  | .sum => .builtin "sum"
  | .min => .builtin "min"
  | .max => .builtin "max"
  | .any => .builtin "any"
  | .all => .builtin "all"
  | .srt => .builtin "sorted"
  | .str => .type "str"
  | .rep => .builtin "repr"
  | _ => .none
abbrev BltR (X : Cx) (b : Bi) : Prop := CallR X (bVal b) (fun xs H Q => ∃ F vs r, Same F H ∧ VwsOk F H xs vs ∧ bltR b vs = some r ∧ After F H r Q)
theorem len_ok (hc : X.calm = true) : BltR X .len := by
  intro pins s σ H xs us Q I rx ⟨F, vs, r, sm, hv, hr, q⟩
  simp only [bltR] at hr
  unfold lenR at hr
  split at hr
  · cases hr
    obtain ⟨v, rfl, h1⟩ := vw1 hv
    obtain ⟨a, ws, rfl, h2, h3⟩ := RepH.lst sm h1
    exact call_len_seq pins s σ H _ us Q I rx ⟨a, ws, rfl, .inl (SqL.of h2), by rw [h3.length]; exact q.same sm (.int _)⟩
  · cases hr
    obtain ⟨v, rfl, h1⟩ := vw1 hv
    obtain ⟨a, ws, rfl, h2, h3⟩ := RepH.tup h1
    exact call_len_seq pins s σ H _ us Q I rx ⟨a, ws, rfl, .inr (SqT.of (sm _ _ h2)), by rw [h3.length]; exact q.same sm (.int _)⟩
  · split at hr
    · rename_i hl
      cases hr
      obtain ⟨v, rfl, h1⟩ := vw1 hv
      obtain ⟨rfl, _⟩ := RepH.str h1
      exact call_len_str pins s σ H _ us Q I rx ⟨_, rfl, by rw [← lim]; exact hl, q.same sm (.int _)⟩
    · cases hr
  · cases hr
    obtain ⟨v, rfl, a, rfl, _, h1⟩ := vw1 hv
    rename_i t _ _
    cases t with
    | false =>
      obtain ⟨ks, h2, h3⟩ := h1
      obtain ⟨u, rfl, ru⟩ := vals1 rx
      cases ru
      refine d_len I (.inl h2) fun t s' I' => ⟨.int ks.length, H, I', ⟨t, rfl⟩, ?_⟩
      rw [paired_len h3]
      exact q.same sm (.int _)
    | true =>
      obtain ⟨ks, h2, h3⟩ := h1
      exact call_len_dT pins s σ H _ us Q I rx ⟨a, ks, rfl, h2, by rw [paired_len h3]; exact q.same sm (.int _)⟩
  · cases hr
theorem abs_ok : BltR X .abs := by
  intro pins s σ H xs us Q I rx ⟨F, vs, r, sm, hv, hr, q⟩
  simp only [bltR] at hr
  unfold absR at hr
  split at hr
  · cases hr
    obtain ⟨v, rfl, h1⟩ := vw1 hv
    cases RepH.int h1
    exact call_abs pins s σ H _ us Q I rx ⟨_, rfl, q.same sm (.int _)⟩
  · cases hr
theorem int_ok : BltR X .int := by
  intro pins s σ H xs us Q I rx ⟨F, vs, r, sm, hv, hr, q⟩
  simp only [bltR] at hr
  unfold intR at hr
  split at hr
  · cases hr
    obtain ⟨v, rfl, h1⟩ := vw1 hv
    cases RepH.int h1
    exact call_int1 pins s σ H _ us Q I rx (.inl ⟨_, rfl, q.same sm (.int _)⟩)
  · cases hr
    obtain ⟨v, rfl, h1⟩ := vw1 hv
    cases RepH.bl h1
    exact call_int1 pins s σ H _ us Q I rx (.inr ⟨_, rfl, q.same sm (.int _)⟩)
  · cases hr
theorem lst_ok (hc : X.calm = true) : BltR X .lst := by
  intro pins s σ H xs us Q I rx ⟨F, vs, r, sm, hv, hr, q⟩
  simp only [bltR] at hr
  unfold lstR at hr
  split at hr
  · cases hr
    obtain ⟨v, rfl, h1⟩ := vw1 hv
    obtain ⟨a, ws, rfl, h2, h3⟩ := RepH.lst sm h1
    exact call_list_of pins s σ H _ us Q I rx ⟨a, ws, rfl, .inl (SqL.of h2), q.fl sm h3⟩
  · cases hr
    obtain ⟨v, rfl, h1⟩ := vw1 hv
    obtain ⟨a, ws, rfl, h2, h3⟩ := RepH.tup h1
    exact call_list_of pins s σ H _ us Q I rx ⟨a, ws, rfl, .inr (SqT.of (sm _ _ h2)), q.fl sm h3⟩
  · cases hr
    obtain ⟨v, rfl, a, rfl, _, h1⟩ := vw1 hv
    exact list_dic hc sm h1 q pins s σ us I rx
  · cases hr
theorem tupl_ok : BltR X .tupl := by
  intro pins s σ H xs us Q I rx ⟨F, vs, r, sm, hv, hr, q⟩
  simp only [bltR] at hr
  unfold tuplR at hr
  split at hr
  · cases hr
    obtain ⟨v, rfl, h1⟩ := vw1 hv
    obtain ⟨a, ws, rfl, h2, h3⟩ := RepH.lst sm h1
    exact call_tuple_of pins s σ H _ us Q I rx ⟨a, ws, rfl, .inl ⟨SqL.of h2, q.tup sm h3⟩⟩
  · cases hr
    obtain ⟨v, rfl, h1⟩ := vw1 hv
    obtain ⟨a, ws, rfl, h2, h3⟩ := RepH.tup h1
    exact call_tuple_of pins s σ H _ us Q I rx ⟨a, ws, rfl, .inr ⟨SqT.of (sm _ _ h2), q.same sm (.tup h2 h3)⟩⟩
  · cases hr
theorem sum_ok (hc : X.calm = true) : BltR X .sum := by
  intro pins s σ H xs us Q I rx ⟨F, vs, r, sm, hv, hr, q⟩
  simp only [bltR] at hr
  unfold sumR at hr
  split at hr
  · obtain ⟨ns, hn, rfl⟩ := Option.map_eq_some_iff.mp hr
    obtain ⟨v, rfl, h1⟩ := vw1 hv
    obtain ⟨a, ws, rfl, h2, h3⟩ := RepH.lst sm h1
    have e := h3.of_ints hn
    subst e
    exact cr_sum hc pins s σ H _ us Q I rx ⟨a, ns, rfl, SqL.of h2, q.same sm (.int _)⟩
  · obtain ⟨ns, hn, rfl⟩ := Option.map_eq_some_iff.mp hr
    obtain ⟨v, rfl, h1⟩ := vw1 hv
    obtain ⟨a, ws, rfl, h2, h3⟩ := RepH.tup h1
    have e := h3.of_ints hn
    subst e
    obtain ⟨its, rv, ht, hz⟩ := I.tuple (SqT.of (sm _ _ h2))
    rw [Vals.ref1 rx]
    have hi := rv.ints
    obtain ⟨ys, ey⟩ := hi.allInts.items
    have hm : numsOf (intItems ys).toList = ns := by rw [← ey]; exact hi.numsOf
    rw [nums_intItems] at hm
    rw [ey] at ht
    refine PySem.W.ktm_sumG (I.ok.hd hc) ⟨_, ht.choose_spec.1, ht.choose_spec.2.1, ht.choose_spec.2.2⟩ fun h' tk t' hk => ?_
    rw [preSum_eq, List.take_of_length_le (by simp), hm]
    exact ⟨.int _, H, I.kept hk, ⟨_, rfl⟩, q.same sm (.int _)⟩
  · cases hr
theorem min_ok (hc : X.calm = true) : BltR X .min := by
  intro pins s σ H xs us Q I rx ⟨F, vs, r, sm, hv, hr, q⟩
  simp only [bltR] at hr
  unfold minR at hr
  split at hr
  · split at hr
    · rename_i n ns hn
      cases hr
      obtain ⟨v, rfl, h1⟩ := vw1 hv
      obtain ⟨a, ws, rfl, h2, h3⟩ := RepH.lst sm h1
      have e := h3.of_ints hn
      subst e
      refine cr_min hc pins s σ H _ us Q I rx ⟨a, n :: ns, rfl, SqL.of h2, by simp, fun m m1 m2 => ?_⟩
      obtain ⟨k1, k2⟩ := minI_ok ns n
      have e : m = minI n ns := Int.le_antisymm (m2 _ k1) (k2 _ m1)
      rw [e]
      exact q.same sm (.int _)
    · cases hr
  · cases hr
    obtain ⟨v, v', rfl, h1, h2⟩ := vw2 hv
    cases RepH.int h1; cases RepH.int h2
    exact call_min2 hc pins s σ H _ us Q I rx ⟨_, _, rfl, q.same sm (.int _)⟩
  · cases hr
theorem max_ok (hc : X.calm = true) : BltR X .max := by
  intro pins s σ H xs us Q I rx ⟨F, vs, r, sm, hv, hr, q⟩
  simp only [bltR] at hr
  unfold maxR at hr
  split at hr
  · split at hr
    · rename_i n ns hn
      cases hr
      obtain ⟨v, rfl, h1⟩ := vw1 hv
      obtain ⟨a, ws, rfl, h2, h3⟩ := RepH.lst sm h1
      have e := h3.of_ints hn
      subst e
      refine cr_max hc pins s σ H _ us Q I rx ⟨a, n :: ns, rfl, SqL.of h2, by simp, fun m m1 m2 => ?_⟩
      obtain ⟨k1, k2⟩ := maxI_ok ns n
      have e : m = maxI n ns := Int.le_antisymm (k2 _ m1) (m2 _ k1)
      rw [e]
      exact q.same sm (.int _)
    · cases hr
  · cases hr
    obtain ⟨v, v', rfl, h1, h2⟩ := vw2 hv
    cases RepH.int h1; cases RepH.int h2
    exact call_max2 hc pins s σ H _ us Q I rx ⟨_, _, rfl, q.same sm (.int _)⟩
  · cases hr
theorem any_ok (hc : X.calm = true) : BltR X .any := by
  intro pins s σ H xs us Q I rx ⟨F, vs, r, sm, hv, hr, q⟩
  simp only [bltR] at hr
  unfold anyR at hr
  split at hr
  · obtain ⟨ns, hn, rfl⟩ := Option.map_eq_some_iff.mp hr
    obtain ⟨v, rfl, h1⟩ := vw1 hv
    obtain ⟨a, ws, rfl, h2, h3⟩ := RepH.lst sm h1
    have e := h3.of_bools hn
    subst e
    exact cr_any hc pins s σ H _ us Q I rx ⟨a, ns, rfl, SqL.of h2, q.same sm (.bl _)⟩
  · cases hr
theorem all_ok (hc : X.calm = true) : BltR X .all := by
  intro pins s σ H xs us Q I rx ⟨F, vs, r, sm, hv, hr, q⟩
  simp only [bltR] at hr
  unfold allR at hr
  split at hr
  · obtain ⟨ns, hn, rfl⟩ := Option.map_eq_some_iff.mp hr
    obtain ⟨v, rfl, h1⟩ := vw1 hv
    obtain ⟨a, ws, rfl, h2, h3⟩ := RepH.lst sm h1
    have e := h3.of_bools hn
    subst e
    exact cr_all hc pins s σ H _ us Q I rx ⟨a, ns, rfl, SqL.of h2, q.same sm (.bl _)⟩
  · cases hr
theorem strOk_of {x : Str} (h : ∀ c ∈ x.cps.toList, c < 1114112) : PyData.strOk x = true := by
  unfold PyData.strOk
  rw [← Array.all_toList, List.all_eq_true]
  intro c hc
  exact decide_eq_true (h c hc)
theorem strOk_ofString (z : String) : PyData.strOk (Str.ofString z) = true := strOk_of fun c hc => by
  rw [show (Str.ofString z).cps.toList = z.toList.map Char.toNat from TL.tl_ofString z] at hc
  obtain ⟨ch, _, e⟩ := List.mem_map.mp hc
  subst e
  have := ch.valid
  show ch.val.toNat < 1114112
  rcases this with h | ⟨_, h⟩
  · exact Nat.lt_trans h (by decide)
  · exact h
theorem rep_ok (hg : X.A.guards = some []) (hu : X.A.units + 200 < cLine) : BltR X .rep := by
  intro pins s σ H xs us Q I rx ⟨F, vs, r, sm, hv, hr, q⟩
  simp only [bltR] at hr
  unfold repR at hr
  split at hr
  · rename_i x
    split at hr
    · rename_i ok
      cases hr
      unfold repOk at ok
      simp only [Bool.and_eq_true, decide_eq_true_eq, Bool.not_eq_true'] at ok
      obtain ⟨⟨⟨⟨o1, o2⟩, o3⟩, o4⟩, o5⟩ := ok
      obtain ⟨v, rfl, h1⟩ := vw1 hv
      have h1 : RepH F H v x := h1
      have hz : x.shown.length ≤ sizeLine := by rw [← lim]; exact o4
      obtain ⟨u, rfl, ru⟩ : ∃ u, us = [u] ∧ RelV v u := by
        cases rx with
        | cons a b => cases b; exact ⟨_, rfl, a⟩
      obtain ⟨as, rd⟩ := Dp.reads I x v u (h1.dp sm) ru
      have fin : ∀ (h' : Heap) (tu tk : Tok), (∀ b o, s.heap.get? b = some o → h'.get? b = some o) → EP X pins σ Q (.str x.shown tu) { s with heap := h', toks := tk } := fun h' tu tk k => ⟨.str x.shown, H, I.kept (t' := tk) k, ⟨tu, rfl⟩, q.same sm (.str _ o5)⟩
      have far : ∀ a, u = .ref a → wpAny (model X.prog X.w) X.A (call (bVal .rep) [u]) (EP X pins σ Q) X.xe s := fun a e => by
        subst e
        exact repr_of_reads' rd o1 (PyData.noDict_hsm o2) hg (by omega) (fun _ _ e => e) (fun h' tu tk k => fin h' tu tk k) hz
      cases rd with
      | none => exact PySem.P.repr_of_none (fin s.heap _ _ fun _ _ e => e)
      | bool b => exact PySem.P.repr_of_bool (by cases b <;> exact fin s.heap _ _ fun _ _ e => e)
      | int i t =>
        have hl : i.natAbs.log2 < 1920 := by simpa [PyData.showable] using o1
        exact PySem.P.repr_of_int hl (fin s.heap _ _ fun _ _ e => e)
      | str y t => exact PySem.P.repr_of_str (fin s.heap _ _ fun _ _ e => e) hz
      | list _ _ _ _ => exact far _ rfl
      | tuple _ _ _ _ => exact far _ rfl
      | dict _ _ _ _ _ => exact far _ rfl
    · cases hr
  · cases hr
theorem str_ok : BltR X .str := by
  intro pins s σ H xs us Q I rx ⟨F, vs, r, sm, hv, hr, q⟩
  simp only [bltR] at hr
  unfold strR at hr
  split at hr
  · split at hr
    · rename_i hl
      cases hr
      obtain ⟨v, rfl, h1⟩ := vw1 hv
      cases RepH.int h1
      exact call_str_int pins s σ H _ us Q I rx ⟨_, rfl, hl, q.same sm (.str _ (strOk_ofString _))⟩
    · cases hr
  · cases hr
end
end TW
end

section
/-! Values in hand while an expression is reckoned. -/
namespace TW
open PySem PySem.Spec PyProof.Rows L2

inductive RvS : Option Rv → Option Rv → Prop
  | refl (r : Option Rv) : RvS r r
  | ol (xs ys : List D) (b : Bool) : RvS (some (.ol xs b)) (some (.ol ys b))
  | od (t : Bool) (xs ys : List (D × D)) (b : Bool) : RvS (some (.od t xs b)) (some (.od t ys b))
  | fz (xs : List D) (y : D) : RvS (some (.ol xs false)) (some (.d y))
theorem RvS.trans {a b c : Option Rv} (h : RvS a b) (g : RvS b c) : RvS a c := by
  cases h with
  | refl => exact g
  | ol xs ys b =>
    cases g with
    | refl => exact .ol ..
    | ol => exact .ol ..
    | fz => exact .fz ..
  | od t xs ys b =>
    cases g with
    | refl => exact .od ..
    | od => exact .od ..
  | fz xs y =>
    cases g with
    | refl => exact .fz ..
def Shr (z z1 : En) : Prop := z.length = z1.length ∧ ∀ (i : Nat) r, z[i]? = some r → ∃ r1, z1[i]? = some r1 ∧ RvS r r1
theorem Shr.refl (z : En) : Shr z z := ⟨rfl, fun i r e => ⟨r, e, .refl r⟩⟩
theorem Shr.trans {z z1 z2 : En} (a : Shr z z1) (b : Shr z1 z2) : Shr z z2 := ⟨a.1.trans b.1, fun i r e => by
  obtain ⟨r1, e1, h1⟩ := a.2 i r e
  obtain ⟨r2, e2, h2⟩ := b.2 i r1 e1
  exact ⟨r2, e2, h1.trans h2⟩⟩
theorem Shr.back {z z1 : En} (a : Shr z z1) {i : Nat} {r1 : Option Rv} (e : z1[i]? = some r1) : ∃ r, z[i]? = some r ∧ RvS r r1 := by
  obtain ⟨hi, _⟩ := List.getElem?_eq_some_iff.mp e
  obtain ⟨x, hz⟩ : ∃ x, z[i]? = some x := ⟨z[i]'(by rw [a.1]; exact hi), List.getElem?_eq_getElem (by rw [a.1]; exact hi)⟩
  obtain ⟨r, e2, h⟩ := a.2 i _ hz
  rw [e] at e2
  cases e2
  exact ⟨_, hz, h⟩
theorem Shr.own {z z1 : En} (a : Shr z z1) {i : Nat} {r1 : Rv} (e : z1[i]? = some (some r1)) (o : own r1 = true) : ∃ r, z[i]? = some (some r) ∧ own r = true := by
  obtain ⟨r, e2, h⟩ := a.back e
  cases h with
  | refl => exact ⟨_, e2, o⟩
  | ol => exact ⟨_, e2, rfl⟩
  | od => exact ⟨_, e2, rfl⟩
  | fz => cases o
theorem Shr.Own {z z1 : En} {σ : List (Option V)} (s : Shr z z1) {a : Addr} (o : Own z1 σ a) : Own z σ a := by
  obtain ⟨i, r, h1, h2, h3⟩ := o
  obtain ⟨r', e, h⟩ := s.own h1 h2
  exact ⟨i, r', e, h, h3⟩
theorem Shr.set {z : En} {i : Nat} {r r1 : Option Rv} (e : z[i]? = some r) (h : RvS r r1) : Shr z (z.set i r1) := by
  refine ⟨by simp, fun j r' e' => ?_⟩
  by_cases hj : i = j
  · subst hj
    rw [e] at e'
    cases e'
    obtain ⟨hi, _⟩ := List.getElem?_eq_some_iff.mp e
    exact ⟨r1, by simp [hi], h⟩
  · exact ⟨r', by rw [List.getElem?_set_ne hj]; exact e', .refl _⟩

theorem Rep.at {F : Hp} {a : Addr} {d : D} (h : Rep F (.ref a) d) : ∃ o, F a = some o := by
  cases h with
  | lst k _ => exact ⟨_, k⟩
  | tup k _ => exact ⟨_, k⟩
/-- from the state at (z, F, H) one has come to (z1, F1, H1) -/
structure Mid (K : PySem.W.Frag) (z : En) (σ : List (Option V)) (F H : Hp) (z1 : En) (F1 H1 : Hp) : Prop where
  sim : Sim K z1 σ F1 H1
  step : Step (Own z σ) F H F1 H1
  shr : Shr z z1
section
variable {K : PySem.W.Frag} {z z1 z2 : En} {σ : List (Option V)} {F H F1 H1 F2 H2 : Hp}
theorem Mid.refl (S : Sim K z σ F H) : Mid K z σ F H z F H := ⟨S, Step.refl S.sub, Shr.refl z⟩
theorem Mid.trans (a : Mid K z σ F H z1 F1 H1) (b : Mid K z1 σ F1 H1 z2 F2 H2) : Mid K z σ F H z2 F2 H2 :=
  ⟨b.sim, a.step.trans b.step fun x o => .inl (a.shr.Own o), a.shr.trans b.shr⟩
theorem Mid.there (S : Sim K z σ F H) (m : Mid K z σ F H z1 F1 H1) {a : Addr} {o : HO} (e : H a = some o) : ∃ o', H1 a = some o' := by
  by_cases h : Own z σ a
  · obtain ⟨i, r, h1, h2, h3⟩ := h
    obtain ⟨r1, e1, k⟩ := m.shr.2 i _ h1
    have key : ∀ r', r1 = some r' → ∃ o', H1 a = some o' := fun r' er => by
      subst er
      obtain ⟨v, hv, ok⟩ := m.sim.slot i r' e1
      rw [h3] at hv
      cases hv
      cases ho : own r' with
      | true => exact (own_at ok ho).2.1
      | false =>
        cases r' with
        | d x =>
          obtain ⟨o', q⟩ := Rep.at ok
          exact ⟨o', m.sim.sub _ _ q⟩
        | sc ns =>
          cases k with
          | refl => cases h2
        | ol => cases ho
        | od => cases ho
    cases k with
    | refl => exact key _ rfl
    | ol => exact key _ rfl
    | od => exact key _ rfl
    | fz => exact key _ rfl
  · exact ⟨o, m.step.keep a o e h⟩
theorem Mid.was (S : Sim K z σ F H) (m : Mid K z σ F H z1 F1 H1) {a : Addr} (e : H1 a = none) : H a = none := by
  cases h : H a with
  | none => rfl
  | some o =>
    obtain ⟨o', q⟩ := m.there S h
    rw [e] at q; cases q
/-- a new object, frozen -/
theorem Mid.step0 (m : Mid K z σ F H z1 F1 H1) (t : Step N0 F1 H1 F2 H2) : Mid K z σ F H z1 F2 H2 :=
  ⟨m.sim.step0 t, m.step.trans t fun _ x => x.elim, m.shr⟩
end

def fresh : Res → Bool
  | .fl _ => true
  | .fd _ _ => true
  | _ => false
def isSc : Rv → Bool
  | .sc _ => true
  | _ => false
def ResOk (K : PySem.W.Frag) (z : En) (σ : List (Option V)) (F H : Hp) : Res → V → Prop
  | .d x, v => Rep F v x
  | .al i, v => σ[i]? = some (some v) ∧ ∃ r, z[i]? = some (some r) ∧ isSc r = false
  | .fl xs, v => ∃ a vs, v = .ref a ∧ F a = none ∧ H a = some (.lst vs) ∧ RepL F vs xs
  | .fd t kvs, v => ∃ a, v = .ref a ∧ F a = none ∧ DicOk F H t a kvs
  | .sc ns, v => ∃ a, v = .ref a ∧ ScOk K F a ns
section
variable {K : PySem.W.Frag} {z z1 z2 : En} {σ : List (Option V)} {F H F1 H1 F2 H2 F0 H0 : Hp} {r : Res} {v : V}
/-- what is in hand stays -/
theorem ResOk.next (m : Mid K z σ F H z1 F1 H1) (h : ResOk K z σ F H r v) (fr : fresh r = true → ∀ a, v = .ref a → ¬ Own z σ a) : ResOk K z1 σ F1 H1 r v := by
  have stays : ∀ a o, F a = none → H a = some o → ¬ Tup H a → ¬ Own z σ a → F1 a = none ∧ H1 a = H a := fun a o f e nt no => by
    refine ⟨?_, by rw [e]; exact m.step.keep a o e no⟩
    cases q : F1 a with
    | none => rfl
    | some x =>
      rcases m.step.new a (by rw [q]; simp) with w | w | w | w
      · exact absurd f w
      · rw [e] at w; cases w
      · exact absurd w no
      · exact absurd w nt
  cases r with
  | d x => exact Rep.mono m.step.same h
  | al i =>
    obtain ⟨h1, r, h2, h3⟩ := h
    obtain ⟨r1, e1, k⟩ := m.shr.2 i _ h2
    refine ⟨h1, ?_⟩
    cases k with
    | refl => exact ⟨_, e1, h3⟩
    | ol => exact ⟨_, e1, rfl⟩
    | od => exact ⟨_, e1, rfl⟩
    | fz => exact ⟨_, e1, rfl⟩
  | fl xs =>
    obtain ⟨a, vs, rfl, h1, h2, h3⟩ := h
    obtain ⟨k1, k2⟩ := stays a _ h1 h2 (fun ⟨ys, e⟩ => by rw [h2] at e; cases e) (fr rfl a rfl)
    exact ⟨a, vs, rfl, k1, k2.trans h2, h3.mono m.step.same⟩
  | fd t kvs =>
    obtain ⟨a, rfl, h1, h2⟩ := h
    obtain ⟨o, h3, h4⟩ := h2.at
    obtain ⟨k1, k2⟩ := stays a o h1 h3 h4 (fr rfl a rfl)
    exact ⟨a, rfl, k1, h2.mono m.step.same k2⟩
  | sc ns =>
    obtain ⟨a, rfl, h1⟩ := h
    exact ⟨a, rfl, h1.mono m.step.same⟩
theorem view_ok (S : Sim K z σ F H) (h : ResOk K z σ F H r v) {x : D} (e : view z r = some x) : RepH F H v x := by
  cases r with
  | d y => simp [view] at e; subst e; exact .inl h
  | al i =>
    obtain ⟨h1, r, h2, _⟩ := h
    simp only [view, h2] at e
    obtain ⟨w, k1, k2⟩ := S.slot i r h2
    rw [h1] at k1
    cases k1
    cases r with
    | ol xs b =>
      cases e
      obtain ⟨a, vs, rfl, q1, q2, q3⟩ := k2
      exact .inr ⟨a, vs, xs, rfl, rfl, q2, q3⟩
    | d y => cases e; exact .inl k2
    | od => cases e
    | sc => cases e
  | fl xs =>
    cases e
    obtain ⟨a, vs, rfl, h1, h2, h3⟩ := h
    exact .inr ⟨a, vs, xs, rfl, rfl, h2, h3⟩
  | fd => cases e
  | sc => cases e
theorem dview_ok (S : Sim K z σ F H) (h : ResOk K z σ F H r v) {t : Bool} {kvs : List (D × D)} (e : dview z r = some (t, kvs)) : ∃ a, v = .ref a ∧ F a = none ∧ DicOk F H t a kvs := by
  cases r with
  | al i =>
    obtain ⟨h1, r, h2, _⟩ := h
    simp only [dview, h2] at e
    obtain ⟨w, k1, k2⟩ := S.slot i r h2
    rw [h1] at k1
    cases k1
    cases r with
    | od t' ks b =>
      cases e
      exact k2
    | d y => cases e
    | ol => cases e
    | sc => cases e
  | fd t' ks => cases e; exact h
  | d => cases e
  | fl => cases e
  | sc => cases e
theorem vw_ok (S : Sim K z σ F H) (h : ResOk K z σ F H r v) {w : Vw} (e : vw z r = some w) : VwOk F H v w := by
  unfold vw at e
  split at e
  · rename_i x hx
    cases e
    exact view_ok S h hx
  · obtain ⟨p, hp, rfl⟩ := Option.map_eq_some_iff.mp e
    exact dview_ok S h hp
/-- freezing -/
theorem frz_ok (S0 : Sim K z σ F0 H0) (m : Mid K z σ F0 H0 z1 F H) (h : ResOk K z1 σ F H r v) (fr : fresh r = true → ∀ a, v = .ref a → H0 a = none) {x : D} (e : frz z1 r = some (x, z2)) :
    ∃ F1, Mid K z σ F0 H0 z2 F1 H ∧ Rep F1 v x ∧ Same F F1 ∧ Shr z1 z2 ∧ ∀ a, F1 a ≠ none → F a ≠ none ∨ v = .ref a := by
  have S := m.sim
  cases r with
  | d y => cases e; exact ⟨F, m, h, Same.refl _, Shr.refl _, fun a q => .inl q⟩
  | al i =>
    obtain ⟨h1, r, h2, _⟩ := h
    simp only [frz, h2] at e
    obtain ⟨w, k1, k2⟩ := S.slot i r h2
    rw [h1] at k1
    cases k1
    cases r with
    | d y => cases e; exact ⟨F, m, k2, Same.refl _, Shr.refl _, fun a q => .inl q⟩
    | od => cases e
    | sc => cases e
    | ol xs b =>
      cases b with
      | true => cases e
      | false =>
        cases e
        obtain ⟨a, vs, rfl, q1, q2, q3⟩ := k2
        have oa : Own z1 σ a := ⟨i, _, h2, rfl, h1⟩
        have t : Step (Own z1 σ) F H (upd F a (.lst vs)) H := Step.fz S.sub q2 q1 oa
        have hi := (List.getElem?_eq_some_iff.mp h2).1
        have sh : Shr z1 (z1.set i (some (.d (.list xs)))) := Shr.set h2 (.fz _ _)
        have S2 : Sim K (z1.set i (some (.d (.list xs)))) σ (upd F a (.lst vs)) H := by
          refine ⟨by simpa using S.len, fun j r' e' => ?_, fun j l r1 s1 b e1 e2 o1 o2 p1 p2 => ?_, t.sub⟩
          · by_cases hj : i = j
            · subst hj
              simp [hi] at e'
              subst e'
              exact ⟨_, h1, .lst upd_same (q3.mono t.same)⟩
            · rw [List.getElem?_set_ne hj] at e'
              obtain ⟨v', g1, g2⟩ := S.slot j r' e'
              refine ⟨v', g1, g2.keep t.same fun o b eb => ⟨?_, rfl⟩⟩
              subst eb
              have hne : b ≠ a := fun q => hj (S.apart i j _ r' a h2 e' rfl o h1 (by rw [← q]; exact g1))
              rw [upd_ne hne]
              exact (own_at g2 o).1
          · have hj : i ≠ j := fun q => by subst q; simp [hi] at e1; subst e1; cases o1
            have hl : i ≠ l := fun q => by subst q; simp [hi] at e2; subst e2; cases o2
            rw [List.getElem?_set_ne hj] at e1
            rw [List.getElem?_set_ne hl] at e2
            exact S.apart j l r1 s1 b e1 e2 o1 o2 p1 p2
        refine ⟨_, m.trans ⟨S2, t, sh⟩, .lst upd_same (q3.mono t.same), t.same, sh, fun b q => ?_⟩
        by_cases hb : b = a
        · subst hb; exact .inr rfl
        · rw [upd_ne hb] at q; exact .inl q
  | fl xs =>
    cases e
    obtain ⟨a, vs, rfl, q1, q2, q3⟩ := h
    have h0 := fr rfl a rfl
    have sm : Same F (upd F a (.lst vs)) := fun b o e => by rw [upd_ne (ne_of_none e q1)]; exact e
    have sb : Same (upd F a (.lst vs)) H := fun b o e => by
      by_cases hb : b = a
      · subst hb; rw [upd_same] at e; cases e; exact q2
      · rw [upd_ne hb] at e; exact S.sub _ _ e
    have S2 : Sim K z1 σ (upd F a (.lst vs)) H := by
      refine ⟨S.len, fun j r' e' => ?_, S.apart, sb⟩
      obtain ⟨v', g1, g2⟩ := S.slot j r' e'
      refine ⟨v', g1, g2.keep sm fun o b eb => ⟨?_, rfl⟩⟩
      subst eb
      have hne : b ≠ a := fun q => by
        have := (S0.own (m.shr.Own ⟨j, r', e', o, g1⟩)).2.1
        rw [q, h0] at this
        obtain ⟨_, z⟩ := this
        cases z
      rw [upd_ne hne]
      exact (own_at g2 o).1
    refine ⟨_, ⟨S2, ⟨m.step.same.trans sm, sb, m.step.keep, fun b q => ?_⟩, m.shr⟩, .lst upd_same (q3.mono sm), sm, Shr.refl _, fun b q => ?_⟩
    · by_cases hb : b = a
      · subst hb; exact .inr (.inl h0)
      · rw [upd_ne hb] at q; exact m.step.new b q
    · by_cases hb : b = a
      · subst hb; exact .inr rfl
      · rw [upd_ne hb] at q; exact .inl q
  | fd => cases e
  | sc => cases e

/-- several values in hand -/
def RsOk (K : PySem.W.Frag) (z : En) (σ : List (Option V)) (H0 F H : Hp) : List Res → List V → Prop
  | [], [] => True
  | r :: rs, v :: vs => ResOk K z σ F H r v ∧ (fresh r = true → ∀ a, v = .ref a → H0 a = none ∧ ∀ (j : Nat) r', rs[j]? = some r' → fresh r' = true → vs[j]? ≠ some (.ref a)) ∧ RsOk K z σ H0 F H rs vs
  | _, _ => False
theorem RsOk.length : ∀ {rs : List Res} {vs : List V}, RsOk K z σ H0 F H rs vs → rs.length = vs.length
  | [], [], _ => rfl
  | r :: rs, v :: vs, h => by simp [RsOk.length h.2.2]
  | [], _ :: _, h => h.elim
  | _ :: _, [], h => h.elim
theorem RsOk.fr : ∀ {rs : List Res} {vs : List V} {j : Nat} {r : Res} {a : Addr}, RsOk K z σ H0 F H rs vs → rs[j]? = some r → fresh r = true → vs[j]? = some (.ref a) → H0 a = none
  | r :: rs, v :: vs, 0, _, a, h, e1, e2, e3 => by
    simp at e1 e3
    subst e1; subst e3
    exact (h.2.1 e2 a rfl).1
  | r :: rs, v :: vs, j + 1, _, a, h, e1, e2, e3 => RsOk.fr (j := j) h.2.2 (by simpa using e1) e2 (by simpa using e3)
  | [], [], _, _, _, h, e1, _, _ => by simp at e1
  | [], _ :: _, _, _, _, h, _, _, _ => h.elim
  | _ :: _, [], _, _, _, h, _, _, _ => h.elim
/-- the values in hand stay while frozen things are added elsewhere -/
theorem RsOk.keep (m : Shr z z1) (sm : Same F F1) (kH : ∀ a, H1 a = H a) : ∀ {rs : List Res} {vs : List V}, RsOk K z σ H0 F H rs vs → (∀ (j : Nat) r a, rs[j]? = some r → fresh r = true → vs[j]? = some (.ref a) → F a = none → F1 a = none) → RsOk K z1 σ H0 F1 H1 rs vs
  | [], [], _, _ => True.intro
  | r :: rs, v :: vs, h, k => by
    refine ⟨?_, h.2.1, RsOk.keep m sm kH h.2.2 fun j r a e1 e2 e3 => k (j + 1) r a (by simpa using e1) e2 (by simpa using e3)⟩
    have h1 := h.1
    cases r with
    | d x => exact Rep.mono sm h1
    | al i =>
      obtain ⟨q1, r, q2, q3⟩ := h1
      obtain ⟨r1, e1, kk⟩ := m.2 i _ q2
      refine ⟨q1, ?_⟩
      cases kk with
      | refl => exact ⟨_, e1, q3⟩
      | ol => exact ⟨_, e1, rfl⟩
      | od => exact ⟨_, e1, rfl⟩
      | fz => exact ⟨_, e1, rfl⟩
    | fl xs =>
      obtain ⟨a, vs, rfl, q1, q2, q3⟩ := h1
      exact ⟨a, vs, rfl, k 0 _ a rfl rfl rfl q1, (kH a).trans q2, q3.mono sm⟩
    | fd t kvs =>
      obtain ⟨a, rfl, q1, q2⟩ := h1
      exact ⟨a, rfl, k 0 _ a rfl rfl rfl q1, q2.mono sm (kH a)⟩
    | sc ns =>
      obtain ⟨a, rfl, q1⟩ := h1
      exact ⟨a, rfl, q1.mono sm⟩
  | [], _ :: _, h, _ => h.elim
  | _ :: _, [], h, _ => h.elim
theorem frzs_ok (S0 : Sim K z σ F0 H0) : ∀ {rs : List Res} {vs : List V} {z1 z2 : En} {F H : Hp} {xs : List D}, Mid K z σ F0 H0 z1 F H → RsOk K z1 σ H0 F H rs vs → frzs z1 rs = some (xs, z2) →
    ∃ F1, Mid K z σ F0 H0 z2 F1 H ∧ RepL F1 vs xs ∧ Same F F1 ∧ Shr z1 z2
  | [], [], z1, z2, F, H, xs, m, _, e => by
    cases e
    exact ⟨F, m, .nil, Same.refl _, Shr.refl _⟩
  | r :: rs, v :: vs, z1, z2, F, H, xs, m, h, e => by
    simp only [frzs] at e
    split at e
    · rename_i x z1' e1
      split at e
      · rename_i ys z2' e2
        cases e
        obtain ⟨F1, m1, h1, sm1, sh1, nw⟩ := frz_ok S0 m h.1 (fun f a ea => (h.2.1 f a ea).1) e1
        have h2 : RsOk K z1' σ H0 F1 H rs vs := h.2.2.keep sh1 sm1 (fun _ => rfl) fun j r' a q1 q2 q3 q4 => by
          cases q : F1 a with
          | none => rfl
          | some o =>
            rcases nw a (by rw [q]; simp) with w | w
            · exact absurd q4 w
            · subst w
              -- v itself is a fresh one or an own one; a is neither
              cases hr : fresh r with
              | true => exact absurd q3 ((h.2.1 hr a rfl).2 j r' q1 q2)
              | false =>
                have h0 : H0 a = none := h.2.2.fr q1 q2 q3
                have hh := h.1
                cases r with
                | d y =>
                  obtain ⟨o', q5⟩ := Rep.at hh
                  rw [q4] at q5; cases q5
                | al i =>
                  obtain ⟨g1, rr, g2, g3⟩ := hh
                  cases ho : own rr with
                  | true =>
                    have := (S0.own (m.shr.Own ⟨i, rr, g2, ho, g1⟩)).2.1
                    rw [h0] at this
                    obtain ⟨_, z⟩ := this
                    cases z
                  | false =>
                    obtain ⟨w, k1, k2⟩ := m.sim.slot i rr g2
                    rw [g1] at k1
                    cases k1
                    cases rr with
                    | d y =>
                      obtain ⟨o', q5⟩ := Rep.at k2
                      rw [q4] at q5; cases q5
                    | sc => cases g3
                    | ol => cases ho
                    | od => cases ho
                | sc => simp [frz] at e1
                | fl => cases hr
                | fd => cases hr
        obtain ⟨F2, m2, h3, sm2, sh2⟩ := frzs_ok S0 m1 h2 e2
        exact ⟨F2, m2, .cons (h1.mono sm2) h3, sm1.trans sm2, sh1.trans sh2⟩
      · cases e
    · cases e
  | [], _ :: _, _, _, _, _, _, _, h, _ => h.elim
  | _ :: _, [], _, _, _, _, _, _, h, _ => h.elim
theorem vws_ok (S : Sim K z σ F H) : ∀ {rs : List Res} {vs : List V} {ws : List Vw}, RsOk K z σ H0 F H rs vs → vws z rs = some ws → VwsOk F H vs ws
  | [], [], ws, _, e => by cases e; exact .nil
  | r :: rs, v :: vs, ws, h, e => by
    simp only [vws] at e
    split at e
    · rename_i w hw
      obtain ⟨ws', h1, rfl⟩ := Option.map_eq_some_iff.mp e
      exact .cons (vw_ok S h.1 hw) (vws_ok S h.2.2 h1)
    · cases e
  | [], _ :: _, _, h, _ => h.elim
  | _ :: _, [], _, h, _ => h.elim
end
end TW
end

section
/-! Expressions, construct by construct. -/
namespace TW
open PySem PySem.Spec PyProof.Rows L2

abbrev Sl := List (Option V)
/-- f tells what a reading of an expression comes to -/
def SoundE (K : PySem.W.Frag) (f : En → Option (Res × En)) (te : TE) : Prop :=
  ∀ (z : En) (σ : Sl) (F H : Hp) (Q : VK) (r : Res) (z1 : En), Sim K z σ F H → f z = some (r, z1) →
    (∀ v F1 H1, Mid K z σ F H z1 F1 H1 → ResOk K z1 σ F1 H1 r v → (fresh r = true → ∀ a, v = .ref a → H a = none) → Q v H1) → te σ H Q
def SoundT (K : PySem.W.Frag) (f : En → Option (Res × En)) (tt : TT) : Prop :=
  ∀ (z : En) (σ : Sl) (F H : Hp) (Q : Bool → Hp → Prop) (b : Bool) (z1 : En), Sim K z σ F H → toB (f z) = some (b, z1) →
    (∀ F1 H1, Mid K z σ F H z1 F1 H1 → Q b H1) → tt σ H Q
def SoundA (K : PySem.W.Frag) (f : En → Option (List Res × En)) (ta : TA) : Prop :=
  ∀ (z : En) (σ : Sl) (F H : Hp) (Q : List V → Hp → Prop) (rs : List Res) (z1 : En), Sim K z σ F H → f z = some (rs, z1) →
    (∀ vs F1 H1, Mid K z σ F H z1 F1 H1 → RsOk K z1 σ H F1 H1 rs vs → Q vs H1) → ta σ H Q
def SoundO (K : PySem.W.Frag) (f : En → Option (Option Int × En)) (to : TO) : Prop :=
  ∀ (z : En) (σ : Sl) (F H : Hp) (Q : Option Int → Hp → Prop) (o : Option Int) (z1 : En), Sim K z σ F H → f z = some (o, z1) →
    (∀ F1 H1, Mid K z σ F H z1 F1 H1 → Q o H1) → to σ H Q
theorem toB_some {x : Option (Res × En)} {b : Bool} {z : En} (h : toB x = some (b, z)) : x = some (.d (.bool b), z) := by
  unfold toB at h
  split at h
  · cases h; rfl
  · cases h
theorem toI_some {x : Option (Res × En)} {b : Int} {z : En} (h : toI x = some (b, z)) : x = some (.d (.int b), z) := by
  unfold toI at h
  split at h
  · cases h; rfl
  · cases h
section
variable {K : PySem.W.Frag} {z z1 z2 : En} {σ : Sl} {F H F1 H1 F2 H2 : Hp}
theorem NewRes.ok {r : Res} {v : V} (h : NewRes F2 H1 H2 r v) : ResOk K z σ F2 H2 r v := by
  cases r with
  | d x => exact h
  | fl xs =>
    obtain ⟨a, vs, e, _, h1, h2, h3⟩ := h
    exact ⟨a, vs, e, h1, h2, h3⟩
  | _ => exact h.elim
theorem NewRes.fr {r : Res} {v : V} (h : NewRes F2 H1 H2 r v) (f : fresh r = true) : ∀ a, v = .ref a → H1 a = none := fun a e => by
  cases r with
  | fl xs =>
    obtain ⟨b, vs, e1, h1, _⟩ := h
    rw [e1] at e
    cases e
    exact h1
  | d => cases f
  | _ => exact h.elim
/-- behind an operation -/
theorem after_of {r : Res} {Q : VK} (S : Sim K z σ F H) (m : Mid K z σ F H z1 F1 H1)
    (q : ∀ v F' H', Mid K z σ F H z1 F' H' → ResOk K z1 σ F' H' r v → (fresh r = true → ∀ a, v = .ref a → H a = none) → Q v H') : After F1 H1 r Q :=
  fun v F' H' t n => q v F' H' (m.step0 t) n.ok fun f a e => m.was S (n.fr f a e)
theorem fr_own {r : Res} {v : V} (S : Sim K z σ F H) (m : Mid K z σ F H z1 F1 H1) (fr : fresh r = true → ∀ a, v = .ref a → H a = none) : fresh r = true → ∀ a, v = .ref a → ¬ Own z1 σ a := fun f a e o => by
  have := (S.own (m.shr.Own o)).2.1
  rw [fr f a e] at this
  obtain ⟨_, q⟩ := this
  cases q
end
section
variable {X : Cx}
/-! constants and names -/
theorem s_var {i : Nat} : SoundE X.K (varF i) (tVar i) := by
  intro z σ F H Q r z1 S e q
  unfold varF at e
  split at e
  · rename_i x hx
    cases e
    obtain ⟨v, h1, h2⟩ := S.slot i _ hx
    exact ⟨v, h1, q v F H (Mid.refl S) h2 (fun f => by cases f)⟩
  · rename_i xs b hx
    cases e
    obtain ⟨v, h1, h2⟩ := S.slot i _ hx
    exact ⟨v, h1, q v F H (Mid.refl S) ⟨h1, _, hx, rfl⟩ (fun f => by cases f)⟩
  · rename_i t xs b hx
    cases e
    obtain ⟨v, h1, h2⟩ := S.slot i _ hx
    exact ⟨v, h1, q v F H (Mid.refl S) ⟨h1, _, hx, rfl⟩ (fun f => by cases f)⟩
  · rename_i ns hx
    cases e
    obtain ⟨v, h1, h2⟩ := S.slot i _ hx
    exact ⟨v, h1, q v F H (Mid.refl S) h2 (fun f => by cases f)⟩
  · cases e
theorem s_con {d : D} {v : V} (h : ∀ F, Rep F v d) : SoundE X.K (litF d) (tC v) := by
  intro z σ F H Q r z1 S e q
  cases e
  exact q v F H (Mid.refl S) (h F) (fun f => by cases f)
/-- list(script) -/
theorem s_scl {i : Nat} : SoundE X.K (sclF i) (tCB (fun xs H Q => ∃ p ys, xs = [V.ref p] ∧ (SqL X.K H p ys ∨ SqT X.K H p ys) ∧ ∀ l, H l = none → Q (.ref l) (upd H l (.lst ys))) (tCons (tVar i) tNil)) := by
  intro z σ F H Q r z1 S e q
  unfold sclF at e
  split at e
  · rename_i ns hx
    cases e
    obtain ⟨v, h1, a, rfl, h2⟩ := S.slot i _ hx
    refine ⟨_, h1, a, ns.map V.int, rfl, .inl (h2 H S.sub), fun l nl => ?_⟩
    exact q (.ref l) F _ ((Mid.refl S).step0 (Step.mk' S.sub nl)) ⟨l, _, rfl, S.sub.free nl, upd_same, RepL.ints⟩ fun _ a e => by cases e; exact nl
  · cases e
/-! operations -/
theorem s_bin {op : Operator} {a b : Expr} {ta tb : TE} {fa fb : Fe} {pos : Pos} (ha : PE X a ta) (sa : SoundE X.K fa ta) (hb : PE X b tb) (sb : SoundE X.K fb tb) :
    ∃ te, PE X (.BinOp a op b pos) te ∧ SoundE X.K (binF op fa fb) te := by
  refine ⟨_, pe_op (bin_ok op) ha hb, ?_⟩
  intro z σ F H Q r z3 S e q
  unfold binF at e
  split at e
  · rename_i r1 z1 e1
    split at e
    · rename_i r2 z2 e2
      split at e
      · rename_i x y ex ey
        obtain ⟨r', hr, h2⟩ := Option.map_eq_some_iff.mp e
        cases h2
        refine sa z σ F H _ _ _ S e1 fun v F1 H1 m1 ok1 fr1 => ?_
        refine sb z1 σ F1 H1 _ _ _ m1.sim e2 fun w F2 H2 m2 ok2 fr2 => ?_
        have ok1' := ok1.next m2 (fr_own S m1 fr1)
        exact ⟨F2, x, y, r, m2.sim.sub, view_ok m2.sim ok1' ex, view_ok m2.sim ok2 ey, hr, after_of S (m1.trans m2) q⟩
      · cases e
    · cases e
  · cases e
theorem s_neg {a : Expr} {ta : TE} {fa : Fe} {pos : Pos} (ha : PE X a ta) (sa : SoundE X.K fa ta) :
    ∃ te, PE X (.UnaryOp .USub a pos) te ∧ SoundE X.K (negF fa) te := by
  refine ⟨_, pe_un un_neg ha, ?_⟩
  intro z σ F H Q r z3 S e q
  unfold negF at e
  split at e
  · rename_i i z1 e1
    cases e
    refine sa z σ F H _ _ _ S (toI_some e1) fun v F1 H1 m1 ok1 fr1 => ?_
    have ok1 : Rep F1 v (.int i) := ok1
    cases ok1
    exact ⟨i, rfl, q _ F1 H1 m1 (.int _) (fun f => by cases f)⟩
  · cases e
def rCmp (K : PySem.W.Frag) (op : CmpOp) : R2 := fun x y H Q => (∃ F d e z, Same F H ∧ RepH F H x d ∧ RepH F H y e ∧ cmpR op d e = some z ∧ Q (.bl z) H) ∨
  (∃ F d t a kvs b, Same F H ∧ RepH F H x d ∧ y = .ref a ∧ DicOk F H t a kvs ∧ keyOk t d = true ∧ ((op = .In ∧ b = (kvGet d kvs).isSome) ∨ (op = .NotIn ∧ b = !(kvGet d kvs).isSome)) ∧ Q (.bl b) H)
theorem op_cmp (hu : X.A.units + 200 < cLine) (op : CmpOp) : OpR X (compareOp op) (rCmp X.K op) := by
  intro pins s σ H x y v u Q I rx ry h
  rcases h with h | ⟨F, d, t, a, kvs, b, sm, hd, e, hk, ok, h, q⟩
  · exact cmp_ok hu op pins s σ H x y v u Q I rx ry h
  · rcases h with ⟨rfl, rfl⟩ | ⟨rfl, rfl⟩
    · exact inD_ok hu pins s σ H x y v u Q I rx ry ⟨F, d, t, a, kvs, sm, hd, e, hk, ok, q⟩
    · exact notInD_ok hu pins s σ H x y v u Q I rx ry ⟨F, d, t, a, kvs, sm, hd, e, hk, ok, q⟩
/-- a comparison gives a bool -/
theorem cmpF_run {op : CmpOp} {ta tb : TE} {fa fb : Fe} (sa : SoundE X.K fa ta) (sb : SoundE X.K fb tb) {z z3 : En} {σ : Sl} {F H : Hp} {r : Res} {Q : VK} (S : Sim X.K z σ F H) (e : cmpF op fa fb z = some (r, z3))
    (q : ∀ b F1 H1, r = .d (.bool b) → Mid X.K z σ F H z3 F1 H1 → Q (.bl b) H1) : tOp (rCmp X.K op) ta tb σ H Q := by
  unfold cmpF at e
  split at e
  · rename_i r1 z1 e1
    split at e
    · rename_i r2 z2 e2
      split at e
      · rename_i x y ex ey
        obtain ⟨b, hr, h2⟩ := Option.map_eq_some_iff.mp e
        cases h2
        refine sa z σ F H _ _ _ S e1 fun v F1 H1 m1 ok1 fr1 => ?_
        refine sb z1 σ F1 H1 _ _ _ m1.sim e2 fun w F2 H2 m2 ok2 fr2 => ?_
        have ok1' := ok1.next m2 (fr_own S m1 fr1)
        exact .inl ⟨F2, x, y, b, m2.sim.sub, view_ok m2.sim ok1' ex, vw_ok m2.sim ok2 ey, hr, q b F2 H2 rfl (m1.trans m2)⟩
      · rename_i x t kvs ex ey
        split at e
        · rename_i hk
          refine sa z σ F H _ _ _ S e1 fun v F1 H1 m1 ok1 fr1 => ?_
          refine sb z1 σ F1 H1 _ _ _ m1.sim e2 fun w F2 H2 m2 ok2 fr2 => ?_
          have ok1' := ok1.next m2 (fr_own S m1 fr1)
          obtain ⟨a, rfl, _, h5⟩ := vw_ok m2.sim ok2 ey
          split at e
          · cases e
            exact .inr ⟨F2, x, t, a, kvs, _, m2.sim.sub, view_ok m2.sim ok1' ex, rfl, h5, hk, .inl ⟨rfl, rfl⟩, q _ F2 H2 rfl (m1.trans m2)⟩
          · cases e
            exact .inr ⟨F2, x, t, a, kvs, _, m2.sim.sub, view_ok m2.sim ok1' ex, rfl, h5, hk, .inr ⟨rfl, rfl⟩, q _ F2 H2 rfl (m1.trans m2)⟩
          · cases e
        · cases e
      · cases e
    · cases e
  · cases e
theorem s_cmp (hu : X.A.units + 200 < cLine) {op : CmpOp} {a b : Expr} {ta tb : TE} {fa fb : Fe} {pos : Pos} (ha : PE X a ta) (sa : SoundE X.K fa ta) (hb : PE X b tb) (sb : SoundE X.K fb tb) (hm : behindInMarks op b = false) :
    (∃ te, PE X (.Compare a [op] [b] pos) te ∧ SoundE X.K (cmpF op fa fb) te) ∧ ∃ tt, L2.PT X (.Compare a [op] [b] pos) tt ∧ SoundT X.K (cmpF op fa fb) tt := by
  refine ⟨⟨_, pe_cmpR (op_cmp hu op) ha hb hm, ?_⟩, _, pt_cmpR (op_cmp hu op) ha hb hm, ?_⟩
  · intro z σ F H Q r z3 S e q
    refine cmpF_run sa sb S e fun b F1 H1 hr m => ?_
    subst hr
    exact q _ F1 H1 m (.bl b) (fun f => by cases f)
  · intro z σ F H Q b z3 S e q
    refine cmpF_run sa sb S (toB_some e) fun b' F1 H1 hr m => ?_
    cases hr
    exact ⟨b, rfl, q F1 H1 m⟩
theorem cmp2F_run {o1 o2 : CmpOp} {ta tb tc : TE} {fa fb fc : Fe} (sa : SoundE X.K fa ta) (sb : SoundE X.K fb tb) (sc : SoundE X.K fc tc) {z z4 : En} {σ : Sl} {F H : Hp} {r : Res} {Q : VK} (S : Sim X.K z σ F H) (e : cmp2F o1 o2 fa fb fc z = some (r, z4))
    (q : ∀ b F1 H1, r = .d (.bool b) → Mid X.K z σ F H z4 F1 H1 → Q (.bl b) H1) : tChain (rCmp X.K o1) (rCmp X.K o2) ta tb tc σ H Q := by
  unfold cmp2F at e
  split at e
  · rename_i r1 z1 e1
    split at e
    · rename_i r2 z2 e2
      split at e
      · rename_i x y ex ey
        split at e
        · rename_i hr
          split at e
          · rename_i r3 z3 e3
            split at e
            · rename_i y2 w ey2 ew
              obtain ⟨b, hb, h2⟩ := Option.map_eq_some_iff.mp e
              cases h2
              refine sa z σ F H _ _ _ S e1 fun v F1 H1 m1 ok1 fr1 => ?_
              refine sb z1 σ F1 H1 _ _ _ m1.sim e2 fun w' F2 H2 m2 ok2 fr2 => ?_
              have ok1' := ok1.next m2 (fr_own S m1 fr1)
              refine .inl ⟨F2, x, y, true, m2.sim.sub, view_ok m2.sim ok1' ex, view_ok m2.sim ok2 ey, hr, true, rfl, ?_⟩
              rw [if_pos rfl]
              refine sc z2 σ F2 H2 _ _ _ m2.sim e3 fun v3 F3 H3 m3 ok3 fr3 => ?_
              have ok2' := ok2.next m3 (fr_own m1.sim m2 fr2)
              exact .inl ⟨F3, y2, w, b, m3.sim.sub, view_ok m3.sim ok2' ey2, view_ok m3.sim ok3 ew, hb, q b F3 H3 rfl ((m1.trans m2).trans m3)⟩
            · cases e
          · cases e
        · rename_i hr
          cases e
          refine sa z σ F H _ _ _ S e1 fun v F1 H1 m1 ok1 fr1 => ?_
          refine sb z1 σ F1 H1 _ _ _ m1.sim e2 fun w' F2 H2 m2 ok2 fr2 => ?_
          have ok1' := ok1.next m2 (fr_own S m1 fr1)
          refine .inl ⟨F2, x, y, false, m2.sim.sub, view_ok m2.sim ok1' ex, view_ok m2.sim ok2 ey, hr, false, rfl, ?_⟩
          rw [if_neg Bool.false_ne_true]
          exact q false F2 H2 rfl (m1.trans m2)
        · cases e
      · cases e
    · cases e
  · cases e
theorem s_cmp2 (hu : X.A.units + 200 < cLine) {o1 o2 : CmpOp} {a b c : Expr} {ta tb tc : TE} {fa fb fc : Fe} {pos : Pos} (ha : PE X a ta) (sa : SoundE X.K fa ta) (hb : PE X b tb) (sb : SoundE X.K fb tb) (hc : PE X c tc) (sc : SoundE X.K fc tc) (hm : lastMarks [o1, o2] [b, c] = false) :
    (∃ te, PE X (.Compare a [o1, o2] [b, c] pos) te ∧ SoundE X.K (cmp2F o1 o2 fa fb fc) te) ∧ ∃ tt, L2.PT X (.Compare a [o1, o2] [b, c] pos) tt ∧ SoundT X.K (cmp2F o1 o2 fa fb fc) tt := by
  refine ⟨⟨_, pe_chain (op_cmp hu o1) (op_cmp hu o2) ha hb hc hm, ?_⟩, _, pt_chain (op_cmp hu o1) (op_cmp hu o2) ha hb hc hm, ?_⟩
  · intro z σ F H Q r z3 S e q
    refine cmp2F_run sa sb sc S e fun b F1 H1 hr m => ?_
    subst hr
    exact q _ F1 H1 m (.bl b) (fun f => by cases f)
  · intro z σ F H Q b z3 S e q
    refine cmp2F_run sa sb sc S (toB_some e) fun b' F1 H1 hr m => ?_
    cases hr
    exact ⟨b, rfl, q F1 H1 m⟩
/-! and, or, not, if: values and tests -/
theorem SoundE.test {f : Fe} {te : TE} (s : SoundE X.K f te) : SoundT X.K f (tB te) := by
  intro z σ F H Q b z1 S e q
  refine s z σ F H _ _ _ S (toB_some e) fun v F1 H1 m ok fr => ?_
  have ok : Rep F1 v (.bool b) := ok
  cases ok
  exact ⟨b, rfl, q F1 H1 m⟩
theorem s_and {a b : Expr} {rest : List Expr} {ta tb : TE} {fa fb : Fe} {pos : Pos} (ha : PE X a ta) (sa : SoundE X.K fa ta) (hb : PE X (.BoolOp .And (b :: rest) pos) tb) (sb : SoundE X.K fb tb) :
    ∃ te, PE X (.BoolOp .And (a :: b :: rest) pos) te ∧ SoundE X.K (andF fa fb) te := by
  refine ⟨_, pe_and ha hb, ?_⟩
  intro z σ F H Q r z3 S e q
  unfold andF at e
  split at e
  · rename_i z1 e1
    refine sa z σ F H _ _ _ S (toB_some e1) fun v F1 H1 m1 ok1 fr1 => ?_
    have ok1 : Rep F1 v (.bool true) := ok1
    cases ok1
    refine ⟨true, rfl, ?_⟩
    rw [if_pos rfl]
    exact sb z1 σ F1 H1 _ _ _ m1.sim e fun w F2 H2 m2 ok2 fr2 => q w F2 H2 (m1.trans m2) ok2 fun f a e => m1.was S (fr2 f a e)
  · rename_i z1 e1
    cases e
    refine sa z σ F H _ _ _ S (toB_some e1) fun v F1 H1 m1 ok1 fr1 => ?_
    have ok1 : Rep F1 v (.bool false) := ok1
    cases ok1
    refine ⟨false, rfl, ?_⟩
    rw [if_neg Bool.false_ne_true]
    exact q _ F1 H1 m1 (.bl false) (fun f => by cases f)
  · cases e
theorem s_or {a b : Expr} {rest : List Expr} {ta tb : TE} {fa fb : Fe} {pos : Pos} (ha : PE X a ta) (sa : SoundE X.K fa ta) (hb : PE X (.BoolOp .Or (b :: rest) pos) tb) (sb : SoundE X.K fb tb) :
    ∃ te, PE X (.BoolOp .Or (a :: b :: rest) pos) te ∧ SoundE X.K (orF fa fb) te := by
  refine ⟨_, pe_or ha hb, ?_⟩
  intro z σ F H Q r z3 S e q
  unfold orF at e
  split at e
  · rename_i z1 e1
    cases e
    refine sa z σ F H _ _ _ S (toB_some e1) fun v F1 H1 m1 ok1 fr1 => ?_
    have ok1 : Rep F1 v (.bool true) := ok1
    cases ok1
    refine ⟨true, rfl, ?_⟩
    rw [if_pos rfl]
    exact q _ F1 H1 m1 (.bl true) (fun f => by cases f)
  · rename_i z1 e1
    refine sa z σ F H _ _ _ S (toB_some e1) fun v F1 H1 m1 ok1 fr1 => ?_
    have ok1 : Rep F1 v (.bool false) := ok1
    cases ok1
    refine ⟨false, rfl, ?_⟩
    rw [if_neg Bool.false_ne_true]
    exact sb z1 σ F1 H1 _ _ _ m1.sim e fun w F2 H2 m2 ok2 fr2 => q w F2 H2 (m1.trans m2) ok2 fun f a e => m1.was S (fr2 f a e)
  · cases e
theorem andT_run {ta tb : TT} {fa fb : Fe} (sa : SoundT X.K fa ta) (sb : SoundT X.K fb tb) : SoundT X.K (andF fa fb) (tAnd ta tb) := by
  intro z σ F H Q b z3 S e q
  have e := toB_some e
  unfold andF at e
  split at e
  · rename_i z1 e1
    refine sa z σ F H _ _ _ S e1 fun F1 H1 m1 => ?_
    rw [if_pos rfl]
    exact sb z1 σ F1 H1 _ _ _ m1.sim (by rw [e]; rfl) fun F2 H2 m2 => q F2 H2 (m1.trans m2)
  · rename_i z1 e1
    cases e
    refine sa z σ F H _ _ _ S e1 fun F1 H1 m1 => ?_
    rw [if_neg Bool.false_ne_true]
    exact q F1 H1 m1
  · cases e
theorem orT_run {ta tb : TT} {fa fb : Fe} (sa : SoundT X.K fa ta) (sb : SoundT X.K fb tb) : SoundT X.K (orF fa fb) (tOr ta tb) := by
  intro z σ F H Q b z3 S e q
  have e := toB_some e
  unfold orF at e
  split at e
  · rename_i z1 e1
    cases e
    refine sa z σ F H _ _ _ S e1 fun F1 H1 m1 => ?_
    rw [if_pos rfl]
    exact q F1 H1 m1
  · rename_i z1 e1
    refine sa z σ F H _ _ _ S e1 fun F1 H1 m1 => ?_
    rw [if_neg Bool.false_ne_true]
    exact sb z1 σ F1 H1 _ _ _ m1.sim (by rw [e]; rfl) fun F2 H2 m2 => q F2 H2 (m1.trans m2)
  · cases e
theorem s_not {a : Expr} {ta : TE} {fa : Fe} {pos : Pos} (ha : PE X a ta) (sa : SoundE X.K fa ta) : ∃ te, PE X (.UnaryOp .Not a pos) te ∧ SoundE X.K (notF fa) te := by
  refine ⟨_, pe_not ha, ?_⟩
  intro z σ F H Q r z3 S e q
  unfold notF at e
  split at e
  · rename_i c z1 e1
    cases e
    refine sa z σ F H _ _ _ S (toB_some e1) fun v F1 H1 m1 ok1 fr1 => ?_
    have ok1 : Rep F1 v (.bool c) := ok1
    cases ok1
    exact ⟨c, rfl, q _ F1 H1 m1 (.bl _) (fun f => by cases f)⟩
  · cases e
theorem s_notT {a : Expr} {ta : TT} {fa : Fe} {pos : Pos} (ha : L2.PT X a ta) (sa : SoundT X.K fa ta) : ∃ tt, L2.PT X (.UnaryOp .Not a pos) tt ∧ SoundT X.K (notF fa) tt := by
  refine ⟨_, pt_not ha, ?_⟩
  intro z σ F H Q b z3 S e q
  have e := toB_some e
  unfold notF at e
  split at e
  · rename_i c z1 e1
    cases e
    exact sa z σ F H _ _ _ S e1 fun F1 H1 m1 => q F1 H1 m1
  · cases e
theorem s_ife {t a b : Expr} {tt : TT} {ta tb : TE} {ft fa fb : Fe} {pos : Pos} (ht : L2.PT X t tt) (st : SoundT X.K ft tt) (ha : PE X a ta) (sa : SoundE X.K fa ta) (hb : PE X b tb) (sb : SoundE X.K fb tb) :
    ∃ te, PE X (.IfExp t a b pos) te ∧ SoundE X.K (ifeF ft fa fb) te := by
  refine ⟨_, pe_ifExp ht ha hb, ?_⟩
  intro z σ F H Q r z3 S e q
  unfold ifeF at e
  split at e
  · rename_i z1 e1
    refine st z σ F H _ _ _ S e1 fun F1 H1 m1 => ?_
    rw [if_pos rfl]
    exact sa z1 σ F1 H1 _ _ _ m1.sim e fun w F2 H2 m2 ok2 fr2 => q w F2 H2 (m1.trans m2) ok2 fun f a e => m1.was S (fr2 f a e)
  · rename_i z1 e1
    refine st z σ F H _ _ _ S e1 fun F1 H1 m1 => ?_
    rw [if_neg Bool.false_ne_true]
    exact sb z1 σ F1 H1 _ _ _ m1.sim e fun w F2 H2 m2 ok2 fr2 => q w F2 H2 (m1.trans m2) ok2 fun f a e => m1.was S (fr2 f a e)
  · cases e
/-! subscripts and slices -/
theorem s_idx (hu : X.A.units + 200 < cLine) {a i : Expr} {ta ti : TE} {fa fi : Fe} {pos : Pos} (ha : PE X a ta) (sa : SoundE X.K fa ta) (hi : PE X i ti) (si : SoundE X.K fi ti) (hp : PlainIx i) :
    ∃ te, PE X (.Subscript a i pos) te ∧ SoundE X.K (idxF fa fi) te := by
  refine ⟨_, pe_ix ((ix_ok (X := X)).or (ixD_ok hu)) ha hi hp, ?_⟩
  intro z σ F H Q r z3 S e q
  unfold idxF at e
  split at e
  · rename_i r1 z1 e1
    split at e
    · rename_i r2 z2 e2
      split at e
      · rename_i x k ex ek
        obtain ⟨w, hw, h2⟩ := Option.map_eq_some_iff.mp e
        cases h2
        refine sa z σ F H _ _ _ S e1 fun v F1 H1 m1 ok1 fr1 => ?_
        refine si z1 σ F1 H1 _ _ _ m1.sim e2 fun v2 F2 H2 m2 ok2 fr2 => ?_
        have ok1' := ok1.next m2 (fr_own S m1 fr1)
        exact .inl ⟨F2, x, k, w, m2.sim.sub, vw_ok m2.sim ok1' ex, view_ok m2.sim ok2 ek, hw, fun u hu' => q u F2 H2 (m1.trans m2) hu' (fun f => by cases f)⟩
      · rename_i t kvs k ex ek
        split at e
        · rename_i hk
          obtain ⟨w, hw, h2⟩ := Option.map_eq_some_iff.mp e
          cases h2
          refine sa z σ F H _ _ _ S e1 fun v F1 H1 m1 ok1 fr1 => ?_
          refine si z1 σ F1 H1 _ _ _ m1.sim e2 fun v2 F2 H2 m2 ok2 fr2 => ?_
          have ok1' := ok1.next m2 (fr_own S m1 fr1)
          obtain ⟨a, rfl, _, h5⟩ := vw_ok m2.sim ok1' ex
          exact .inr ⟨F2, k, t, a, kvs, w, m2.sim.sub, view_ok m2.sim ok2 ek, rfl, h5, hk, hw, fun u hu' => q u F2 H2 (m1.trans m2) hu' (fun f => by cases f)⟩
        · cases e
      · cases e
    · cases e
  · cases e
theorem o_none : SoundO X.K noO tNoPart := by
  intro z σ F H Q o z1 S e q
  cases e
  exact q F H (Mid.refl S)
theorem o_some {fa : Fe} {ta : TE} (sa : SoundE X.K fa ta) : SoundO X.K (someO fa) (tPart ta) := by
  intro z σ F H Q o z1 S e q
  unfold someO at e
  split at e
  · rename_i i z2 e1
    cases e
    refine sa z σ F H _ _ _ S (toI_some e1) fun v F1 H1 m1 ok1 fr1 => ?_
    have ok1 : Rep F1 v (.int i) := ok1
    cases ok1
    exact ⟨i, rfl, q F1 H1 m1⟩
  · cases e
theorem slc_run {R : Option Int → Option Int → D → Option Res} {fa : Fe} {fl fh : Fo} {ta : TE} {tl th : TO} (sa : SoundE X.K fa ta) (sl : SoundO X.K fl tl) (sh : SoundO X.K fh th) {r' : V → Option Int → Option Int → Hp → VK → Prop}
    (hr : ∀ F d lo hi x H Q r, Same F H → RepH F H x d → R lo hi d = some r → After F H r Q → r' x lo hi H Q) : SoundE X.K (slcF R fa fl fh) (tSl r' ta tl th) := by
  intro z σ F H Q r z4 S e q
  unfold slcF at e
  split at e
  · rename_i r1 z1 e1
    split at e
    · rename_i l z2 e2
      split at e
      · rename_i h z3 e3
        split at e
        · rename_i x ex
          obtain ⟨w, hw, h2⟩ := Option.map_eq_some_iff.mp e
          cases h2
          refine sa z σ F H _ _ _ S e1 fun v F1 H1 m1 ok1 fr1 => ?_
          refine sl z1 σ F1 H1 _ _ _ m1.sim e2 fun F2 H2 m2 => ?_
          refine sh z2 σ F2 H2 _ _ _ m2.sim e3 fun F3 H3 m3 => ?_
          have ok1' := ok1.next (m2.trans m3) (fr_own S m1 fr1)
          exact hr F3 x l h v H3 Q r m3.sim.sub (view_ok m3.sim ok1' ex) hw (after_of S (m1.trans (m2.trans m3)) q)
        · cases e
      · cases e
    · cases e
  · cases e
theorem s_slc {a : Expr} {lo hi : Option Expr} {fa : Fe} {fl fh : Fo} {ta : TE} {tl th : TO} {pos p2 : Pos} (ha : PE X a ta) (sa : SoundE X.K fa ta) (hl : PO X lo tl) (sl : SoundO X.K fl tl) (hh : PO X hi th) (sh : SoundO X.K fh th) :
    ∃ te, PE X (.Subscript a (.Slice lo hi none p2) pos) te ∧ SoundE X.K (slcF slcR fa fl fh) te :=
  ⟨_, pe_slice slc_ok ha hl hh, slc_run sa sl sh fun F d lo hi x H Q r sm hd hr q => ⟨F, d, r, sm, hd, hr, q⟩⟩
/-! argument lists, displays -/
theorem a_nil : SoundA X.K nilA tNil := by
  intro z σ F H Q rs z1 S e q
  cases e
  exact q [] F H (Mid.refl S) True.intro
theorem RsOk.back {K : PySem.W.Frag} {z : En} {σ : Sl} {H0 H1 F H : Hp} (k : ∀ a, H1 a = none → H0 a = none) : ∀ {rs : List Res} {vs : List V}, RsOk K z σ H1 F H rs vs → RsOk K z σ H0 F H rs vs
  | [], [], _ => True.intro
  | r :: rs, v :: vs, h => ⟨h.1, fun f a e => ⟨k a (h.2.1 f a e).1, (h.2.1 f a e).2⟩, RsOk.back k h.2.2⟩
  | [], _ :: _, h => h.elim
  | _ :: _, [], h => h.elim
theorem a_cons {fa : Fe} {fs : Fa} {ta : TE} {ts : TA} (sa : SoundE X.K fa ta) (ss : SoundA X.K fs ts) : SoundA X.K (consA fa fs) (tCons ta ts) := by
  intro z σ F H Q rs z2 S e q
  unfold consA at e
  split at e
  · rename_i r z1 e1
    split at e
    · rename_i rs' z2' e2
      cases e
      refine sa z σ F H _ _ _ S e1 fun v F1 H1 m1 ok1 fr1 => ?_
      refine ss z1 σ F1 H1 _ _ _ m1.sim e2 fun vs F2 H2 m2 ok2 => ?_
      refine q (v :: vs) F2 H2 (m1.trans m2) ⟨ok1.next m2 (fr_own S m1 fr1), fun f a ea => ⟨fr1 f a ea, fun j r' e3 f' e4 => ?_⟩, ok2.back fun a => m1.was S⟩
      have h1 := ok2.fr e3 f' e4
      -- v's own object stands already in H1
      subst ea
      cases r with
      | fl xs =>
        obtain ⟨b, ws, eb, _, h2, _⟩ := ok1
        cases eb
        rw [h1] at h2; cases h2
      | fd t kvs =>
        obtain ⟨b, eb, _, h2⟩ := ok1
        cases eb
        obtain ⟨o, h3, _⟩ := h2.at
        rw [h1] at h3; cases h3
      | _ => cases f
    · cases e
  · cases e
theorem s_tup {es : List Expr} {k : Nat} {pos : Pos} {ts : TA} {fs : Fa} (hs : PA X es ts) (ss : SoundA X.K fs ts) : ∃ te, PE X (.Tuple es k pos) te ∧ SoundE X.K (tupF fs) te := by
  refine ⟨_, pe_tup hs, ?_⟩
  intro z σ F H Q r z3 S e q
  unfold tupF at e
  split at e
  · rename_i rs z1 e1
    split at e
    · rename_i xs z2 e2
      split at e
      · rename_i hl
        cases e
        refine ss z σ F H _ _ _ S e1 fun vs F1 H1 m1 ok1 => ?_
        obtain ⟨F2, m2, rp, _, _⟩ := frzs_ok S m1 ok1 e2
        refine ⟨by rw [rp.length, ← lim]; exact hl, fun p np => ?_⟩
        have t : Step N0 F2 H1 (upd F2 p (.tup vs)) (upd H1 p (.tup vs)) := Step.mkF m2.sim.sub np
        exact q (.ref p) _ _ (m2.step0 t) (.tup upd_same (rp.mono t.same)) (fun f => by cases f)
      · cases e
    · cases e
  · cases e
theorem s_lst {es : List Expr} {pos : Pos} {ts : TA} {fs : Fa} (hs : PA X es ts) (ss : SoundA X.K fs ts) : ∃ te, PE X (.List es pos) te ∧ SoundE X.K (lstF fs) te := by
  refine ⟨_, pe_lst hs, ?_⟩
  intro z σ F H Q r z3 S e q
  unfold lstF at e
  split at e
  · rename_i rs z1 e1
    split at e
    · rename_i xs z2 e2
      split at e
      · rename_i hl
        cases e
        refine ss z σ F H _ _ _ S e1 fun vs F1 H1 m1 ok1 => ?_
        obtain ⟨F2, m2, rp, _, _⟩ := frzs_ok S m1 ok1 e2
        refine ⟨by rw [rp.length, ← lim]; exact hl, fun p np => ?_⟩
        have t : Step N0 F2 H1 F2 (upd H1 p (.lst vs)) := Step.mk' m2.sim.sub np
        exact q (.ref p) _ _ (m2.step0 t) ⟨p, vs, rfl, m2.sim.sub.free np, upd_same, rp⟩ fun _ a ea => by cases ea; exact m1.was S np
      · cases e
    · cases e
  · cases e
theorem s_dic {b : Bool} {pos : Pos} : ∃ te, PE X (.Dict [] [] pos) te ∧ SoundE X.K (dicF b) te := by
  cases b with
  | false =>
    refine ⟨_, pe_dnewK, ?_⟩
    intro z σ F H Q r z1 S e q
    cases e
    intro p np
    exact q (.ref p) F _ ((Mid.refl S).step0 (Step.mk' S.sub np)) ⟨p, rfl, S.sub.free np, [], upd_same, .nil⟩ fun _ a ea => by cases ea; exact np
  | true =>
    refine ⟨_, pe_dnewT, ?_⟩
    intro z σ F H Q r z1 S e q
    cases e
    intro p np
    exact q (.ref p) F _ ((Mid.refl S).step0 (Step.mk' S.sub np)) ⟨p, rfl, S.sub.free np, [], upd_same, .nil⟩ fun _ a ea => by cases ea; exact np
/-! builtins -/
theorem blt_run {b : Bi} {ts : TA} {fs : Fa} (ss : SoundA X.K fs ts) : SoundE X.K (bltF b fs) (tCB (fun xs H Q => ∃ F vs r, Same F H ∧ VwsOk F H xs vs ∧ bltR b vs = some r ∧ After F H r Q) ts) := by
  intro z σ F H Q r z2 S e q
  unfold bltF at e
  split at e
  · rename_i rs z1 e1
    split at e
    · rename_i vs ev
      obtain ⟨w, hw, h2⟩ := Option.map_eq_some_iff.mp e
      cases h2
      refine ss z σ F H _ _ _ S e1 fun us F1 H1 m1 ok1 => ?_
      exact ⟨F1, vs, r, m1.sim.sub, vws_ok m1.sim ok1 ev, hw, after_of S m1 q⟩
    · cases e
  · cases e
end
end TW
end

section
/-! t[:0:-1], d.get(k, x) -/
namespace TW
open PySem PySem.Spec PyProof.Rows L2
theorem range_all {α : Type} : ∀ l : List α, (List.range l.length).filterMap (l[·]?) = l
  | [] => rfl
  | a :: l => by
    rw [List.length_cons, List.range_succ_eq_map]
    simp only [List.filterMap_cons, List.getElem?_cons_zero, List.filterMap_map]
    have := range_all l
    congr 1
theorem fm_congr {α β : Type} {f g : α → Option β} : ∀ {l : List α}, (∀ a ∈ l, f a = g a) → l.filterMap f = l.filterMap g
  | [], _ => rfl
  | a :: l, h => by
    rw [List.filterMap_cons, List.filterMap_cons, h a (List.mem_cons_self ..), fm_congr fun b hb => h b (List.mem_cons_of_mem _ hb)]
theorem pick_down (xs : Array Value) : (List.range (xs.size - 1)).filterMap (fun m : Nat => xs[(((xs.size : Int) - 1) + (m : Int) * (-1)).toNat]?) = xs.toList.tail.reverse := by
  have h1 : xs.toList.tail.reverse.length = xs.size - 1 := by simp
  rw [← h1]
  refine Eq.trans ?_ (range_all _)
  rw [h1]
  refine fm_congr fun m hm => ?_
  have hm : m < xs.size - 1 := List.mem_range.mp hm
  have e : (((xs.size : Int) - 1) + (m : Int) * (-1)).toNat = xs.size - 1 - m := by omega
  rw [e]
  rw [List.getElem?_reverse (by simpa using hm)]
  simp only [List.getElem?_tail, List.length_tail, Array.length_toList, Array.getElem?_toList]
  congr 1
  omega
section
variable {prog : Program} {w : World} {A : Around} {E : Value → Shared → Prop} {s : Shared}
theorem applied_down {sl : Addr} {v1 v2 v3 : Value} {n : Nat} {Q : Int × Int × Nat → Shared → Prop} (hs : s.heap.IsSliceOf sl v1 v2 v3) (p1 : IsPart v1 none) (p2 : IsPart v2 (some 0)) (p3 : IsPart v3 (some (-1)))
    (h : Q ((n : Int) - 1, -1, n - 1) s) : wpAny (model prog w) A (Builtin.Slice.sliceApplied (.ref sl) (pure (n : Int))) Q E s := by
  obtain ⟨o, ho, hc, hd⟩ := id hs
  unfold Builtin.Slice.sliceApplied Builtin.Slice.sliceFields
  refine wpAny_bind (wpAny_bind (wpAny_field ho hd (x := v1) rfl (wpAny_bind (wpAny_field ho hd (x := v2) rfl (wpAny_bind (wpAny_field ho hd (x := v3) rfl (wpAny_pure ?_)))))))
  refine wpAny_bind (HT.slicePart_ p3 ?_)
  show wpAny _ _ (if ((-1 : Int) == 0) = true then _ else _) _ _ s
  rw [if_neg (by decide)]
  refine wpAny_bind (HT.slicePart_ p1 (wpAny_bind (HT.slicePart_ p2 (wpAny_bind (wpAny_pure ?_)))))
  have e1 : Builtin.Slice.sliceAdjust none (some 0) (-1) (n : Int) = ((n : Int) - 1, min 0 ((n : Int) - 1)) := by
    unfold Builtin.Slice.sliceAdjust
    simp
  have e2 : Builtin.Slice.slicePlaces ((n : Int) - 1) (min 0 ((n : Int) - 1)) (-1) = n - 1 := by
    unfold Builtin.Slice.slicePlaces
    have hn : ¬ ((-1 : Int) > 0) := by omega
    simp only [hn, if_false, Int.neg_neg, Int.ediv_one]
    split <;> omega
  show wpAny _ _ (match Builtin.Slice.sliceAdjust none (some 0) (-1) (n : Int) with | (a, b) => pure (a, (-1 : Int), Builtin.Slice.slicePlaces a b (-1))) _ _ s
  rw [e1]
  show wpAny _ _ (pure ((n : Int) - 1, (-1 : Int), Builtin.Slice.slicePlaces ((n : Int) - 1) (min 0 ((n : Int) - 1)) (-1))) _ _ s
  rw [e2]
  exact wpAny_pure h
theorem getItem_down {t sl : Addr} {its : Array Value} {v1 v2 v3 : Value} {Q : Value → Shared → Prop} (ht : IsTup s.heap t its) (hs : s.heap.IsSliceOf sl v1 v2 v3) (p1 : IsPart v1 none) (p2 : IsPart v2 (some 0)) (p3 : IsPart v3 (some (-1)))
    (h : Q (.ref s.heap.objs.size) { s with heap := s.heap.push { cls := .type "tuple", data := .seq its.toList.tail.reverse.toArray } }) (hz : its.size ≤ sizeLine) : wpAny (model prog w) A (getItem (.ref t) (.ref sl)) Q E s := by
  have room : sizeOk (.seq its.toList.tail.reverse.toArray) := by
    show its.toList.tail.reverse.toArray.size ≤ sizeLine
    rw [List.size_toArray, List.length_reverse, List.length_tail, Array.length_toList]
    omega
  obtain ⟨o, ho, hc, hd⟩ := id hs
  have isS : s.TypeIs (.ref sl) "slice" := ⟨o, ho, hc⟩
  unfold getItem
  try with_reducible refine wpAny_holding ?_
  first | refine wpAny_bind (wpAny_pure ?_) | skip
  refine wpAny_bind (wpAny_sequenceKey ht.typeIs (by decide) ?_)
  refine wpAny_bind (wpAny_callSpecial?_slot (name := Str.ofString "__getitem__") ht.typeIs PyProof.Rows.slot_tuple_getitem (wpAny_call_entry PyProof.Rows.slot_tuple_getitem ht.typeIs entry_tuple_getitem ?_ (args_tuple_getitem _ _)))
  show wpAny _ _ (Builtin.Tuple.tupleItemsOf (.ref t) >>= _) _ _ s
  refine wpAny_bind (PyProof.Rows.tupleItemsOf_ ht (wpAny_bind (wpAny_typeOf isS ?_)))
  rw [if_pos (by decide)]
  refine wpAny_bind (applied_down hs p1 p2 p3 ?_)
  have no : ¬ ((((its.size : Int) - 1) == 0 && (-1 : Int) == 1 && (its.size - 1) == its.size) = true) := by simp
  show wpAny _ _ (if (((its.size : Int) - 1) == 0 && (-1 : Int) == 1 && (its.size - 1) == its.size) = true then _ else _) _ _ s
  rw [if_neg no, pick_down]
  first
    | exact wpAny_bind (m := Builtin.Tuple.tupleExact _) (wpAny_newObj_type (wpAny_pure ⟨_, rfl, wpAny_pure h⟩) room)
    | exact wpAny_bind (m := Builtin.Tuple.tupleExact _) (wpAny_newObj_type (wpAny_bind (wpAny_pure (wpAny_pure ⟨_, rfl, wpAny_pure h⟩))) room)
    | exact wpAny_bind (wpAny_bind (m := Builtin.Tuple.tupleExact _) (wpAny_newObj_type (wpAny_pure (wpAny_pure ⟨_, rfl, wpAny_pure h⟩)) room))
    | exact wpAny_bind (wpAny_bind (m := Builtin.Tuple.tupleExact _) (wpAny_newObj_type (wpAny_pure ⟨_, rfl, wpAny_pure h⟩) room))
end
theorem dwn0 {α : Type} (xs : List α) : dwn xs none (some 0) = xs.tail.reverse := by
  unfold dwn
  simp only
  have e1 : ((xs.length : Int) - 1 + 1).toNat = xs.length := by omega
  rw [e1, List.take_length]
  cases xs with
  | nil => simp
  | cons x xs =>
    have e2 : (if (0 : Int) < 0 then max (0 + (((x :: xs).length : Nat) : Int)) (-1) else min 0 ((((x :: xs).length : Nat) : Int) - 1)) = 0 := by
      rw [if_neg (by omega), List.length_cons]
      omega
    rw [e2]
    rfl
section
variable {X : Cx}
theorem RepL.down {F : Hp} {vs : List V} {ds : List D} (h : RepL F vs ds) : RepL F vs.tail.reverse ds.tail.reverse := by
  have r : ∀ {a b : List V} {c d : List D}, RepL F a c → RepL F b d → RepL F (a ++ b) (c ++ d) := fun {a b c d} h1 h2 => by
    induction h1 using RepL.rec (motive_1 := fun _ _ _ => True) with
    | nil => exact h2
    | cons x _ _ ih => exact .cons x ih
    | _ => trivial
  have rev : ∀ {a : List V} {c : List D}, RepL F a c → RepL F a.reverse c.reverse := fun {a c} h => by
    induction h using RepL.rec (motive_1 := fun _ _ _ => True) with
    | nil => exact .nil
    | cons x _ _ ih =>
      rw [List.reverse_cons, List.reverse_cons]
      exact r ih (.cons x .nil)
    | _ => trivial
  cases h with
  | nil => exact .nil
  | cons _ t => exact rev t
/-- t[:0:-1] -/
theorem pe_down {e : Expr} {te : TE} {k0 k : Nat} {p0 p1 p2 p3 pos : Pos} (he : PE X e te) : PE X (.Subscript e (.Slice none (some (.Constant (.int 0) k0 p0)) (some (.UnaryOp .USub (.Constant (.int 1) k p1) p2)) p3) pos)
    (fun σ H Q => te σ H fun x H1 => ∃ F d r, Same F H1 ∧ RepH F H1 x d ∧ slmR none (some 0) d = some r ∧ After F H1 r Q) := by
  constructor
  intro pins s σ H Q I h
  refine Subscript_ (thn (he.run pins s σ H _ I h) fun v s1 ⟨x, H1, I1, r1, F, d, r, sm, hd, hr, q⟩ => ?_)
  unfold slmR at hr
  split at hr
  · rename_i ds
    cases hr
    obtain ⟨a, vs, rfl, h1, h2⟩ := hd.tup
    obtain rfl : v = Value.ref a := r1
    have step : PO X (some (.UnaryOp .USub (.Constant (.int 1) k p1) p2)) (tPart (tUn (rU fun i => .int (-i)) (tC (.int 1)))) := po_some (pe_un un_neg pe_int)
    have zero : PO X (some (.Constant (.int 0) k0 p0)) (tPart (tC (.int 0))) := po_some pe_int
    refine wpAny_Slice (thn (po_none.run pins s1 σ H1 (fun o H2 => o = none ∧ H2 = H1) I1 ⟨rfl, rfl⟩) fun u1 s2 ⟨l1, H2, I2, a1, b1, c1⟩ => ?_)
    subst b1 c1
    refine thn (zero.run pins s2 σ H2 (fun o H3 => o = some 0 ∧ H3 = H2) I2 ⟨0, rfl, rfl, rfl⟩) fun u2 s3 ⟨l2, H3, I3, a2, b2, c2⟩ => ?_
    subst b2 c2
    refine thn (step.run pins s3 σ H3 (fun o H4 => o = some (-1) ∧ H4 = H3) I3 ⟨1, rfl, -1, rfl, rfl, rfl⟩) fun u3 s4 ⟨l3, H4, I4, a3, b3, c3⟩ => ?_
    subst b3 c3
    have I5 : Inv X pins σ H4 { s4 with heap := s4.heap.push { cls := .type "slice", data := .fields #[u1, u2, u3] } } := I4.kept (t' := s4.toks) fun b ob g => Heap.get?_push_of_some _ g
    obtain ⟨its, rv, ht, hz⟩ := I5.tuple (SqT.of (sm _ _ h1))
    show wpAny (model X.prog X.w) X.A (subscriptTail e (.Slice none (some (.Constant (.int 0) k0 p0)) (some (.UnaryOp .USub (.Constant (.int 1) k p1) p2)) p3) (.ref a) (.ref s4.heap.objs.size)) (EP X pins σ Q) X.xe { s4 with heap := s4.heap.push { cls := .type "slice", data := .fields #[u1, u2, u3] } }
    refine tail_any (ops := [.ref a, .ref s4.heap.objs.size]) ht.typeIs PyProof.Rows.slot_tuple_getitem.lookup ?_ (by with_unfolding_all rfl)
    have rv' : Vals vs.tail.reverse its.tail.reverse := by
      cases rv with
      | nil => exact .nil
      | cons _ t => exact Vals.reverse t
    refine getItem_down ht (Heap.IsSliceOf.new _ u1 u2 u3) a1 a2 a3 ?_ (by rw [List.size_toArray]; rw [← rv.length]; exact hz)
    rw [dwn0] at q
    refine ⟨.ref _, _, I5.laid (t' := s4.toks) (o := .tup vs.tail.reverse) (fun b ob g => Heap.get?_push_of_some _ g) (Nat.le_refl _) ?_, rfl, q.tup sm h2.down _ (I5.hok.fresh (Nat.le_refl _))⟩
    exact ⟨by rw [List.length_reverse, List.length_tail]; omega, _, rv', IsTup.new _ _⟩
  · cases hr
theorem isD_of {F H : Hp} {t : Bool} {a : Addr} {kvs : List (D × D)} (h : DicOk F H t a kvs) : IsD H a := by
  cases t with
  | false => obtain ⟨ks, h1, _⟩ := h; exact .inl ⟨ks, .inl h1⟩
  | true => obtain ⟨ks, h1, _⟩ := h; exact .inr ⟨ks, .inl h1⟩
/-- d.get(k, x) -/
theorem s_gtt (hu : X.A.units + 200 < cLine) {o k x : Expr} {to tk tx : TE} {fo fk fx : Fe} {ap cp : Pos} (ho : PE X o to) (so : SoundE X.K fo to) (hk : PE X k tk) (sk : SoundE X.K fk tk) (hx : PE X x tx) (sx : SoundE X.K fx tx) (m : M2 X o "get" ap k x cp) :
    ∃ te, PE X (.Call (.Attribute o "get" ap) [k, x] [] cp) te ∧ SoundE X.K (gttF fo fk fx) te := by
  refine ⟨_, pe_dget2 (by omega) ho hk hx m, ?_⟩
  intro z σ F H Q r z4 S e q
  unfold gttF at e
  split at e
  · rename_i r1 z1 e1
    split at e
    · rename_i t0 kvs0 ev0
      split at e
      · rename_i r2 z2 e2
        split at e
        · rename_i dx z3 e3
          split at e
          · rename_i t kvs kk ex ek
            split at e
            · rename_i ok
              cases e
              refine so z σ F H _ _ _ S e1 fun v F1 H1 m1 ok1 fr1 => ?_
              obtain ⟨a, rfl, _, h0⟩ := vw_ok m1.sim ok1 ev0
              refine ⟨a, rfl, isD_of h0, ?_⟩
              refine sk z1 σ F1 H1 _ _ _ m1.sim e2 fun v2 F2 H2 m2 ok2 fr2 => ?_
              refine sx z2 σ F2 H2 _ _ _ m2.sim e3 fun v3 F3 H3 m3 ok3 fr3 => ?_
              have ok1' := ok1.next (m2.trans m3) (fr_own S m1 fr1)
              have ok2' := ok2.next m3 (fr_own m1.sim m2 fr2)
              obtain ⟨a', ea, _, h5⟩ := vw_ok m3.sim ok1' ex
              cases ea
              have ok3 : Rep F3 v3 dx := ok3
              rcases dic_get m3.sim.sub h5 (view_ok m3.sim ok2' ek) ok with ⟨g1, g2⟩ | ⟨w, d, g1, g2, g3⟩
              · refine ⟨none, g1, ?_⟩
                rw [g2] at q
                exact q v3 F3 H3 (m1.trans (m2.trans m3)) ok3 fun f => by cases f
              · refine ⟨some w, g1, ?_⟩
                rw [g2] at q
                exact q w F3 H3 (m1.trans (m2.trans m3)) g3 fun f => by cases f
            · cases e
          · cases e
        · cases e
      · cases e
    · cases e
  · cases e
theorem s_down {e : Expr} {te : TE} {fa : Fe} {k0 k : Nat} {p0 p1 p2 p3 pos : Pos} (he : PE X e te) (sa : SoundE X.K fa te) :
    ∃ t, PE X (.Subscript e (.Slice none (some (.Constant (.int 0) k0 p0)) (some (.UnaryOp .USub (.Constant (.int 1) k p1) p2)) p3) pos) t ∧ SoundE X.K (slcF slmR fa noO (someO (litF (.int 0)))) t := by
  refine ⟨_, pe_down he, ?_⟩
  intro z σ F H Q r z4 S e1 q
  unfold slcF noO someO litF toI at e1
  simp only at e1
  split at e1
  · rename_i r1 z1 e2
    split at e1
    · rename_i x ex
      obtain ⟨w, hw, h2⟩ := Option.map_eq_some_iff.mp e1
      cases h2
      refine sa z σ F H _ _ _ S e2 fun v F1 H1 m1 ok1 fr1 => ?_
      exact ⟨F1, x, r, m1.sim.sub, view_ok m1.sim ok1 ex, hw, after_of S m1 q⟩
    · cases e1
  · cases e1
end
end TW
end

section
/-! Statements, construct by construct. -/
namespace TW
open PySem PySem.Spec PyProof.Rows L2

/-- where a def stands: as its arguments, vs their values, F0 H0 the heap at the entry -/
structure At (K : PySem.W.Frag) (as : List Rv) (vs : List V) (F0 H0 : Hp) (z : En) (σ : Sl) (F H : Hp) : Prop where
  sim : Sim K z σ F H
  step : Step (Own (as.map some) (vs.map some)) F0 H0 F H
  ows : ∀ a, Own z σ a → Own (as.map some) (vs.map some) a ∨ H0 a = none
  arg : ∀ (i : Nat) (r : Rv) (v : V), as[i]? = some r → own r = true → vs[i]? = some v → lent r = true ∧ σ[i]? = some (some v) ∧ ∃ r' : Rv, z[i]? = some (some r') ∧ RvS (some r) (some r')
  nn : as.length ≤ z.length
section
variable {K : PySem.W.Frag} {as : List Rv} {vs : List V} {F0 H0 : Hp} {z z1 z2 : En} {σ : Sl} {F H F1 H1 F2 H2 : Hp} {r : Res} {v : V}
theorem lent_S {r r' : Rv} (l : lent r = true) (h : RvS (some r) (some r')) : own r' = true ∧ lent r' = true := by
  cases h with
  | refl => cases r <;> simp_all [lent, own]
  | ol xs ys b => exact ⟨rfl, l⟩
  | od t xs ys b => exact ⟨rfl, l⟩
  | fz => cases l
theorem map_some {α : Type} {l : List α} {i : Nat} {x : α} (h : (l.map some)[i]? = some (some x)) : l[i]? = some x := by
  rw [List.getElem?_map] at h
  cases e : l[i]? with
  | none => rw [e] at h; cases h
  | some y => rw [e] at h; cases h; rfl
theorem At.was (A : At K as vs F0 H0 z σ F H) {a : Addr} (e : H a = none) : H0 a = none := by
  cases h : H0 a with
  | none => rfl
  | some o =>
    by_cases b : Own (as.map some) (vs.map some) a
    · obtain ⟨i, r, e1, o1, e2⟩ := b
      obtain ⟨l, s1, r', s2, s3⟩ := A.arg i r _ (map_some e1) o1 (map_some e2)
      obtain ⟨o2, _⟩ := lent_S l s3
      have := (A.sim.own ⟨i, r', s2, o2, s1⟩).2.1
      rw [e] at this
      obtain ⟨_, q⟩ := this
      cases q
    · rw [A.step.keep a o h b] at e; cases e
theorem At.mid (A : At K as vs F0 H0 z σ F H) (m : Mid K z σ F H z1 F1 H1) : At K as vs F0 H0 z1 σ F1 H1 := by
  refine ⟨m.sim, A.step.trans m.step A.ows, fun a o => A.ows a (m.shr.Own o), fun i r v e o ev => ?_, by rw [← m.shr.1]; exact A.nn⟩
  obtain ⟨l, s1, r', s2, s3⟩ := A.arg i r v e o ev
  obtain ⟨r1, e1, k⟩ := m.shr.2 i _ s2
  have k2 := s3.trans k
  cases r1 with
  | some r1 => exact ⟨l, s1, r1, e1, k2⟩
  | none =>
    exfalso
    cases k2
/-- one value is kept -/
theorem keep1_ok (S0 : Sim K z σ F0 H0) (m : Mid K z σ F0 H0 z1 F H) (h : ResOk K z1 σ F H r v) (fr : fresh r = true → ∀ a, v = .ref a → H0 a = none) {x : Rv} (e : keep1 z1 r = some (x, z2)) :
    ∃ F1, Mid K z σ F0 H0 z2 F1 H ∧ RvOk K F1 H x v ∧ own x = fresh r ∧ lent x = false ∧ Same F F1 ∧ Shr z1 z2 ∧ ∀ a, F1 a ≠ none → F a ≠ none ∨ H0 a ≠ none := by
  have other : fresh r = false → (match frz z1 r with | some (x, σ1) => some (Rv.d x, σ1) | none => none) = some (x, z2) → ∃ F1, Mid K z σ F0 H0 z2 F1 H ∧ RvOk K F1 H x v ∧ own x = fresh r ∧ lent x = false ∧ Same F F1 ∧ Shr z1 z2 ∧ ∀ a, F1 a ≠ none → F a ≠ none ∨ H0 a ≠ none := fun f e => by
    split at e
    · rename_i y z' e1
      cases e
      obtain ⟨F1, m1, h1, s1, sh, nw⟩ := frz_ok S0 m h fr e1
      refine ⟨F1, m1, h1, by rw [f]; rfl, rfl, s1, sh, fun a q => ?_⟩
      rcases nw a q with w | w
      · exact .inl w
      · subst w
        cases r with
        | d y =>
          obtain ⟨o', q5⟩ := Rep.at h
          exact .inl (by rw [q5]; simp)
        | al i =>
          obtain ⟨g1, rr, g2, g3⟩ := h
          cases ho : own rr with
          | true =>
            obtain ⟨x, hx⟩ := (S0.own (m.shr.Own ⟨i, rr, g2, ho, g1⟩)).2.1
            exact .inr (by rw [hx]; simp)
          | false =>
            obtain ⟨w, k1, k2⟩ := m.sim.slot i rr g2
            rw [g1] at k1
            cases k1
            cases rr with
            | d y =>
              obtain ⟨o', q5⟩ := Rep.at k2
              exact .inl (by rw [q5]; simp)
            | sc => cases g3
            | ol => cases ho
            | od => cases ho
        | sc => simp [frz] at e1
        | fl => cases f
        | fd => cases f
    · cases e
  cases r with
  | fl xs =>
    cases e
    exact ⟨F, m, h, rfl, rfl, Same.refl _, Shr.refl _, fun a q => .inl q⟩
  | fd t kvs =>
    cases e
    exact ⟨F, m, h, rfl, rfl, Same.refl _, Shr.refl _, fun a q => .inl q⟩
  | d x => exact other rfl e
  | al i => exact other rfl e
  | sc ns => exact other rfl e
/-- values that are to be kept -/
def KsOk (K : PySem.W.Frag) (H0 F H : Hp) : List Rv → List V → Prop
  | [], [] => True
  | r :: rs, v :: vs => RvOk K F H r v ∧ lent r = false ∧ (own r = true → ∀ a, v = .ref a → H0 a = none ∧ ∀ (j : Nat) r', rs[j]? = some r' → own r' = true → vs[j]? ≠ some (.ref a)) ∧ KsOk K H0 F H rs vs
  | _, _ => False
theorem KsOk.length : ∀ {rs : List Rv} {vs : List V}, KsOk K H0 F H rs vs → rs.length = vs.length
  | [], [], _ => rfl
  | r :: rs, v :: vs, h => by simp [KsOk.length h.2.2.2]
  | [], _ :: _, h => h.elim
  | _ :: _, [], h => h.elim
theorem KsOk.back {H0' : Hp} (k : ∀ a, H0 a = none → H0' a = none) : ∀ {rs : List Rv} {vs : List V}, KsOk K H0 F H rs vs → KsOk K H0' F H rs vs
  | [], [], _ => True.intro
  | r :: rs, v :: vs, h => ⟨h.1, h.2.1, fun f a e => ⟨k a (h.2.2.1 f a e).1, (h.2.2.1 f a e).2⟩, KsOk.back k h.2.2.2⟩
  | [], _ :: _, h => h.elim
  | _ :: _, [], h => h.elim
theorem keeps_ok (S0 : Sim K z σ F0 H0) : ∀ {rs : List Res} {vs : List V} {z1 z2 : En} {F H : Hp} {xs : List Rv}, Mid K z σ F0 H0 z1 F H → RsOk K z1 σ H0 F H rs vs → keeps z1 rs = some (xs, z2) →
    ∃ F1, Mid K z σ F0 H0 z2 F1 H ∧ KsOk K H0 F1 H xs vs ∧ Same F F1 ∧ Shr z1 z2 ∧ (∀ a, F1 a ≠ none → F a ≠ none ∨ H0 a ≠ none) ∧ ∀ (j : Nat) (r' : Rv), xs[j]? = some r' → own r' = true → ∃ r, rs[j]? = some r ∧ fresh r = true
  | [], [], z1, z2, F, H, xs, m, _, e => by
    cases e
    exact ⟨F, m, True.intro, Same.refl _, Shr.refl _, fun a q => .inl q, fun j r' e => by simp at e⟩
  | r :: rs, v :: vs, z1, z2, F, H, xs, m, h, e => by
    simp only [keeps] at e
    split at e
    · rename_i x z1' e1
      split at e
      · rename_i ys z2' e2
        cases e
        obtain ⟨F1, m1, h1, ow, ln, sm1, sh1, nw⟩ := keep1_ok S0 m h.1 (fun f a ea => (h.2.1 f a ea).1) e1
        have h2 : RsOk K z1' σ H0 F1 H rs vs := h.2.2.keep sh1 sm1 (fun _ => rfl) fun j r' a q1 q2 q3 q4 => by
          cases q : F1 a with
          | none => rfl
          | some o =>
            rcases nw a (by rw [q]; simp) with w | w
            · exact absurd q4 w
            · exact absurd (h.2.2.fr q1 q2 q3) w
        obtain ⟨F2, m2, h3, sm2, sh2, nw2, fx⟩ := keeps_ok S0 m1 h2 e2
        refine ⟨F2, m2, ⟨h1.keep sm2 fun o a ea => ⟨?_, rfl⟩, ln, fun o a ea => ?_, h3⟩, sm1.trans sm2, sh1.trans sh2, fun a q => ?_, fun j r' e' o' => ?_⟩
        · subst ea
          rw [ow] at o
          have h0 := (h.2.1 o a rfl).1
          cases q : F2 a with
          | none => rfl
          | some o2 =>
            rcases nw2 a (by rw [q]; simp) with w | w
            · exact absurd (own_at h1 (by rw [ow]; exact o)).1 w
            · exact absurd h0 w
        · rw [ow] at o
          obtain ⟨g1, g2⟩ := h.2.1 o a ea
          refine ⟨g1, fun j r' e' o' => ?_⟩
          obtain ⟨r2, k1, k2⟩ := fx j r' e' o'
          exact g2 j r2 k1 k2
        · rcases nw2 a q with w | w
          · exact nw a w
          · exact .inr w
        · cases j with
          | zero =>
            simp at e'
            subst e'
            exact ⟨r, rfl, by rw [← ow]; exact o'⟩
          | succ j =>
            obtain ⟨r2, k1, k2⟩ := fx j r' (by simpa using e') o'
            exact ⟨r2, by simpa using k1, k2⟩
      · cases e
    · cases e
  | [], _ :: _, _, _, _, _, _, _, h, _ => h.elim
  | _ :: _, [], _, _, _, _, _, _, h, _ => h.elim
theorem put_some {i : Nat} {x : Rv} (e : put i x z = some z1) : z1 = z.set i (some x) ∧ ∃ r, z[i]? = some r ∧ (∀ r', r = some r' → lent r' = false) := by
  unfold put at e
  split at e
  · cases e
  · cases e
  · rename_i r h1 h2 hr
    cases e
    refine ⟨rfl, r, hr, fun r' e' => ?_⟩
    subst e'
    cases r' with
    | ol xs b =>
      cases b with
      | true => exact (h1 xs rfl).elim
      | false => rfl
    | od t xs b =>
      cases b with
      | true => exact (h2 t xs rfl).elim
      | false => rfl
    | _ => rfl
  · cases e
/-- a slot is bound: the value stands in no other slot as its own -/
theorem Sim.set (S : Sim K z σ F H) {i : Nat} {x : Rv} (h : RvOk K F H x v) (no : TW.own x = true → ∀ a, v = .ref a → ¬ Own z σ a) : Sim K (z.set i (some x)) (σ.set i (some v)) F H := by
  refine ⟨by simpa using S.len, fun j r e => ?_, fun j l r s a e1 e2 o1 o2 p1 p2 => ?_, S.sub⟩
  · by_cases hj : i = j
    · subst hj
      by_cases hi : i < z.length
      · rw [List.getElem?_set_self hi] at e
        cases e
        exact ⟨v, List.getElem?_set_self (by rw [← S.len]; exact hi), h⟩
      · rw [List.getElem?_eq_none (by simpa using hi)] at e
        cases e
    · rw [List.getElem?_set_ne hj] at e ⊢
      exact S.slot j r e
  · have back : ∀ {j : Nat} {r : Rv} {a : Addr}, i ≠ j → (z.set i (some x))[j]? = some (some r) → (σ.set i (some v))[j]? = some (some (V.ref a)) → z[j]? = some (some r) ∧ σ[j]? = some (some (V.ref a)) := fun hj e p => by
      rw [List.getElem?_set_ne hj] at e p
      exact ⟨e, p⟩
    have here : ∀ {r : Rv} {a : Addr}, (z.set i (some x))[i]? = some (some r) → (σ.set i (some v))[i]? = some (some (V.ref a)) → r = x ∧ v = .ref a := fun e p => by
      have hi : i < z.length := by
        have := (List.getElem?_eq_some_iff.mp e).1
        simpa using this
      rw [List.getElem?_set_self hi] at e
      rw [List.getElem?_set_self (by rw [← S.len]; exact hi)] at p
      cases e; cases p
      exact ⟨rfl, rfl⟩
    by_cases hj : i = j
    · subst hj
      obtain ⟨rfl, ev⟩ := here e1 p1
      by_cases hl : i = l
      · exact hl
      · obtain ⟨q1, q2⟩ := back hl e2 p2
        exact absurd ⟨l, s, q1, o2, q2⟩ (no o1 a ev)
    · obtain ⟨q1, q2⟩ := back hj e1 p1
      by_cases hl : i = l
      · subst hl
        obtain ⟨rfl, ev⟩ := here e2 p2
        exact absurd ⟨j, r, q1, o1, q2⟩ (no o2 a ev)
      · obtain ⟨q3, q4⟩ := back hl e2 p2
        exact S.apart j l r s a q1 q3 o1 o2 q2 q4
theorem Own.of_set {i : Nat} {x : Rv} {a : Addr} (o : Own (z.set i (some x)) (σ.set i (some v)) a) : Own z σ a ∨ (own x = true ∧ v = .ref a) := by
  obtain ⟨j, r, e, ow, p⟩ := o
  by_cases hj : i = j
  · subst hj
    have hi : i < z.length := by
      have := (List.getElem?_eq_some_iff.mp e).1
      simpa using this
    have hi2 : i < σ.length := by
      have := (List.getElem?_eq_some_iff.mp p).1
      simpa using this
    rw [List.getElem?_set_self hi] at e
    rw [List.getElem?_set_self hi2] at p
    cases e; cases p
    exact .inr ⟨ow, rfl⟩
  · rw [List.getElem?_set_ne hj] at e p
    exact .inl ⟨j, r, e, ow, p⟩
theorem At.put (A : At K as vs F0 H0 z σ F H) {i : Nat} {x : Rv} (h : RvOk K F H x v) (l : lent x = false) (no : own x = true → ∀ a, v = .ref a → H0 a = none ∧ ¬ Own z σ a) (e : put i x z = some z1) : At K as vs F0 H0 z1 (σ.set i (some v)) F H := by
  obtain ⟨rfl, r, hr, hl⟩ := put_some e
  refine ⟨A.sim.set h fun o a ea => (no o a ea).2, A.step, fun a o => ?_, fun j r' w e' o' ev => ?_, by rw [List.length_set]; exact A.nn⟩
  · rcases Own.of_set o with q | ⟨q1, q2⟩
    · exact A.ows a q
    · exact .inr (no q1 a q2).1
  · obtain ⟨l', s1, r2, s2, s3⟩ := A.arg j r' w e' o' ev
    have hj : i ≠ j := fun q => by
      subst q
      rw [hr] at s2
      cases s2
      have := (lent_S l' s3).2
      rw [hl r2 rfl] at this
      cases this
    exact ⟨l', by rw [List.getElem?_set_ne hj]; exact s1, r2, by rw [List.getElem?_set_ne hj]; exact s2, s3⟩
/-- slots are bound, one behind another -/
def setV : List Nat → List V → Sl → Sl
  | i :: is, v :: vs, σ => setV is vs (σ.set i (some v))
  | _, _, σ => σ
theorem At.puts : ∀ {is : List Nat} {xs : List Rv} {ws : List V} {z z1 : En} {σ : Sl}, At K as vs F0 H0 z σ F H → KsOk K H1 F H xs ws → (∀ a, H1 a = none → H0 a = none) → (∀ (j : Nat) (r' : Rv) a, xs[j]? = some r' → own r' = true → ws[j]? = some (.ref a) → ¬ Own z σ a) → puts is xs z = some z1 → At K as vs F0 H0 z1 (setV is ws σ) F H
  | [], [], [], z, z1, σ, A, _, _, _, e => by cases e; exact A
  | i :: is, x :: xs, v :: ws, z, z1, σ, A, h, k, no, e => by
    simp only [TW.puts] at e
    split at e
    · rename_i z' e1
      have A1 : At K as vs F0 H0 z' (σ.set i (some v)) F H := A.put h.1 h.2.1 (fun o a ea => ⟨k a (h.2.2.1 o a ea).1, no 0 x a rfl o (by rw [ea]; rfl)⟩) e1
      show At K as vs F0 H0 z1 (setV is ws (σ.set i (some v))) F H
      refine At.puts A1 h.2.2.2 k (fun j r' a e' o' ev ow => ?_) e
      obtain ⟨rfl, _⟩ := put_some e1
      rcases Own.of_set ow with q | ⟨q1, q2⟩
      · exact no (j + 1) r' a (by simpa using e') o' (by simpa using ev) q
      · exact (h.2.2.1 q1 a q2).2 j r' e' o' ev
    · cases e
  | [], _ :: _, _, _, _, _, _, _, _, _, e => by cases e
  | _ :: _, [], _, _, _, _, _, _, _, _, e => by cases e
  | [], [], _ :: _, _, _, _, _, h, _, _, _ => h.elim
  | _ :: _, _ :: _, [], _, _, _, _, h, _, _, _ => h.elim
theorem puts_length : ∀ {is : List Nat} {xs : List Rv} {z z1 : En}, puts is xs z = some z1 → xs.length = is.length
  | [], [], _, _, _ => rfl
  | i :: is, x :: xs, z, z1, e => by
    simp only [TW.puts] at e
    split at e
    · simp only [List.length_cons]
      exact congrArg Nat.succ (puts_length e)
    · cases e
  | [], _ :: _, _, _, e => by cases e
  | _ :: _, [], _, _, e => by cases e
/-- how an end lies -/
def Got (K : PySem.W.Frag) (as : List Rv) (vs : List V) (F0 H0 : Hp) (D : Ends) (Fs : Hp) : TW.Flow → En → Prop
  | .nx, z => ∀ σ F H, At K as vs F0 H0 z σ F H → Same Fs F → D.nx σ H
  | .brk, z => ∀ σ F H, At K as vs F0 H0 z σ F H → Same Fs F → D.bk σ H
  | .cnt, z => ∀ σ F H, At K as vs F0 H0 z σ F H → Same Fs F → D.ct σ H
  | .ret r, z => ∀ v σ F H, At K as vs F0 H0 z σ F H → Same Fs F → ResOk K z σ F H r v → (fresh r = true → ∀ a, v = .ref a → H0 a = none) → D.rt v H
end
theorem Got.from {K : PySem.W.Frag} {as : List Rv} {vs : List V} {F0 H0 : Hp} {D : Ends} {F F1 : Hp} {fl : TW.Flow} {z : En} (q : Got K as vs F0 H0 D F fl z) (s : Same F F1) : Got K as vs F0 H0 D F1 fl z := by
  cases fl with
  | nx => exact fun σ F H A s' => q σ F H A (s.trans s')
  | brk => exact fun σ F H A s' => q σ F H A (s.trans s')
  | cnt => exact fun σ F H A s' => q σ F H A (s.trans s')
  | ret r => exact fun v σ F H A s' => q v σ F H A (s.trans s')
def SoundS (K : PySem.W.Frag) (as : List Rv) (vs : List V) (F0 H0 : Hp) (f : Fs) (t : TS) : Prop :=
  ∀ (z : En) (σ : Sl) (F H : Hp) (D : Ends) (fl : TW.Flow) (z1 : En), At K as vs F0 H0 z σ F H → f z = some (fl, z1) → Got K as vs F0 H0 D F fl z1 → t D σ H
section
variable {X : Cx} {as : List Rv} {vs : List V} {F0 H0 : Hp}
theorem s_exp {e : Expr} {te : TE} {f : Fe} {pos : Pos} (he : PE X e te) (se : SoundE X.K f te) (hs : swapsWith e none pos.line X.env = pure false) : ∃ t, PS X (.Expr e pos) t ∧ SoundS X.K as vs F0 H0 (expF f) t := by
  refine ⟨_, ps_expr he hs, ?_⟩
  intro z σ F H D fl z1 A e q
  unfold expF at e
  split at e
  · rename_i r z' e1
    cases e
    exact se z σ F H _ _ _ A.sim e1 fun v F1 H1 m ok fr => q σ F1 H1 (A.mid m) m.step.same
  · cases e
theorem s_ret {e : Expr} {te : TE} {f : Fe} {pos : Pos} (he : PE X e te) (se : SoundE X.K f te) : ∃ t, PS X (.Return (some e) pos) t ∧ SoundS X.K as vs F0 H0 (retF f) t := by
  refine ⟨_, ps_ret he, ?_⟩
  intro z σ F H D fl z1 A e q
  unfold retF at e
  split at e
  · rename_i r z' e1
    cases e
    exact se z σ F H _ _ _ A.sim e1 fun v F1 H1 m ok fr => q v σ F1 H1 (A.mid m) m.step.same ok fun f a ea => A.was (fr f a ea)
  · cases e
theorem s_retN {pos : Pos} : ∃ t, PS X (.Return none pos) t ∧ SoundS X.K as vs F0 H0 (fun σ => some (.ret (.d .none), σ)) t := by
  refine ⟨_, ps_retN, ?_⟩
  intro z σ F H D fl z1 A e q
  cases e
  exact q .non σ F H A (Same.refl _) .non fun f => by cases f
theorem s_pss {pos : Pos} : ∃ t, PS X (.Pass pos) t ∧ SoundS X.K as vs F0 H0 (fun σ => some (.nx, σ)) t := by
  refine ⟨_, ps_pass, ?_⟩
  intro z σ F H D fl z1 A e q
  cases e
  exact q σ F H A (Same.refl _)
theorem s_brk {pos : Pos} : ∃ t, PS X (.Break pos) t ∧ SoundS X.K as vs F0 H0 (fun σ => some (.brk, σ)) t := by
  refine ⟨_, ps_break, ?_⟩
  intro z σ F H D fl z1 A e q
  cases e
  exact q σ F H A (Same.refl _)
theorem s_cnt {pos : Pos} : ∃ t, PS X (.Continue pos) t ∧ SoundS X.K as vs F0 H0 (fun σ => some (.cnt, σ)) t := by
  refine ⟨_, ps_continue, ?_⟩
  intro z σ F H D fl z1 A e q
  cases e
  exact q σ F H A (Same.refl _)
theorem s_rai {st : Stmt} : ∃ t, PS X st t ∧ SoundS X.K as vs F0 H0 (fun _ => none) t := by
  refine ⟨_, ps_never, ?_⟩
  intro z σ F H D fl z1 A e q
  cases e
theorem ss_nil : ∃ t, PSs X [] t ∧ SoundS X.K as vs F0 H0 (fun σ => some (.nx, σ)) t := by
  refine ⟨_, pss_nil, ?_⟩
  intro z σ F H D fl z1 A e q
  cases e
  exact q σ F H A (Same.refl _)
theorem ss_cons {s : Stmt} {ss : List Stmt} {t u : TS} {f g : Fs} (h1 : PS X s t) (s1 : SoundS X.K as vs F0 H0 f t) (h2 : PSs X ss u) (s2 : SoundS X.K as vs F0 H0 g u) : ∃ t, PSs X (s :: ss) t ∧ SoundS X.K as vs F0 H0 (seqS f g) t := by
  refine ⟨_, pss_cons h1 h2, ?_⟩
  intro z σ F H D fl z2 A e q
  unfold seqS at e
  split at e
  · rename_i z1 e1
    refine s1 z σ F H _ _ _ A e1 fun σ1 F1 H1 A1 sm => ?_
    exact s2 z1 σ1 F1 H1 D fl z2 A1 e (q.from sm)
  · rename_i hne
    refine s1 z σ F H _ _ _ A e ?_
    cases fl with
    | nx => exact (hne z2 e).elim
    | brk => exact q
    | cnt => exact q
    | ret r => exact q
theorem s_ite {c : Expr} {a b : List Stmt} {pos : Pos} {tt : TT} {ta tb : TS} {fc : Fe} {fa fb : Fs} (hc : L2.PT X c tt) (sc : SoundT X.K fc tt) (ha : PSs X a ta) (sa : SoundS X.K as vs F0 H0 fa ta) (hb : PSs X b tb) (sb : SoundS X.K as vs F0 H0 fb tb) :
    ∃ t, PS X (.If c a b pos) t ∧ SoundS X.K as vs F0 H0 (iteF fc fa fb) t := by
  refine ⟨_, ps_if hc ha hb, ?_⟩
  intro z σ F H D fl z2 A e q
  unfold iteF at e
  split at e
  · rename_i z1 e1
    refine sc z σ F H _ _ _ A.sim e1 fun F1 H1 m1 => ?_
    rw [if_pos rfl]
    exact sa z1 σ F1 H1 D fl z2 (A.mid m1) e (q.from m1.step.same)
  · rename_i z1 e1
    refine sc z σ F H _ _ _ A.sim e1 fun F1 H1 m1 => ?_
    rw [if_neg Bool.false_ne_true]
    exact sb z1 σ F1 H1 D fl z2 (A.mid m1) e (q.from m1.step.same)
  · cases e
/-- name = e: t stands for ps_set or ps_setLc -/
theorem s_asg {i : Nat} {te : TE} {f : Fe} {s : Stmt} (hp : PS X s (tAsg te (gName i))) (se : SoundE X.K f te) : ∃ t, PS X s t ∧ SoundS X.K as vs F0 H0 (asgF i f) t := by
  refine ⟨_, hp, ?_⟩
  intro z σ F H D fl z3 A e q
  unfold asgF at e
  split at e
  · rename_i r z1 e1
    split at e
    · rename_i x z2 e2
      obtain ⟨z', hz, h2⟩ := Option.map_eq_some_iff.mp e
      cases h2
      refine se z σ F H _ _ _ A.sim e1 fun v F1 H1 m ok fr => ?_
      obtain ⟨F2, m2, ro, ow, ln, _, _, _⟩ := keep1_ok A.sim m ok fr e2
      refine q _ F2 H1 ((A.mid m2).put ro ln (fun o a ea => ?_) hz) m2.step.same
      rw [ow] at o
      exact ⟨A.was (fr o a ea), fr_own A.sim m2 fr o a ea⟩
    · cases e
  · cases e
theorem asgM_run {is : List Nat} {ts : TA} {g : Fa} (ss : SoundA X.K g ts) {z z3 : En} {σ : Sl} {F H : Hp} {fl : TW.Flow} {D : Ends} (A : At X.K as vs F0 H0 z σ F H) (e : asgMF is g z = some (fl, z3)) (q : Got X.K as vs F0 H0 D F fl z3) :
    ts σ H fun ws H1 => ws.length = is.length ∧ D.nx (setV is ws σ) H1 := by
  unfold asgMF at e
  split at e
  · rename_i rs z1 e1
    split at e
    · rename_i xs z2 e2
      obtain ⟨z', hz, h2⟩ := Option.map_eq_some_iff.mp e
      cases h2
      refine ss z σ F H _ _ _ A.sim e1 fun ws F1 H1 m ok => ?_
      obtain ⟨F2, m2, ks, _, _, _, fx⟩ := keeps_ok A.sim m ok e2
      refine ⟨?_, q _ F2 H1 ((A.mid m2).puts ks (fun a h => A.was h) (fun j r' a e' o' ev ow => ?_) hz) m2.step.same⟩
      · rw [← ks.length]; exact puts_length hz
      · obtain ⟨r, k1, k2⟩ := fx j r' e' o'
        have h0 := ok.fr k1 k2 ev
        have := (A.sim.own (m2.shr.Own ow)).2.1
        rw [h0] at this
        obtain ⟨_, w⟩ := this
        cases w
    · cases e
  · cases e
end
end TW
end

section
/-! Targets, loops, comprehensions. -/
namespace TW
open PySem PySem.Spec PyProof.Rows L2

/-! ### targets -/
def tgs : Tg → List Nat
  | .nm i => [i]
  | .tp ts => tgs ts
  | .nil => []
  | .cons t ts => tgs t ++ tgs ts
structure Bnd (z : En) (σ : Sl) (z1 : En) (σ1 : Sl) (ws : List Nat) : Prop where
  ow : ∀ a, Own z1 σ1 a → Own z σ a
  ln : ∀ (i : Nat) (r : Rv), z[i]? = some (some r) → lent r = true → z1[i]? = some (some r) ∧ σ1[i]? = σ[i]?
  out : ∀ i : Nat, i ∉ ws → z1[i]? = z[i]? ∧ σ1[i]? = σ[i]?
  len : σ1.length = σ.length
theorem Bnd.refl {z : En} {σ : Sl} {ws : List Nat} : Bnd z σ z σ ws := ⟨fun _ o => o, fun _ _ e _ => ⟨e, rfl⟩, fun _ _ => ⟨rfl, rfl⟩, rfl⟩
theorem Bnd.trans {z z1 z2 : En} {σ σ1 σ2 : Sl} {ws us : List Nat} (a : Bnd z σ z1 σ1 ws) (b : Bnd z1 σ1 z2 σ2 us) : Bnd z σ z2 σ2 (ws ++ us) := by
  refine ⟨fun x o => a.ow x (b.ow x o), fun i r e l => ?_, fun i h => ?_, b.len.trans a.len⟩
  · obtain ⟨e1, e2⟩ := a.ln i r e l
    obtain ⟨e3, e4⟩ := b.ln i r e1 l
    exact ⟨e3, e4.trans e2⟩
  · have h1 : i ∉ ws := fun q => h (List.mem_append_left _ q)
    have h2 : i ∉ us := fun q => h (List.mem_append_right _ q)
    exact ⟨(b.out i h2).1.trans (a.out i h1).1, (b.out i h2).2.trans (a.out i h1).2⟩
section
variable {K : PySem.W.Frag} {as : List Rv} {vs : List V} {F0 H0 : Hp} {z z1 z2 : En} {σ σ1 : Sl} {F H F1 H1 F2 H2 : Hp} {r : Res} {v : V}
theorem At.bnd {ws : List Nat} (A : At K as vs F0 H0 z σ F H) (S : Sim K z1 σ1 F H) (b : Bnd z σ z1 σ1 ws) : At K as vs F0 H0 z1 σ1 F H := by
  refine ⟨S, A.step, fun a o => A.ows a (b.ow a o), fun i r v e o ev => ?_, by have h1 := S.len; have h2 := A.sim.len; have h3 := b.len; have h4 := A.nn; omega⟩
  obtain ⟨l, s1, r', s2, s3⟩ := A.arg i r v e o ev
  obtain ⟨e1, e2⟩ := b.ln i r' s2 (lent_S l s3).2
  exact ⟨l, e2.trans s1, r', e1, s3⟩
theorem put_bnd {i : Nat} {x : D} (S : Sim K z σ F H) (h : Rep F v x) (e : put i (.d x) z = some z1) : Sim K z1 (σ.set i (some v)) F H ∧ Bnd z σ z1 (σ.set i (some v)) [i] := by
  obtain ⟨rfl, r, hr, hl⟩ := put_some e
  refine ⟨S.set (x := .d x) h (fun o => by cases o), fun a o => ?_, fun j r' e' l => ?_, fun j hj => ?_, by simp⟩
  · rcases Own.of_set o with q | ⟨q, _⟩
    · exact q
    · cases q
  · have hj : i ≠ j := fun q => by
      subst q
      rw [hr] at e'
      cases e'
      rw [hl r' rfl] at l
      cases l
    exact ⟨by rw [List.getElem?_set_ne hj]; exact e', by rw [List.getElem?_set_ne hj]⟩
  · have hj : i ≠ j := fun q => hj (by rw [q]; simp)
    exact ⟨by rw [List.getElem?_set_ne hj], by rw [List.getElem?_set_ne hj]⟩
end
def SoundG (K : PySem.W.Frag) (p : Tg) (g : TG) : Prop :=
  ∀ (z : En) (σ : Sl) (F H : Hp) (v : V) (x : D) (z1 : En) (Q : Sl → Hp → Prop), Sim K z σ F H → Rep F v x → bindT p x z = some z1 → (∀ σ1, Sim K z1 σ1 F H → Bnd z σ z1 σ1 (tgs p) → Q σ1 H) → g v σ H Q
def SoundGs (K : PySem.W.Frag) (p : Tg) (g : TGs) : Prop :=
  ∀ (z : En) (σ : Sl) (F H : Hp) (vs : List V) (xs : List D) (z1 : En) (Q : Sl → Hp → Prop), Sim K z σ F H → RepL F vs xs → bindTs p xs z = some z1 → (∀ σ1, Sim K z1 σ1 F H → Bnd z σ z1 σ1 (tgs p) → Q σ1 H) → g vs σ H Q
theorem g_nm {K : PySem.W.Frag} {i : Nat} : SoundG K (.nm i) (gName i) := by
  intro z σ F H v x z1 Q S h e q
  obtain ⟨S1, b⟩ := put_bnd S h (by simpa [bindT] using e)
  exact q _ S1 b
theorem gs_nil {K : PySem.W.Frag} : SoundGs K .nil gNil := by
  intro z σ F H vs xs z1 Q S h e q
  cases h with
  | nil => simp only [bindTs] at e; cases e; exact ⟨rfl, q σ S Bnd.refl⟩
  | cons => simp [bindTs] at e
theorem gs_cons {K : PySem.W.Frag} {t ts : Tg} {g : TG} {gs : TGs} (hg : SoundG K t g) (hgs : SoundGs K ts gs) : SoundGs K (.cons t ts) (gCons g gs) := by
  intro z σ F H vs xs z2 Q S h e q
  cases h with
  | nil => simp [bindTs] at e
  | cons h r =>
    simp only [bindTs] at e
    split at e
    · rename_i z1 e1
      refine ⟨_, _, rfl, hg z σ F H _ _ z1 _ S h e1 fun σ1 S1 b1 => ?_⟩
      exact hgs z1 σ1 F H _ _ z2 _ S1 r e fun σ2 S2 b2 => q σ2 S2 (b1.trans b2)
    · cases e
def lenT : Tg → Nat
  | .cons _ ts => lenT ts + 1
  | _ => 0
theorem bindTs_len : ∀ {ts : Tg} {xs : List D} {z z1 : En}, bindTs ts xs z = some z1 → xs.length = lenT ts
  | .nil, [], _, _, _ => rfl
  | .cons t ts, x :: xs, z, z1, e => by
    simp only [bindTs] at e
    split at e
    · simp only [List.length_cons, lenT]
      rw [bindTs_len e]
    · cases e
  | .nil, _ :: _, _, _, e => by simp [bindTs] at e
  | .cons _ _, [], _, _, e => by simp [bindTs] at e
  | .nm _, xs, _, _, e => by cases xs <;> simp [bindTs] at e
  | .tp _, xs, _, _, e => by cases xs <;> simp [bindTs] at e
theorem g_tp {K : PySem.W.Frag} {ts : Tg} {gs : TGs} (hg : SoundGs K ts gs) : SoundG K (.tp ts) (gTup K (lenT ts) gs) := by
  intro z σ F H v x z1 Q S h e q
  cases h with
  | tup h r =>
    simp only [bindT] at e
    exact ⟨_, _, rfl, SqT.of (S.sub _ _ h), by rw [r.length]; exact bindTs_len e, hg z σ F H _ _ z1 _ S r e q⟩
  | _ => simp [bindT] at e
section
variable {X : Cx} {as : List Rv} {vs : List V} {F0 H0 : Hp}
/-- (a, b, ..) = e, the tuple made -/
theorem s_asgP {tg e : Expr} {te : TE} {f : Fe} {g : TG} {p : Tg} {pos : Pos} (he : PE X e te) (se : SoundE X.K f te) (hg : PG X tg g) (sg : SoundG X.K p g) (hs : swapsWithSole [tg] e pos.line X.env = pure false) (hw : swappedStores [tg] e X.env = pure none)
    (h1 : (assignEach [tg] X.env).map (·.2) = [assign tg X.env]) : ∃ t, PS X (.Assign [tg] e pos) t ∧ SoundS X.K as vs F0 H0 (asgPF p f) t := by
  refine ⟨_, ps_asg he hg hs hw h1, ?_⟩
  intro z σ F H D fl z3 A e q
  unfold asgPF at e
  split at e
  · rename_i r z1 e1
    split at e
    · rename_i x z2 e2
      obtain ⟨z', hz, h2⟩ := Option.map_eq_some_iff.mp e
      cases h2
      refine se z σ F H _ _ _ A.sim e1 fun v F1 H1 m ok fr => ?_
      obtain ⟨F2, m2, rp, _, _, _⟩ := frz_ok A.sim m ok fr e2
      exact sg z2 σ F2 H1 v x _ _ m2.sim rp hz fun σ1 S1 b => q σ1 F2 H1 ((A.mid m2).bnd S1 b) m2.step.same
    · cases e
  · cases e
theorem sls {i j : Nat} {v w : V} {σ : Sl} : setV [i, j] [v, w] σ = (σ.set i (some v)).set j (some w) := rfl
/-- a, b = x, y: no tuple is made -/
theorem s_asgM {i j : Nat} {s : Stmt} {ts : TA} {g : Fa} (hp : PS X s (tPar i j ts)) (ss : SoundA X.K g ts)
    (mono : ∀ σ H (Q Q' : List V → Hp → Prop), (∀ vs H1, Q vs H1 → Q' vs H1) → ts σ H Q → ts σ H Q') : ∃ t, PS X s t ∧ SoundS X.K as vs F0 H0 (asgMF [i, j] g) t := by
  refine ⟨_, hp, ?_⟩
  intro z σ F H D fl z3 A e q
  refine mono _ _ _ _ ?_ (asgM_run ss A e q)
  intro ws H1 h
  obtain ⟨h1, h2⟩ := h
  match ws, h1 with
  | [v, w], _ => exact ⟨v, w, rfl, h2⟩
theorem s_asgM3 {i j l : Nat} {s : Stmt} {ts : TA} {g : Fa} (hp : PS X s (tPar3 i j l ts)) (ss : SoundA X.K g ts)
    (mono : ∀ σ H (Q Q' : List V → Hp → Prop), (∀ vs H1, Q vs H1 → Q' vs H1) → ts σ H Q → ts σ H Q') : ∃ t, PS X s t ∧ SoundS X.K as vs F0 H0 (asgMF [i, j, l] g) t := by
  refine ⟨_, hp, ?_⟩
  intro z σ F H D fl z3 A e q
  refine mono _ _ _ _ ?_ (asgM_run ss A e q)
  intro ws H1 h
  obtain ⟨h1, h2⟩ := h
  match ws, h1 with
  | [u, v, w], _ => exact ⟨u, v, w, rfl, h2⟩
end
/-! ### what is walked -/
def YRep (F : Hp) (xs : List D) : Nat → Hp → V → Hp → Prop := fun i H x H' => ∃ y, xs[i]? = some y ∧ ∀ Fi, Same F Fi → Same Fi H → ∃ F', Step N0 Fi H F' H' ∧ Rep F' x y
def ItOk (F : Hp) (J : It) (xs : List D) : Prop := Walk J xs.length (fun H => Same F H) (YRep F xs)
def SoundI (K : PySem.W.Frag) (f : Fi) (wi : TI) : Prop :=
  ∀ (z : En) (σ : Sl) (F H : Hp) (R : It → Hp → Prop) (xs : List D) (z1 : En), Sim K z σ F H → f z = some (xs, z1) → (∀ J F1 H1, Mid K z σ F H z1 F1 H1 → ItOk F1 J xs → R J H1) → wi σ H R
def iSeq (K : PySem.W.Frag) (tl : TE) : TI := fun σ H R => tl σ H fun x H1 => ∃ a, x = .ref a ∧ (((∃ xs, SqL K H1 a xs) ∧ R (Itl K a) H1) ∨ ((∃ xs, SqT K H1 a xs) ∧ R (Itt K a) H1))
section
variable {X : Cx} {tg : Expr}
theorem pi_seq {l : Expr} {tl : TE} (hl : PE X l tl) : PI X tg l (iSeq X.K tl) := by
  refine ⟨fun pins s σ H R I h => ?_⟩
  refine thn (hl.run pins s σ H _ I h) fun v s1 ⟨x, H1, I1, r1, q1⟩ => ?_
  obtain ⟨a, e, ⟨⟨xs, hq⟩, q⟩ | ⟨⟨xs, hq⟩, q⟩⟩ := q1
  · subst e
    cases r1
    obtain ⟨its, rv, p, hz⟩ := I1.list hq
    refine wpAny_pyIter_list p.isList ?_
    refine ⟨s1.heap.objs.size, [s1.heap.objs.size], _, _, H1, rfl, I1.kept (t' := s1.toks) fun b o e => Heap.get?_push_of_some _ e, turn_list a _, ⟨_, Heap.get?_push_size _ rfl, rfl, rfl⟩, fun b hb => ?_, q⟩
    obtain rfl := List.mem_singleton.mp hb
    exact (I1.fpOk (Nat.le_refl _) (I1.hok.fresh (Nat.le_refl _)))
  · subst e
    cases r1
    obtain ⟨its, rv, p, hz⟩ := I1.tuple hq
    refine wpAny_pyIter_tuple (show s1.heap.IsTuple a its.toArray from p) ?_
    refine ⟨s1.heap.objs.size, [s1.heap.objs.size], _, _, H1, rfl, I1.kept (t' := s1.toks) fun b o e => Heap.get?_push_of_some _ e, turn_tuple a _, ⟨_, Heap.get?_push_size _ rfl, rfl, rfl⟩, fun b hb => ?_, q⟩
    obtain rfl := List.mem_singleton.mp hb
    exact (I1.fpOk (Nat.le_refl _) (I1.hok.fresh (Nat.le_refl _)))
theorem yrep_at {F : Hp} {vs : List V} {xs : List D} (h : RepL F vs xs) {i : Nat} {H : Hp} {x : V} {H' : Hp} (y : YAt vs i H x H') : YRep F xs i H x H' := by
  obtain ⟨rfl, e⟩ := y
  obtain ⟨d, h1, h2⟩ := h.get' e
  exact ⟨d, h1, fun Fi s1 s2 => ⟨Fi, Step.refl s2, h2.mono s1⟩⟩
theorem i_seq {f : Fe} {te : TE} (se : SoundE X.K f te) : SoundI X.K (seqF f) (iSeq X.K te) := by
  intro z σ F H R xs z2 S e q
  unfold seqF at e
  split at e
  · rename_i r z1 e1
    split at e
    · rename_i ys z2' e2
      cases e
      refine se z σ F H _ _ _ S e1 fun v F1 H1 m ok fr => ?_
      obtain ⟨F2, m2, rp, _⟩ := frz_ok S m ok fr e2
      cases rp with
      | lst h rl =>
        refine ⟨_, rfl, .inl ⟨⟨_, SqL.of (m2.sim.sub _ _ h)⟩, q _ F2 H1 m2 ?_⟩⟩
        have w := walk_list (K := X.K) (a := ‹Addr›) (xs := ‹List V›)
        rw [rl.length] at w
        exact w.mono (fun H' s => SqL.of (s _ _ h)) fun i H x H' _ _ y => yrep_at rl y
    · rename_i ys z2' e2
      cases e
      refine se z σ F H _ _ _ S e1 fun v F1 H1 m ok fr => ?_
      obtain ⟨F2, m2, rp, _⟩ := frz_ok S m ok fr e2
      cases rp with
      | tup h rl =>
        refine ⟨_, rfl, .inr ⟨⟨_, SqT.of (m2.sim.sub _ _ h)⟩, q _ F2 H1 m2 ?_⟩⟩
        have w := walk_tup (K := X.K) (a := ‹Addr›) (xs := ‹List V›)
        rw [rl.length] at w
        exact w.mono (fun H' s => SqT.of (s _ _ h)) fun i H x H' _ _ y => yrep_at rl y
    · cases e
  · cases e
theorem rng_ok {F : Hp} {a b : Int} : ItOk F (Itr a (b - a).toNat) (rngI a b) := by
  have e : (rngI a b).length = (b - a).toNat := by simp [rngI]
  unfold ItOk
  rw [e]
  refine walk_range.mono (fun _ _ => True.intro) fun i H x H' hi _ y => ?_
  obtain ⟨rfl, rfl⟩ := y
  exact ⟨.int (a + (i : Nat)), by simp [rngI, hi], fun Fi s1 s2 => ⟨Fi, Step.refl s2, .int _⟩⟩
theorem b62_ok {a : Int} (h : b62 a = true) : -(2 ^ 62) ≤ a ∧ a < 2 ^ 62 := by
  unfold b62 at h
  have := of_decide_eq_true h
  omega
theorem i_rng1 {g : Fa} {ta : TA} (sa : SoundA X.K g ta) (h1 : ∀ z rs z1, g z = some (rs, z1) → rs.length = 1) : SoundI X.K (rngF g) (iRng1 ta) := by
  intro z σ F H R xs z2 S e q
  unfold rngF at e
  split at e
  · rename_i a z1 e1
    split at e
    · rename_i hb
      cases e
      refine sa z σ F H _ _ _ S e1 fun ws F1 H1 m ok => ?_
      match ws, ok with
      | [w], ok =>
        have k : Rep F1 w (.int a) := ok.1
        cases k
        obtain ⟨b1, b2⟩ := b62_ok hb
        refine ⟨a, rfl, b1, b2, q _ F1 H1 m ?_⟩
        have := rng_ok (F := F1) (a := 0) (b := a)
        rwa [show a - 0 = a by omega] at this
      | [], ok => exact ok.elim
      | _ :: _ :: _, ok => exact ok.2.2.elim
    · cases e
  · rename_i a b z1 e1
    have := h1 _ _ _ e1
    simp at this
  · cases e
theorem i_rng2 {g : Fa} {ta : TA} (sa : SoundA X.K g ta) (h2 : ∀ z rs z1, g z = some (rs, z1) → rs.length = 2) : SoundI X.K (rngF g) (iRng2 ta) := by
  intro z σ F H R xs z2 S e q
  unfold rngF at e
  split at e
  · rename_i a z1 e1
    have := h2 _ _ _ e1
    simp at this
  · rename_i a b z1 e1
    split at e
    · rename_i hb
      cases e
      refine sa z σ F H _ _ _ S e1 fun ws F1 H1 m ok => ?_
      match ws, ok with
      | [w, u], ok =>
        have k1 : Rep F1 w (.int a) := ok.1
        have k2 : Rep F1 u (.int b) := ok.2.2.1
        cases k1; cases k2
        obtain ⟨b1, b2⟩ := b62_ok hb.1
        obtain ⟨b3, b4⟩ := b62_ok hb.2
        exact ⟨a, b, rfl, ⟨b1, b2, b3, b4⟩, q _ F1 H1 m rng_ok⟩
      | [], ok => exact ok.elim
      | [_], ok => exact ok.2.2.elim
      | _ :: _ :: _ :: _, ok => exact ok.2.2.2.2.elim
    · cases e
  · cases e
end
/-! ### for, while -/
section
variable {X : Cx} {as : List Rv} {vs : List V} {F0 H0 : Hp}
theorem At.step0 {K : PySem.W.Frag} {z : En} {σ : Sl} {F H F' H' : Hp} (A : At K as vs F0 H0 z σ F H) (t : Step N0 F H F' H') : At K as vs F0 H0 z σ F' H' := A.mid ((Mid.refl A.sim).step0 t)
theorem drop_get {α : Type} {xs : List α} {i : Nat} {y : α} (h : xs[i]? = some y) : xs.drop i = y :: xs.drop (i + 1) := by
  obtain ⟨h1, h2⟩ := List.getElem?_eq_some_iff.mp h
  rw [List.drop_eq_getElem_cons h1, h2]
theorem s_for {tg iter : Expr} {body : List Stmt} {wi : TI} {g : TG} {tb : TS} {pos : Pos} {f : Fi} {p : Tg} {b : Fs} (hp : PassesOwn (model X.prog X.w) X.A X.env X.xe) (hc : X.calm = true) (hi : PI X tg iter wi) (si : SoundI X.K f wi) (hg : PG X tg g) (sg : SoundG X.K p g) (hb : PSs X body tb) (sb : SoundS X.K as vs F0 H0 b tb)
    (hs : ∀ x, foldedSetIterable iter X.env x = pure x) : ∃ t, PS X (.For tg iter body [] pos) t ∧ SoundS X.K as vs F0 H0 (forF p f b) t := by
  refine ⟨_, ps_for hp hc hi hg hb hs, ?_⟩
  intro z σ F H D fl ze A e q
  unfold forF at e
  split at e
  · rename_i xs z1 e1
    refine si z σ F H _ xs z1 A.sim e1 fun J F1 H1 m it => ?_
    refine for_it it (fun i σ' H' => ∃ zi Fi, At X.K as vs F0 H0 zi σ' Fi H' ∧ Same F1 Fi ∧ forL b p (xs.drop i) zi = some (fl, ze)) ⟨z1, F1, A.mid m, Same.refl _, by rw [List.drop_zero]; exact e⟩ (fun i σ' H' _ ⟨zi, Fi, a1, a2, _⟩ => a2.trans a1.sim.sub) ?_ ?_
    · rintro i x σi Hi H' hlt ⟨zi, Fi, a1, a2, a3⟩ ⟨y, hy, st⟩
      obtain ⟨F', t, rp⟩ := st Fi a2 a1.sim.sub
      rw [drop_get hy] at a3
      simp only [forL] at a3
      split at a3
      · rename_i z2 e2
        have A1 := a1.step0 t
        refine sg zi σi F' H' x y z2 _ A1.sim rp e2 fun σ2 S2 b2 => ?_
        have A2 := A1.bnd S2 b2
        have sF : Same F1 F' := a2.trans t.same
        split at a3
        · rename_i z3 e3
          exact sb z2 σ2 F' H' _ .nx z3 A2 e3 fun σ3 F3 H3 A3 s3 => ⟨z3, F3, A3, sF.trans s3, a3⟩
        · rename_i z3 e3
          exact sb z2 σ2 F' H' _ .cnt z3 A2 e3 fun σ3 F3 H3 A3 s3 => ⟨z3, F3, A3, sF.trans s3, a3⟩
        · rename_i z3 e3
          cases a3
          exact sb z2 σ2 F' H' _ .brk _ A2 e3 fun σ3 F3 H3 A3 s3 => q σ3 F3 H3 A3 ((m.step.same.trans sF).trans s3)
        · rename_i h1 h2 h3
          refine sb z2 σ2 F' H' _ fl ze A2 a3 ?_
          cases fl with
          | nx => exact (h1 _ a3).elim
          | cnt => exact (h2 _ a3).elim
          | brk => exact (h3 _ a3).elim
          | ret r => exact fun v σ3 F3 H3 A3 s3 => q v σ3 F3 H3 A3 ((m.step.same.trans sF).trans s3)
      · cases a3
    · rintro σ' H' ⟨zi, Fi, a1, a2, a3⟩
      rw [List.drop_length] at a3
      simp only [forL] at a3
      cases a3
      exact q σ' Fi H' a1 (m.step.same.trans a2)
  · cases e
theorem s_whl {c : Expr} {body : List Stmt} {tt : TT} {tb : TS} {pos : Pos} {fc : Fe} {b : Fs} {N : Nat} (hp : PassesOwn (model X.prog X.w) X.A X.env X.xe) (hc : L2.PT X c tt) (sc : SoundT X.K fc tt) (hb : PSs X body tb) (sb : SoundS X.K as vs F0 H0 b tb) :
    ∃ t, PS X (.While c body [] pos) t ∧ SoundS X.K as vs F0 H0 (whlL (fun s => toB (fc s)) b N) t := by
  refine ⟨_, ps_while hp hc hb, ?_⟩
  intro z σ F H D fl ze A e q
  refine ⟨fun m σ' H' => ∃ zi Fi, At X.K as vs F0 H0 zi σ' Fi H' ∧ Same F Fi ∧ whlL (fun s => toB (fc s)) b m zi = some (fl, ze), ⟨N, z, F, A, Same.refl _, e⟩, ?_⟩
  rintro m σi Hi ⟨zi, Fi, a1, a2, a3⟩
  cases m with
  | zero => cases a3
  | succ n =>
    simp only [whlL] at a3
    split at a3
    · rename_i z1 e1
      refine sc zi σi Fi Hi _ _ _ a1.sim e1 fun F1 H1 m1 => ?_
      rw [if_pos rfl]
      refine ⟨fun σ' H' => ∃ zi Fi, At X.K as vs F0 H0 zi σ' Fi H' ∧ Same F Fi ∧ whlL (fun s => toB (fc s)) b n zi = some (fl, ze), fun σ' H' h => ⟨n, Nat.lt_succ_self n, h⟩, ?_⟩
      have A1 := a1.mid m1
      have sF := a2.trans m1.step.same
      split at a3
      · rename_i z2 e2
        exact sb z1 σi F1 H1 _ .nx z2 A1 e2 fun σ3 F3 H3 A3 s3 => ⟨z2, F3, A3, sF.trans s3, a3⟩
      · rename_i z2 e2
        exact sb z1 σi F1 H1 _ .cnt z2 A1 e2 fun σ3 F3 H3 A3 s3 => ⟨z2, F3, A3, sF.trans s3, a3⟩
      · rename_i z2 e2
        cases a3
        exact sb z1 σi F1 H1 _ .brk _ A1 e2 fun σ3 F3 H3 A3 s3 => q σ3 F3 H3 A3 (sF.trans s3)
      · rename_i h1 h2 h3
        refine sb z1 σi F1 H1 _ fl ze A1 a3 ?_
        cases fl with
        | nx => exact (h1 _ a3).elim
        | cnt => exact (h2 _ a3).elim
        | brk => exact (h3 _ a3).elim
        | ret r => exact fun v σ3 F3 H3 A3 s3 => q v σ3 F3 H3 A3 (sF.trans s3)
    · rename_i z1 e1
      cases a3
      refine sc zi σi Fi Hi _ _ _ a1.sim e1 fun F1 H1 m1 => ?_
      rw [if_neg Bool.false_ne_true]
      exact q σi F1 H1 (a1.mid m1) (a2.trans m1.step.same)
    · cases a3
end
end TW
end

section
/-! List comprehensions. -/
namespace TW
open PySem PySem.Spec PyProof.Rows L2

theorem zwipe_length (z : En) : ∀ ws : List Nat, (TW.wipe z ws).length = z.length
  | [] => rfl
  | v :: vs => by unfold TW.wipe; rw [List.length_set, zwipe_length z vs]
theorem zwipe_out {z : En} {i : Nat} : ∀ {ws : List Nat}, i ∉ ws → (TW.wipe z ws)[i]? = z[i]?
  | [], _ => rfl
  | v :: vs, h => by
    simp only [List.mem_cons, not_or] at h
    unfold TW.wipe
    rw [List.getElem?_set_ne (Ne.symm h.1), zwipe_out h.2]
theorem zwipe_in {z : En} {i : Nat} : ∀ {ws : List Nat}, i ∈ ws → i < z.length → (TW.wipe z ws)[i]? = some none
  | v :: vs, h, hl => by
    unfold TW.wipe
    by_cases hv : v = i
    · subst hv
      rw [List.getElem?_set_self (by rw [zwipe_length]; exact hl)]
    · rw [List.getElem?_set_ne hv]
      rcases List.mem_cons.mp h with q | q
      · exact absurd q.symm hv
      · exact zwipe_in q hl
theorem zwipe_some {z : En} {i : Nat} {r : Rv} {ws : List Nat} (h : (TW.wipe z ws)[i]? = some (some r)) : z[i]? = some (some r) ∧ i ∉ ws := by
  by_cases hi : i ∈ ws
  · by_cases hl : i < z.length
    · rw [zwipe_in hi hl] at h; cases h
    · rw [List.getElem?_eq_none (by rw [zwipe_length]; omega)] at h; cases h
  · exact ⟨by rw [← zwipe_out hi]; exact h, hi⟩
theorem swipe_out {z : Sl} {i : Nat} : ∀ {ws : List Nat}, i ∉ ws → (L2.wipe z ws)[i]? = z[i]?
  | [], _ => rfl
  | v :: vs, h => by
    simp only [List.mem_cons, not_or] at h
    unfold L2.wipe
    rw [List.getElem?_set_ne (Ne.symm h.1), swipe_out h.2]
theorem swipe_in {z : Sl} {i : Nat} : ∀ {ws : List Nat}, i ∈ ws → i < z.length → (L2.wipe z ws)[i]? = some none
  | v :: vs, h, hl => by
    unfold L2.wipe
    by_cases hv : v = i
    · subst hv
      rw [List.getElem?_set_self (by rw [L2.wipe_length]; exact hl)]
    · rw [List.getElem?_set_ne hv]
      rcases List.mem_cons.mp h with q | q
      · exact absurd q.symm hv
      · exact swipe_in q hl
theorem swipe_eq {σ σ2 : Sl} {ws : List Nat} (hl : σ2.length = σ.length) (h : ∀ i : Nat, i ∉ ws → σ2[i]? = (L2.wipe σ ws)[i]?) : L2.wipe σ2 ws = L2.wipe σ ws := by
  apply List.ext_getElem?
  intro i
  by_cases hi : i ∈ ws
  · by_cases hk : i < σ.length
    · rw [swipe_in hi hk, swipe_in hi (by rw [hl]; exact hk)]
    · rw [List.getElem?_eq_none (by rw [L2.wipe_length]; omega), List.getElem?_eq_none (by rw [L2.wipe_length]; omega)]
  · rw [swipe_out hi, h i hi]
section
variable {K : PySem.W.Frag} {z z1 z2 : En} {σ σ1 : Sl} {F H F1 H1 F2 H2 : Hp} {ws : List Nat}
theorem Sim.wipe (S : Sim K z σ F H) (ws : List Nat) : Sim K (TW.wipe z ws) (L2.wipe σ ws) F H := by
  refine ⟨by rw [zwipe_length, L2.wipe_length]; exact S.len, fun i r e => ?_, fun i j r s a e1 e2 o1 o2 p1 p2 => ?_, S.sub⟩
  · obtain ⟨e, hi⟩ := zwipe_some e
    obtain ⟨v, h1, h2⟩ := S.slot i r e
    exact ⟨v, by rw [swipe_out hi]; exact h1, h2⟩
  · obtain ⟨e1, h1⟩ := zwipe_some e1
    obtain ⟨e2, h2⟩ := zwipe_some e2
    rw [swipe_out h1] at p1
    rw [swipe_out h2] at p2
    exact S.apart i j r s a e1 e2 o1 o2 p1 p2
theorem Own.of_wipe {a : Addr} (o : Own (TW.wipe z ws) (L2.wipe σ ws) a) : Own z σ a := by
  obtain ⟨i, r, e, ow, p⟩ := o
  obtain ⟨e, hi⟩ := zwipe_some e
  exact ⟨i, r, e, ow, by rw [← swipe_out hi]; exact p⟩
/-- the new list stays, whatever is done elsewhere -/
theorem Step.stays {B : Addr → Prop} {D : Addr} {acc : List V} (t : Step B F H F1 H1) (nb : ¬ B D) (hf : F D = none) (hh : H D = some (.lst acc)) : F1 D = none ∧ H1 D = some (.lst acc) := by
  refine ⟨?_, t.keep D _ hh nb⟩
  cases q : F1 D with
  | none => rfl
  | some o =>
    rcases t.new D (by rw [q]; simp) with w | w | w | ⟨xs, w⟩
    · exact absurd hf w
    · rw [hh] at w; cases w
    · exact absurd w nb
    · rw [hh] at w; cases w
theorem Sim.upd (S : Sim K z σ F H) {D : Addr} {o : HO} (nb : ¬ Own z σ D) (hf : F D = none) : Sim K z σ F (upd H D o) := by
  refine ⟨S.len, fun i r e => ?_, S.apart, fun a x e => by rw [upd_ne (ne_of_none e hf)]; exact S.sub _ _ e⟩
  obtain ⟨v, h1, h2⟩ := S.slot i r e
  refine ⟨v, h1, h2.keep (Same.refl _) fun ow a ea => ?_⟩
  subst ea
  have ne : a ≠ D := fun q => nb (by rw [← q]; exact ⟨i, r, e, ow, h1⟩)
  exact ⟨(own_at h2 ow).1, upd_ne ne⟩
theorem restore_get {z0 z : En} {i : Nat} (hl : z0.length = z.length) : (restore z0 ws z)[i]? = if i ∈ ws then z0[i]? else z[i]? := by
  unfold restore
  rw [List.getElem?_mapIdx]
  by_cases hi : i ∈ ws
  · rw [if_pos hi]
    by_cases hk : i < z.length
    · rw [List.getElem?_eq_getElem hk, List.getElem?_eq_getElem (by omega : i < z0.length)]
      simp [hi]
    · rw [List.getElem?_eq_none (by omega), List.getElem?_eq_none (by omega)]
      rfl
  · rw [if_neg hi]
    cases z[i]? with
    | none => rfl
    | some r => simp [hi]
end
structure Turned (K : PySem.W.Frag) (z1 : En) (σ : Sl) (F1 H1 : Hp) (ws : List Nat) (D : Addr) (zi : En) (Fi H : Hp) (acc : List V) : Prop where
  sim : Sim K (TW.wipe zi ws) (L2.wipe σ ws) Fi H
  step : Step (fun a => Own (TW.wipe z1 ws) (L2.wipe σ ws) a ∨ a = D) F1 H1 Fi H
  shr : Shr (TW.wipe z1 ws) (TW.wipe zi ws)
  hd : H D = some (.lst acc)
  fd : Fi D = none
theorem s_lc {K : PySem.W.Frag} {p : Tg} {ws : List Nat} {f : Fi} {ft fe : Fe} {wi : TI} {g : TG} {tt : TT} {te : TE} (si : SoundI K f wi) (sg : SoundG K p g) (st : SoundT K ft tt) (se : SoundE K fe te) (hw : ∀ i ∈ tgs p, i ∈ ws) :
    SoundE K (lcF p f ws ft fe) (tLc wi g tt te ws) := by
  intro z σ F H Q r zr S e q
  unfold lcF at e
  split at e
  · rename_i xs z1 e1
    split at e
    · cases e
    · rename_i hown
      split at e
      · rename_i ys z2 e2
        split at e
        · rename_i hlen
          cases e
          refine si z σ F H _ xs z1 S e1 fun J F1 H1 m it => ?_
          intro D hD
          have notOwn : ∀ {zi}, Shr (TW.wipe z1 ws) (TW.wipe zi ws) → ¬ Own (TW.wipe zi ws) (L2.wipe σ ws) D := fun sh o => by
            have := ((m.sim.wipe ws).own (sh.Own o)).2.1
            rw [hD] at this
            obtain ⟨_, w⟩ := this
            cases w
          refine lc_it it (fun i Hi => ∃ zi Fi acc done rest, Turned K z1 σ F1 H1 ws D zi Fi Hi acc ∧ RepL Fi acc done ∧ lcL (fun s => toB (ft s)) fe p ws (xs.drop i) zi = some (rest, z2) ∧ ys = done ++ rest) ?_ ?_ ?_ ?_
          · refine ⟨z1, F1, [], [], ys, ⟨(m.sim.wipe ws).upd (notOwn (Shr.refl _)) (m.sim.sub.free hD), Step.mk' m.sim.sub hD, Shr.refl _, upd_same, m.sim.sub.free hD⟩, .nil, by rw [List.drop_zero]; exact e2, rfl⟩
          · rintro i Hi _ ⟨zi, Fi, acc, done, rest, T, _⟩
            exact T.step.same.trans T.sim.sub
          · rintro i x Hi H' hlt ⟨zi, Fi, acc, done, rest, T, ra, hl, hy⟩ ⟨y, hxy, stp⟩
            obtain ⟨F', t, rp⟩ := stp Fi T.step.same T.sim.sub
            rw [drop_get hxy] at hl
            simp only [lcL] at hl
            split at hl
            · rename_i z' eb
              have S1 := T.sim.step0 t
              obtain ⟨fD, hDD⟩ := t.stays (fun w => w) T.fd T.hd
              refine sg (TW.wipe zi ws) (L2.wipe σ ws) F' H' x y z' _ S1 rp eb fun σ2 S2 b2 => ?_
              have sw : L2.wipe σ2 ws = L2.wipe σ ws := swipe_eq (by rw [b2.len, L2.wipe_length]) fun i hi => (b2.out i fun q => hi (hw i q)).2
              have ow2 : ∀ a, Own z' σ2 a → Own (TW.wipe z1 ws) (L2.wipe σ ws) a := fun a o => T.shr.Own (b2.ow a o)
              have nD : ¬ Own z' σ2 D := fun o => notOwn T.shr (b2.ow D o)
              -- what is left of the slots
              have shrW : ∀ {z4 : En}, Shr z' z4 → Shr (TW.wipe z1 ws) (TW.wipe z4 ws) := fun {z4} sh => by
                refine T.shr.trans ⟨?_, fun j r e => ?_⟩
                · have k1 := S1.len
                  have k2 := S2.len
                  have k3 := b2.len
                  have k4 := sh.1
                  rw [zwipe_length] at k1 ⊢
                  rw [zwipe_length]
                  omega
                · by_cases hj : j ∈ ws
                  · have hk : j < zi.length := by
                      have := (List.getElem?_eq_some_iff.mp e).1
                      rwa [zwipe_length] at this
                    rw [zwipe_in hj hk] at e
                    cases e
                    refine ⟨none, zwipe_in hj ?_, .refl _⟩
                    rw [← sh.1, S2.len, b2.len, ← S1.len, zwipe_length]
                    exact hk
                  · rw [zwipe_out hj]
                    exact sh.2 j r (by rw [(b2.out j fun q => hj (hw j q)).1]; exact e)
              refine ⟨sw, ?_⟩
              split at hl
              · rename_i z'' ec
                refine st z' σ2 F' H' _ true z'' S2 ec fun F2 H2 m2 => ?_
                rw [if_pos rfl]
                split at hl
                · rename_i r3 z3 e3
                  split at hl
                  · rename_i w z4 e4
                    split at hl
                    · rename_i ys' z5 e5
                      cases hl
                      refine se z'' σ2 F2 H2 _ r3 z3 m2.sim e3 fun v F3 H3 m3 ok fr => ?_
                      obtain ⟨F4, m4, rw4, _, _, _⟩ := frz_ok m2.sim m3 ok fr e4
                      have M := m2.trans m4
                      obtain ⟨fD4, hD4⟩ := M.step.stays nD fD hDD
                      have hlen' : acc.length < sizeLine := by
                        rw [ra.length, ← lim]
                        rw [hy] at hlen
                        simp only [List.length_append, List.length_cons] at hlen
                        omega
                      refine ⟨acc, hD4, hlen', z4, F4, acc ++ [v], done ++ [w], ys', ⟨?_, ?_, shrW M.shr, upd_same, fD4⟩, (ra.mono (t.same.trans M.step.same)).append (.cons rw4 .nil), e5, by rw [hy, List.append_assoc]; rfl⟩
                      · have := M.sim.wipe ws
                        rw [sw] at this
                        exact this.upd (notOwn (shrW M.shr)) fD4
                      · have s1 := T.step.trans t fun a w => w.elim
                        have s2 := s1.trans M.step fun a o => .inl (.inl (ow2 a o))
                        exact s2.trans (Step.wr (B := fun a => a = D) M.sim.sub fD4 rfl) fun a o => .inl (.inr o)
                    · cases hl
                  · cases hl
                · cases hl
              · rename_i z'' ec
                refine st z' σ2 F' H' _ false z'' S2 ec fun F2 H2 m2 => ?_
                rw [if_neg Bool.false_ne_true]
                obtain ⟨fD4, hD4⟩ := m2.step.stays nD fD hDD
                refine ⟨z'', F2, acc, done, rest, ⟨?_, ?_, shrW m2.shr, hD4, fD4⟩, ra.mono (t.same.trans m2.step.same), hl, hy⟩
                · have := m2.sim.wipe ws
                  rw [sw] at this
                  exact this
                · have s1 := T.step.trans t fun a w => w.elim
                  exact s1.trans m2.step fun a o => .inl (.inl (ow2 a o))
              · cases hl
            · cases hl
          · rintro Hn ⟨zi, Fi, acc, done, rest, T, ra, hl, hy⟩
            rw [List.drop_length] at hl
            simp only [lcL] at hl
            cases hl
            rw [List.append_nil] at hy
            subst hy
            have hll : z1.length = z2.length := by
              have := T.shr.1
              rwa [zwipe_length, zwipe_length] at this
            have no : ∀ (i : Nat) (r : Rv), i ∈ ws → z1[i]? = some (some r) → own r = false := fun i r hi e => by
              cases ho : own r with
              | false => rfl
              | true =>
                refine absurd (List.any_eq_true.mpr ⟨i, hi, ?_⟩) hown
                rw [e]
                cases r <;> simp_all [own, isOwn]
            have sh : Shr z1 (restore z1 ws z2) := by
              refine ⟨by unfold restore; rw [List.length_mapIdx]; exact hll, fun i r e => ?_⟩
              rw [restore_get hll]
              by_cases hi : i ∈ ws
              · rw [if_pos hi]; exact ⟨r, e, .refl _⟩
              · rw [if_neg hi]
                obtain ⟨r1, e1, k⟩ := T.shr.2 i r (by rw [zwipe_out hi]; exact e)
                exact ⟨r1, by rw [← zwipe_out hi]; exact e1, k⟩
            have stp : Step (Own z1 σ) F1 H1 Fi Hn := (Step.refl m.sim.sub).trans T.step fun a o => by
              rcases o with o | rfl
              · exact .inl (Own.of_wipe o)
              · exact .inr hD
            have sim : Sim K (restore z1 ws z2) σ Fi Hn := by
              refine ⟨by unfold restore; rw [List.length_mapIdx, ← hll]; exact m.sim.len, fun i r e => ?_, fun i j r s a e1 e2 o1 o2 p1 p2 => ?_, T.sim.sub⟩
              · rw [restore_get hll] at e
                by_cases hi : i ∈ ws
                · rw [if_pos hi] at e
                  obtain ⟨v, h1, h2⟩ := m.sim.slot i r e
                  exact ⟨v, h1, h2.keep T.step.same fun o => by rw [no i r hi e] at o; cases o⟩
                · rw [if_neg hi] at e
                  obtain ⟨v, h1, h2⟩ := T.sim.slot i r (by rw [zwipe_out hi]; exact e)
                  exact ⟨v, by rw [← swipe_out hi]; exact h1, h2⟩
              · rw [restore_get hll] at e1 e2
                have hi : i ∉ ws := fun hi => by
                  rw [if_pos hi] at e1
                  rw [no i r hi e1] at o1; cases o1
                have hj : j ∉ ws := fun hj => by
                  rw [if_pos hj] at e2
                  rw [no j s hj e2] at o2; cases o2
                rw [if_neg hi] at e1
                rw [if_neg hj] at e2
                exact T.sim.apart i j r s a (by rw [zwipe_out hi]; exact e1) (by rw [zwipe_out hj]; exact e2) o1 o2 (by rw [swipe_out hi]; exact p1) (by rw [swipe_out hj]; exact p2)
            exact q (.ref D) Fi Hn (m.trans ⟨sim, stp, sh⟩) ⟨D, acc, rfl, T.fd, T.hd, ra⟩ fun _ a ea => by cases ea; exact m.was S hD
        · cases e
      · cases e
  · cases e
/-- no test -/
theorem st_yes {K : PySem.W.Frag} : SoundT K (litF (.bool true)) tYes := by
  intro z σ F H Q b z1 S e q
  cases toB_some e
  exact q F H (Mid.refl S)
end TW
end

section
/-! Calls. -/
namespace TW
open PySem PySem.Spec PyProof.Rows L2

/-- what a def promises: as its language reading says -/
def SpK (K : PySem.W.Frag) (c : Cl) (f : Nat) (n : Nat) : Sp := fun vs H Q _ => vs.length = n ∧ ∃ F args r os, Sim K (args.map some) (vs.map some) F H ∧ (∀ a ∈ args, own a = true → lent a = true) ∧ c f args = some (r, os) ∧
  ∀ v F1 H1, Step (Own (args.map some) (vs.map some)) F H F1 H1 → Sim K (os.map some) (vs.map some) F1 H1 → Shr (args.map some) (os.map some) → ResOk K [] [] F1 H1 r v → (fresh r = true → ∀ a, v = .ref a → H a = none) → Q v H1
section
variable {K : PySem.W.Frag} {z z1 z2 : En} {σ : Sl} {F0 H0 F H F1 H1 F2 H2 : Hp}
/-- arguments made ready -/
theorem prep1_ok {r r1 : Res} {v : V} {m : Bool} (S0 : Sim K z σ F0 H0) (M : Mid K z σ F0 H0 z1 F H) (h : ResOk K z1 σ F H r v) (fr : fresh r = true → ∀ a, v = .ref a → H0 a = none) (e : prep1 z1 m r = some (r1, z2)) :
    ∃ F1, Mid K z σ F0 H0 z2 F1 H ∧ ResOk K z2 σ F1 H r1 v ∧ fresh r1 = false ∧ Same F F1 ∧ Shr z1 z2 ∧ ∀ a, F1 a ≠ none → F a ≠ none ∨ (H0 a ≠ none) ∨ (v = .ref a ∧ fresh r = true) := by
  have other : (match frz z1 r with | some (x, σ1) => some (Res.d x, σ1) | none => none) = some (r1, z2) → ∃ F1, Mid K z σ F0 H0 z2 F1 H ∧ ResOk K z2 σ F1 H r1 v ∧ fresh r1 = false ∧ Same F F1 ∧ Shr z1 z2 ∧ ∀ a, F1 a ≠ none → F a ≠ none ∨ (H0 a ≠ none) ∨ (v = .ref a ∧ fresh r = true) := fun e => by
    split at e
    · rename_i y z' e1
      cases e
      obtain ⟨F1, m1, h1, s1, sh, nw⟩ := frz_ok S0 M h fr e1
      refine ⟨F1, m1, h1, rfl, s1, sh, fun a q => ?_⟩
      rcases nw a q with w | w
      · exact .inl w
      · subst w
        cases r with
        | d y =>
          obtain ⟨o', q5⟩ := Rep.at h
          exact .inl (by rw [q5]; simp)
        | al i =>
          obtain ⟨g1, rr, g2, g3⟩ := h
          cases ho : own rr with
          | true =>
            obtain ⟨x, hx⟩ := (S0.own (M.shr.Own ⟨i, rr, g2, ho, g1⟩)).2.1
            exact .inr (.inl (by rw [hx]; simp))
          | false =>
            obtain ⟨w, k1, k2⟩ := M.sim.slot i rr g2
            rw [g1] at k1
            cases k1
            cases rr with
            | d y =>
              obtain ⟨o', q5⟩ := Rep.at k2
              exact .inl (by rw [q5]; simp)
            | sc => cases g3
            | ol => cases ho
            | od => cases ho
        | sc => simp [frz] at e1
        | fl => exact .inr (.inr ⟨rfl, rfl⟩)
        | fd => exact .inr (.inr ⟨rfl, rfl⟩)
    · cases e
  cases m with
  | true =>
    cases r with
    | al i => cases e; exact ⟨F, M, h, rfl, Same.refl _, Shr.refl _, fun a q => .inl q⟩
    | sc ns => cases e; exact ⟨F, M, h, rfl, Same.refl _, Shr.refl _, fun a q => .inl q⟩
    | d x => exact other e
    | fl x => exact other e
    | fd t x => exact other e
  | false =>
    cases r with
    | sc ns => cases e; exact ⟨F, M, h, rfl, Same.refl _, Shr.refl _, fun a q => .inl q⟩
    | al i => exact other e
    | d x => exact other e
    | fl x => exact other e
    | fd t x => exact other e
/-- ready values -/
def RdOk (K : PySem.W.Frag) (z : En) (σ : Sl) (F H : Hp) : List Res → List V → Prop
  | [], [] => True
  | r :: rs, v :: vs => ResOk K z σ F H r v ∧ fresh r = false ∧ RdOk K z σ F H rs vs
  | _, _ => False
theorem ResOk.same {r : Res} {v : V} (nf : fresh r = false) (sm : Same F F1) (sh : Shr z z1) (h : ResOk K z σ F H r v) : ResOk K z1 σ F1 H r v := by
  cases r with
  | d x => exact Rep.mono sm h
  | al i =>
    obtain ⟨q1, r, q2, q3⟩ := h
    obtain ⟨r1, e1, kk⟩ := sh.2 i _ q2
    refine ⟨q1, ?_⟩
    cases kk with
    | refl => exact ⟨_, e1, q3⟩
    | ol => exact ⟨_, e1, rfl⟩
    | od => exact ⟨_, e1, rfl⟩
    | fz => exact ⟨_, e1, rfl⟩
  | sc ns =>
    obtain ⟨a, rfl, q1⟩ := h
    exact ⟨a, rfl, q1.mono sm⟩
  | fl => cases nf
  | fd => cases nf
theorem prep_ok (S0 : Sim K z σ F0 H0) : ∀ {ms : List Bool} {rs rs1 : List Res} {vs : List V} {z1 z2 : En} {F H : Hp}, Mid K z σ F0 H0 z1 F H → RsOk K z1 σ H0 F H rs vs → prep z1 ms rs = some (rs1, z2) →
    ∃ F1, Mid K z σ F0 H0 z2 F1 H ∧ RdOk K z2 σ F1 H rs1 vs ∧ Same F F1 ∧ Shr z1 z2
  | [], [], rs1, [], z1, z2, F, H, m, _, e => by
    cases e
    exact ⟨F, m, True.intro, Same.refl _, Shr.refl _⟩
  | b :: ms, r :: rs, rs1, v :: vs, z1, z2, F, H, m, h, e => by
    simp only [prep] at e
    split at e
    · rename_i r1 z1' e1
      split at e
      · rename_i rs1' z2' e2
        cases e
        obtain ⟨F1, m1, h1, nf, sm1, sh1, nw⟩ := prep1_ok S0 m h.1 (fun f a ea => (h.2.1 f a ea).1) e1
        have h2 : RsOk K z1' σ H0 F1 H rs vs := h.2.2.keep sh1 sm1 (fun _ => rfl) fun j r' a q1 q2 q3 q4 => by
          cases q : F1 a with
          | none => rfl
          | some o =>
            rcases nw a (by rw [q]; simp) with w | w | w
            · exact absurd q4 w
            · exact absurd (h.2.2.fr q1 q2 q3) w
            · exact absurd q3 ((h.2.1 w.2 a w.1).2 j r' q1 q2)
        obtain ⟨F2, m2, h3, sm2, sh2⟩ := prep_ok S0 m1 h2 e2
        exact ⟨F2, m2, ⟨h1.same nf sm2 sh2, nf, h3⟩, sm1.trans sm2, sh1.trans sh2⟩
      · cases e
    · cases e
  | [], [], _, _ :: _, _, _, _, _, _, h, _ => h.elim
  | _ :: _, _ :: _, _, [], _, _, _, _, _, h, _ => h.elim
  | [], _ :: _, _, _, _, _, _, _, _, _, e => by cases e
  | _ :: _, [], _, _, _, _, _, _, _, _, e => by cases e
/-- the lent form -/
def LR : Rv → Rv → Prop
  | .ol xs _, .ol ys b => xs = ys ∧ b = true
  | .od t xs _, .od u ys b => t = u ∧ xs = ys ∧ b = true
  | _, _ => False
theorem LR.own {s r : Rv} (h : LR s r) : TW.own s = true ∧ TW.own r = true ∧ lent r = true := by
  cases s <;> cases r <;> simp_all [LR, TW.own, lent]
theorem LR.ok {s r : Rv} {v : V} (h : LR s r) (k : RvOk K F H s v) : RvOk K F H r v := by
  cases s <;> cases r <;> simp only [LR] at h
  · obtain ⟨rfl, rfl⟩ := h; exact k
  · obtain ⟨rfl, rfl, rfl⟩ := h; exact k
theorem lend_ok (S : Sim K z σ F H) : ∀ {rs : List Res} {vs : List V} {args : List Rv}, RdOk K z σ F H rs vs → lend z rs = some args →
    rs.length = args.length ∧ (∀ (j : Nat) (r : Rv), args[j]? = some r → ∃ v, vs[j]? = some v ∧ RvOk K F H r v ∧ (own r = false ∨ ∃ i s, rs[j]? = some (.al i) ∧ z[i]? = some (some s) ∧ LR s r ∧ σ[i]? = some (some v))) ∧
    (∀ (j i : Nat), rs[j]? = some (.al i) → ∃ r v s, args[j]? = some r ∧ vs[j]? = some v ∧ z[i]? = some (some s) ∧ LR s r ∧ σ[i]? = some (some v)) ∧
    (∀ (j k i : Nat), rs[j]? = some (.al i) → rs[k]? = some (.al i) → j = k)
  | [], [], args, _, e => by
    cases e
    exact ⟨rfl, fun j r e => by simp at e, fun j i e => by simp at e, fun j k i e => by simp at e⟩
  | r :: rs, v :: vs, args, h, e => by
    have plain : ∀ {r1 : Rv} {args' : List Rv}, (∀ i, r ≠ .al i) → own r1 = false → RvOk K F H r1 v → lend z rs = some args' → (r :: rs).length = (r1 :: args').length ∧ (∀ (j : Nat) (r' : Rv), (r1 :: args')[j]? = some r' → ∃ v', (v :: vs)[j]? = some v' ∧ RvOk K F H r' v' ∧ (own r' = false ∨ ∃ i s, (r :: rs)[j]? = some (.al i) ∧ z[i]? = some (some s) ∧ LR s r' ∧ σ[i]? = some (some v'))) ∧
    (∀ (j i : Nat), (r :: rs)[j]? = some (.al i) → ∃ r' v' s, (r1 :: args')[j]? = some r' ∧ (v :: vs)[j]? = some v' ∧ z[i]? = some (some s) ∧ LR s r' ∧ σ[i]? = some (some v')) ∧
    (∀ (j k i : Nat), (r :: rs)[j]? = some (.al i) → (r :: rs)[k]? = some (.al i) → j = k) := fun na nw k1 e' => by
      obtain ⟨l1, l2, l3, l4⟩ := lend_ok S h.2.2 e'
      refine ⟨by simp [l1], fun j r' ej => ?_, fun j i ej => ?_, fun j k i ej ek => ?_⟩
      · cases j with
        | zero => simp at ej; subst ej; exact ⟨v, rfl, k1, .inl nw⟩
        | succ j => simpa using l2 j r' (by simpa using ej)
      · cases j with
        | zero => simp at ej; exact absurd ej (na i)
        | succ j => simpa using l3 j i (by simpa using ej)
      · cases j with
        | zero => simp at ej; exact absurd ej (na i)
        | succ j =>
          cases k with
          | zero => simp at ek; exact absurd ek (na i)
          | succ k => exact congrArg Nat.succ (l4 j k i (by simpa using ej) (by simpa using ek))
    cases r with
    | d x =>
      simp only [lend] at e
      obtain ⟨args', e', rfl⟩ := Option.map_eq_some_iff.mp e
      exact plain (fun i q => by cases q) rfl h.1 e'
    | sc ns =>
      simp only [lend] at e
      obtain ⟨args', e', rfl⟩ := Option.map_eq_some_iff.mp e
      exact plain (fun i q => by cases q) rfl h.1 e'
    | fl => cases e
    | fd => cases e
    | al i =>
      simp only [lend] at e
      split at e
      · cases e
      · rename_i hany
        obtain ⟨g1, s, g2, _⟩ := h.1
        have main : ∀ {r1 : Rv} {args' : List Rv}, LR s r1 → lend z rs = some args' → (Res.al i :: rs).length = (r1 :: args').length ∧ (∀ (j : Nat) (r' : Rv), (r1 :: args')[j]? = some r' → ∃ v', (v :: vs)[j]? = some v' ∧ RvOk K F H r' v' ∧ (own r' = false ∨ ∃ i' s, (Res.al i :: rs)[j]? = some (.al i') ∧ z[i']? = some (some s) ∧ LR s r' ∧ σ[i']? = some (some v'))) ∧
    (∀ (j i' : Nat), (Res.al i :: rs)[j]? = some (.al i') → ∃ r' v' s, (r1 :: args')[j]? = some r' ∧ (v :: vs)[j]? = some v' ∧ z[i']? = some (some s) ∧ LR s r' ∧ σ[i']? = some (some v')) ∧
    (∀ (j k i' : Nat), (Res.al i :: rs)[j]? = some (.al i') → (Res.al i :: rs)[k]? = some (.al i') → j = k) := fun {r1 args'} lr e' => by
          obtain ⟨l1, l2, l3, l4⟩ := lend_ok S h.2.2 e'
          have later : ∀ j : Nat, rs[j]? ≠ some (.al i) := fun j ej => hany (List.any_eq_true.mpr ⟨_, List.mem_of_getElem? ej, by simp [isAl]⟩)
          obtain ⟨w, k1, k2⟩ := S.slot i s g2
          rw [g1] at k1
          cases k1
          refine ⟨by simp [l1], fun j r' ej => ?_, fun j i' ej => ?_, fun j k i' ej ek => ?_⟩
          · cases j with
            | zero => simp at ej; subst ej; exact ⟨v, rfl, lr.ok k2, .inr ⟨i, s, rfl, g2, lr, g1⟩⟩
            | succ j => simpa using l2 j r' (by simpa using ej)
          · cases j with
            | zero => simp at ej; subst ej; exact ⟨r1, v, s, rfl, rfl, g2, lr, g1⟩
            | succ j => simpa using l3 j i' (by simpa using ej)
          · cases j with
            | zero =>
              simp at ej
              subst ej
              cases k with
              | zero => rfl
              | succ k => exact absurd (by simpa using ek) (later k)
            | succ j =>
              cases k with
              | zero =>
                simp at ek
                subst ek
                exact absurd (by simpa using ej) (later j)
              | succ k => exact congrArg Nat.succ (l4 j k i' (by simpa using ej) (by simpa using ek))
        split at e
        · rename_i xs b hz
          obtain ⟨args', e', rfl⟩ := Option.map_eq_some_iff.mp e
          rw [g2] at hz
          cases hz
          exact main (r1 := .ol xs true) ⟨rfl, rfl⟩ e'
        · rename_i t xs b hz
          obtain ⟨args', e', rfl⟩ := Option.map_eq_some_iff.mp e
          rw [g2] at hz
          cases hz
          exact main (r1 := .od t xs true) ⟨rfl, rfl, rfl⟩ e'
        · cases e
  | [], _ :: _, _, h, _ => h.elim
  | _ :: _, [], _, h, _ => h.elim
theorem RdOk.length : ∀ {rs : List Res} {vs : List V}, RdOk K z σ F H rs vs → rs.length = vs.length
  | [], [], _ => rfl
  | r :: rs, v :: vs, h => by simp [RdOk.length h.2.2]
  | [], _ :: _, h => h.elim
  | _ :: _, [], h => h.elim
/-! what was lent comes back -/
theorem gb_length : ∀ (rs : List Res) (os : List Rv) (z : En), (giveBack rs os z).length = z.length
  | [], _, _ => rfl
  | .al i :: rs, [], _ => rfl
  | .al i :: rs, o :: os, z => by
    unfold giveBack
    rw [gb_length rs os]
    split
    · rw [List.length_set]
    · rfl
  | .d _ :: rs, [], z => rfl
  | .d _ :: rs, _ :: os, z => by unfold giveBack; exact gb_length rs os z
  | .fl _ :: rs, [], z => rfl
  | .fl _ :: rs, _ :: os, z => by unfold giveBack; exact gb_length rs os z
  | .fd _ _ :: rs, [], z => rfl
  | .fd _ _ :: rs, _ :: os, z => by unfold giveBack; exact gb_length rs os z
  | .sc _ :: rs, [], z => rfl
  | .sc _ :: rs, _ :: os, z => by unfold giveBack; exact gb_length rs os z
def isA : Res → Bool
  | .al _ => true
  | _ => false
theorem gb_skip {r : Res} {rs : List Res} {o : Rv} {os : List Rv} {z : En} (h : isA r = false) : giveBack (r :: rs) (o :: os) z = giveBack rs os z := by
  cases r with
  | al => cases h
  | _ => rfl
theorem gb_out {j : Nat} : ∀ {rs : List Res} {os : List Rv} {z : En}, (∀ k : Nat, rs[k]? ≠ some (.al j)) → (giveBack rs os z)[j]? = z[j]?
  | [], _, _, _ => rfl
  | r :: rs, [], z, _ => by cases r <;> rfl
  | r :: rs, o :: os, z, h => by
    have h' : ∀ k : Nat, rs[k]? ≠ some (.al j) := fun k e => h (k + 1) (by simpa using e)
    cases hr : isA r with
    | false => rw [gb_skip hr]; exact gb_out h'
    | true =>
      cases r with
      | al i =>
        have hij : i ≠ j := fun q => h 0 (by rw [q]; rfl)
        unfold giveBack
        rw [gb_out h']
        split
        · rw [List.getElem?_set_ne hij]
        · rfl
      | _ => cases hr
theorem gb_in {j : Nat} {s o : Rv} : ∀ {rs : List Res} {os : List Rv} {z : En} {k : Nat}, (∀ a b : Nat, rs[a]? = some (.al j) → rs[b]? = some (.al j) → a = b) → rs[k]? = some (.al j) → os[k]? = some o → z[j]? = some (some s) → (giveBack rs os z)[j]? = some (some (updR s o))
  | [], _, _, _, _, h, _, _ => by simp at h
  | _ :: _, [], _, _, _, _, h, _ => by simp at h
  | r :: rs, p :: os, z, 0, nd, h1, h2, h3 => by
    simp at h1 h2
    subst h1; subst h2
    unfold giveBack
    rw [h3]
    rw [gb_out fun k e => by have := nd 0 (k + 1) rfl (by simpa using e); cases this]
    exact List.getElem?_set_self (List.getElem?_eq_some_iff.mp h3).1
  | r :: rs, p :: os, z, k + 1, nd, h1, h2, h3 => by
    have nd' : ∀ a b : Nat, rs[a]? = some (.al j) → rs[b]? = some (.al j) → a = b := fun a b ea eb => by
      have := nd (a + 1) (b + 1) (by simpa using ea) (by simpa using eb)
      omega
    cases hr : isA r with
    | false => rw [gb_skip hr]; exact gb_in nd' (by simpa using h1) (by simpa using h2) h3
    | true =>
      cases r with
      | al i =>
        have hij : i ≠ j := fun q => by
          subst q
          have := nd 0 (k + 1) rfl h1
          cases this
        unfold giveBack
        refine gb_in nd' (by simpa using h1) (by simpa using h2) ?_
        split
        · rw [List.getElem?_set_ne hij]; exact h3
        · exact h3
      | _ => cases hr
theorem updR_ok {s r o : Rv} {v : V} (lr : LR s r) (sh : RvS (some r) (some o)) (k : RvOk K F H o v) : RvOk K F H (updR s o) v ∧ RvS (some s) (some (updR s o)) ∧ own (updR s o) = true := by
  cases s <;> cases r <;> simp only [LR] at lr
  · obtain ⟨rfl, rfl⟩ := lr
    cases sh with
    | refl => exact ⟨k, .refl _, rfl⟩
    | ol => exact ⟨k, .ol .., rfl⟩
  · obtain ⟨rfl, rfl, rfl⟩ := lr
    cases sh with
    | refl => exact ⟨k, .refl _, rfl⟩
    | od => exact ⟨k, .od .., rfl⟩
theorem map_some' {α : Type} {l : List α} {i : Nat} {x : α} (h : l[i]? = some x) : (l.map some)[i]? = some (some x) := by
  rw [List.getElem?_map, h]; rfl
/-- a call: the state ahead of it, behind it -/
theorem call_sim (S : Sim K z σ F H) {rs : List Res} {vs : List V} {args : List Rv} (h : RdOk K z σ F H rs vs) (e : lend z rs = some args) :
    Sim K (args.map some) (vs.map some) F H ∧ (∀ a ∈ args, own a = true → lent a = true) ∧ (∀ a, Own (args.map some) (vs.map some) a → Own z σ a) ∧
    ∀ F1 H1 os, Step (Own (args.map some) (vs.map some)) F H F1 H1 → Sim K (os.map some) (vs.map some) F1 H1 → Shr (args.map some) (os.map some) → Mid K z σ F H (giveBack rs os z) F1 H1 := by
  obtain ⟨l1, l2, l3, l4⟩ := lend_ok S h e
  have hl : args.length = vs.length := by rw [← l1]; exact h.length
  have ownI : ∀ a, Own (args.map some) (vs.map some) a → ∃ (j i : Nat) (s r : Rv), rs[j]? = some (.al i) ∧ args[j]? = some r ∧ z[i]? = some (some s) ∧ LR s r ∧ σ[i]? = some (some (.ref a)) := fun a o => by
    obtain ⟨j, r, e1, o1, e2⟩ := o
    obtain ⟨v, h1, h2, h3⟩ := l2 j r (map_some e1)
    rw [map_some e2] at h1
    cases h1
    rcases h3 with h3 | ⟨i, s, h3, h4, h5, h6⟩
    · rw [o1] at h3; cases h3
    · exact ⟨j, i, s, r, h3, map_some e1, h4, h5, h6⟩
  refine ⟨⟨by simp [hl], fun i r e => ?_, fun i j r s a e1 e2 o1 o2 p1 p2 => ?_, S.sub⟩, fun a ha o => ?_, fun a o => ?_, fun F1 H1 os st so sh => ?_⟩
  · obtain ⟨v, h1, h2, _⟩ := l2 i r (map_some e)
    exact ⟨v, map_some' h1, h2⟩
  · obtain ⟨v1, a1, a2, a3⟩ := l2 i r (map_some e1)
    obtain ⟨v2, b1, b2, b3⟩ := l2 j s (map_some e2)
    rw [map_some p1] at a1
    rw [map_some p2] at b1
    cases a1; cases b1
    rcases a3 with a3 | ⟨i1, s1, a3, a4, a5, a6⟩
    · rw [o1] at a3; cases a3
    rcases b3 with b3 | ⟨i2, s2, b3, b4, b5, b6⟩
    · rw [o2] at b3; cases b3
    have := S.apart i1 i2 s1 s2 a a4 b4 a5.own.1 b5.own.1 a6 b6
    subst this
    exact l4 i j i1 a3 b3
  · obtain ⟨j, hj⟩ := List.getElem?_of_mem ha
    obtain ⟨v, h1, h2, h3⟩ := l2 j a hj
    rcases h3 with h3 | ⟨i, s, h3, h4, h5, h6⟩
    · rw [o] at h3; cases h3
    · exact h5.own.2.2
  · obtain ⟨j, i, s, r, h1, h2, h3, h4, h5⟩ := ownI a o
    exact ⟨i, s, h3, h4.own.1, h5⟩
  · -- behind it
    have back : ∀ i, (∃ j : Nat, rs[j]? = some (.al i)) → ∃ (s s' : Rv) (v : V), z[i]? = some (some s) ∧ own s = true ∧ (giveBack rs os z)[i]? = some (some s') ∧ RvS (some s) (some s') ∧ own s' = true ∧ σ[i]? = some (some v) ∧ RvOk K F1 H1 s' v := fun i ⟨j, hj⟩ => by
      obtain ⟨r, v, s, q1, q2, q3, q4, q5⟩ := l3 j i hj
      obtain ⟨o, ho, sho⟩ := sh.2 j _ (map_some' q1)
      cases o with
      | none => cases sho
      | some o =>
        have ho' := map_some ho
        obtain ⟨v', p1, p2⟩ := so.slot j o ho
        rw [map_some' q2] at p1
        cases p1
        obtain ⟨u1, u2, u3⟩ := updR_ok q4 sho p2
        exact ⟨s, _, v, q3, q4.own.1, gb_in (fun a b ea eb => l4 a b i ea eb) hj ho' q3, u2, u3, q5, u1⟩
    have stp : Step (Own z σ) F H F1 H1 := st.mono fun a o => by
      obtain ⟨j, i, s, r, h1, h2, h3, h4, h5⟩ := ownI a o
      exact ⟨i, s, h3, h4.own.1, h5⟩
    refine ⟨⟨by rw [gb_length]; exact S.len, fun i r e => ?_, fun i j r s a e1 e2 o1 o2 p1 p2 => ?_, st.sub⟩, stp, by rw [gb_length], fun i r e => ?_⟩
    · by_cases hi : ∃ j : Nat, rs[j]? = some (.al i)
      · obtain ⟨s, s', v, b1, b2, b3, b4, b5, b6, b7⟩ := back i hi
        rw [b3] at e
        cases e
        exact ⟨v, b6, b7⟩
      · rw [gb_out fun k ek => hi ⟨k, ek⟩] at e
        obtain ⟨v, h1, h2⟩ := S.slot i r e
        refine ⟨v, h1, h2.keep st.same fun o a ea => ?_⟩
        subst ea
        have no : ¬ Own (args.map some) (vs.map some) a := fun w => by
          obtain ⟨j, i', s, r', g1, g2, g3, g4, g5⟩ := ownI a w
          have := S.apart i i' r s a e g3 o g4.own.1 h1 g5
          subst this
          exact hi ⟨j, g1⟩
        obtain ⟨q1, ⟨x, q2⟩, q3⟩ := own_at h2 o
        refine ⟨?_, by rw [q2]; exact st.keep a x q2 no⟩
        cases q : F1 a with
        | none => rfl
        | some y =>
          rcases st.new a (by rw [q]; simp) with w | w | w | w
          · exact absurd q1 w
          · rw [q2] at w; cases w
          · exact absurd w no
          · exact absurd w q3
    · have pre : ∀ {i : Nat} {r : Rv}, (giveBack rs os z)[i]? = some (some r) → own r = true → ∃ s, z[i]? = some (some s) ∧ own s = true := fun {i r} e o => by
        by_cases hi : ∃ j : Nat, rs[j]? = some (.al i)
        · obtain ⟨s, s', v, b1, b2, b3, b4, b5, b6, b7⟩ := back i hi
          exact ⟨s, b1, b2⟩
        · rw [gb_out fun k ek => hi ⟨k, ek⟩] at e
          exact ⟨r, e, o⟩
      obtain ⟨r', f1, f2⟩ := pre e1 o1
      obtain ⟨s', f3, f4⟩ := pre e2 o2
      exact S.apart i j r' s' a f1 f3 f2 f4 p1 p2
    · by_cases hi : ∃ j : Nat, rs[j]? = some (.al i)
      · obtain ⟨s, s', v, b1, b2, b3, b4, b5, b6, b7⟩ := back i hi
        rw [b1] at e
        cases e
        exact ⟨_, b3, b4⟩
      · exact ⟨r, by rw [gb_out fun k ek => hi ⟨k, ek⟩]; exact e, .refl _⟩
theorem ResOk.any {z' : En} {σ' : Sl} {r : Res} {v : V} (h : ResOk K [] [] F H r v) : ResOk K z' σ' F H r v := by
  cases r with
  | al i => obtain ⟨h1, _⟩ := h; simp at h1
  | d => exact h
  | fl => exact h
  | fd => exact h
  | sc => exact h
/-- the call as an expression -/
theorem s_cal {c : Cl} {f n : Nat} {ms : List Bool} {g : Fa} {ts : TA} (E : XK) (sg : SoundA K g ts) (hn : ∀ z rs z1, g z = some (rs, z1) → rs.length = n) : SoundE K (calF c f ms g) (tCall (SpK K c f n) [] E ts) := by
  intro z σ F H Q r z3 S e q
  unfold calF at e
  split at e
  · rename_i rs0 z0 e0
    split at e
    · rename_i rs z1 e1
      split at e
      · rename_i args e2
        split at e
        · rename_i r' os e3
          cases e
          refine sg z σ F H _ rs0 z0 S e0 fun ws F1 H1 m ok => ?_
          obtain ⟨F2, m2, rd, sm, sh⟩ := prep_ok S m ok e1
          obtain ⟨c1, c2, c3, c4⟩ := call_sim m2.sim rd e2
          refine ⟨by rw [List.append_nil, ← ok.length]; exact hn _ _ _ e0, F2, args, r, os, by rw [List.append_nil]; exact c1, c2, e3, fun v F3 H3 st so sh' rok fr => ?_⟩
          rw [List.append_nil] at st so
          exact q v F3 H3 (m2.trans (c4 F3 H3 os st so sh')) rok.any fun f a ea => m2.was S (fr f a ea)
        · cases e
      · cases e
    · cases e
  · cases e
end
end TW
end

section
/-! Calls where it is known that no guard is under way. -/
namespace TW
open PySem PySem.Spec PyProof.Rows L2
/-- what a def promises where no guard is under way -/
structure FnG (P : Program) (w : World) (K : PySem.W.Frag) (mg : Str → Option Value) (b0 : Heap) (CX : CXT) (n : Nat) (fa : Addr) (fdt : FuncData) (pars : List Str) (sp : Sp) : Prop where
  ln : ∀ vals Hp0 Qv Ex, sp vals Hp0 Qv Ex → vals.length = pars.length
  go : ∀ (Ar : Around) (up : List Env) (st : Shared) (Ha : Hp) (ar : Args) (cs : List Value) (vals : List V) (Qv : VK) (Ex : XK), Room n Ar → Ar.guards = some [] → Env0 P w K mg b0 Ar up st Ha → BindsTo st fdt ar (pars.zip cs) → Vals vals cs →
    sp vals Ha Qv Ex → codeAny (model P w) Ar (.call (.ref fa) ar) (CR CX up P w Ha st Qv Ex) st
section
variable {X : Cx} {CX : CXT} {n : Nat} {fa : Addr} {fdt : FuncData} {pars : List Str} {sp : Sp} {Ex : XK} {nm : Str} {pn pc : Pos} {a1 : Expr} {as : List Expr} {ta : TA}
theorem go_fn {pins : List (Addr × Obj)} {sl : L2.St} {Ha : Hp} {st : Shared} {Qv : VK} {cs : List Value} {vals : List V} (F : FnG X.prog X.w X.K X.mg X.base CX n fa fdt pars sp) (room : Room n X.A) (gu : X.A.guards = some []) (bd : Binds X.K fdt pars []) (ps : Passes CX X Ex)
    (inv : Inv X pins sl Ha st) (rv : Vals vals cs) (want : sp vals Ha Qv Ex) : wpAny (model X.prog X.w) X.A (call (.ref fa) cs) (EP X pins sl Qv) X.xe st := by
  have len : (cs ++ []).length = pars.length := by rw [List.append_nil, ← rv.length]; exact F.ln _ _ _ _ want
  have bind := bd st cs inv.kIn len
  rw [List.append_nil] at bind
  refine wpAny_call (codeAny_mono (F.go X.A X.stack st Ha ⟨cs, []⟩ cs vals Qv Ex room gu inv.env0 bind rv want) fun res st' hq => ?_)
  match res, hq with
  | .error er, hq => exact ps pins sl Ha st er st' inv hq
  | .ok (.ret u), hq => exact inv.after hq
theorem pe_callG (F : FnG X.prog X.w X.K X.mg X.base CX n fa fdt pars sp) (room : Room n X.A) (gu : X.A.guards = some []) (gl : Gl X nm) (at_ : X.mg nm = some (.ref fa)) (kp : PySem.W.keepIn X.K (.ref fa) = true) (bd : Binds X.K fdt pars []) (ps : Passes CX X Ex)
    (ha : PA X (a1 :: as) ta) (dbg : (nm == ("__debug__" : Str)) = false) (se : starEach (a1 :: as) X.env = (false, eval a1 X.env) :: starEach as X.env) (nost : (backTo pc (starEach as X.env)).any (·.1) = false) :
    PE X (.Call (.Name nm pn) (a1 :: as) [] pc) (tCall sp [] Ex ta) := by
  constructor
  intro pins st sl Ha Qv inv want
  refine wpAny_Call_Name_kw (ld_glob inv gl at_ ?_ dbg)
  refine PySem.W.callWith_K (h₀ := X.base) inv.ok.mod.kin kp (thn (ha.run pc pins st sl Ha _ inv want) fun cs st1 ⟨vals, H1, inv1, rv, q⟩ => ⟨inv1.kIn, ?_⟩) se nost
  have q : sp (vals ++ []) H1 Qv Ex := q
  rw [List.append_nil] at q
  exact go_fn F room gu bd ps inv1 rv q
theorem pe_callG0 (F : FnG X.prog X.w X.K X.mg X.base CX n fa fdt pars sp) (room : Room n X.A) (gu : X.A.guards = some []) (gl : Gl X nm) (at_ : X.mg nm = some (.ref fa)) (kp : PySem.W.keepIn X.K (.ref fa) = true) (bd : Binds X.K fdt pars []) (ps : Passes CX X Ex)
    (dbg : (nm == ("__debug__" : Str)) = false) : PE X (.Call (.Name nm pn) [] [] pc) (tCall sp [] Ex tNil) := by
  constructor
  intro pins st sl Ha Qv inv want
  refine wpAny_Call_Name_kw (ld_glob inv gl at_ ?_ dbg)
  exact PySem.W.callWith_K0 inv.kIn kp (go_fn (cs := []) F room gu bd ps inv .nil want)
end
section
variable {P : Program} {w : World} {K : PySem.W.Frag} {mg : Str → Option Value} {b0 : Heap} {nm qual : Str} {pars0 : Arguments} {bd : List Stmt} {sc : Scope} {fa : Addr} {fdt : FuncData}
theorem fnG_of {CX : CXT} {N pars : List Str} {n : Nat} {sp : Sp} (F : FunD K nm qual pars0 bd sc [] [] fa fdt) (S : FnScope N pars sc) (ln : ∀ vals Ha Qv Ex, sp vals Ha Qv Ex → vals.length = pars.length)
    (body : ∀ (cd : Value) (Ar : Around) (up : List Env) (st : Shared) (Ha : Hp) (vals : List V) (Qv : VK) (Ex : XK), Room n (Ar.deeper (envOfC qual sc st.heap.objs.size fa cd)) → Ar.guards = some [] → sp vals Ha Qv Ex →
      ∃ t, PSs (cxOf CX P w K mg b0 N qual sc fa cd Ar up st Ha Ex) bd t ∧ t { nx := fun _ H' => Qv .non H', rt := Qv } (start N vals) Ha) : FnG P w K mg b0 CX (n + 1) fa fdt pars sp := by
  obtain ⟨oc, od, dV, kV, doc, pm, an, cd, ct, osl, rfl, lk, hcd, _, _⟩ := F.ex
  constructor
  · exact ln
  intro Ar up st Ha ar cs vals Qv Ex room gu env0 bind rv want
  have len := ln _ _ _ _ want
  have kin : K.In st.heap := env0.mod.kin.keeps fun b o e => (env0.bs b o e).1
  have nolim : st.heap.NoLimit := env0.mod.nolimit.keeps fun b o e => (env0.bs b o e).1
  have kinds : ∀ y ∈ pars.zip cs, sc.names.lookup y.1 = some .local ∨ (sc.names.lookup y.1 = some .cell ∧ ((cellsFrom (st.heap.objs.size + 1) sc.names []).lookup y.1).isSome = true) := by
    rintro ⟨y, v⟩ hy
    cases S.par y (List.of_mem_zip hy).1 with
    | inl q => exact .inl q
    | inr q => exact .inr ⟨q, PySem.W.cellsFrom_some _ _ _ (.inl q)⟩
  refine codeAny_call_function room.depth (kin _ _ lk) rfl S.co S.gen rfl (PySem.W.codeRec_of kin hcd) (bind _ _ _ _ ?_)
  refine wpAny_newFunctionEnv_cells S.kind kinds fun en een st1 inC => ?_
  subst een
  refine ⟨nolim.keeps inC.toInCall.keep, codeAny_func ?_⟩
  obtain ⟨t, ht, hq⟩ := body cd Ar up st Ha vals Qv Ex (room.deeper _) gu want
  have inv : Inv (cxOf CX P w K mg b0 N qual sc fa cd Ar up st Ha Ex) [] (start N vals) Ha st1 := inv_start S room.hd env0 len rv inC
  refine wpAny_mono (ht.run [] st1 (start N vals) Ha _ inv hq) (fun fl st' hs => ?_) fun er st' hs => hs
  have done : ∀ {sl' : L2.St} {H' : Hp} {v : V} {u : Value}, Inv (cxOf CX P w K mg b0 N qual sc fa cd Ar up st Ha Ex) [] sl' H' st' → RelV v u → Qv v H' → CE up P w Ha st Qv u st' := fun {_ H' v u} J r q => ⟨v, H', J.os, J.bare, J.base, J.hok, r, q⟩
  match fl, hs with
  | .ret u, ⟨v, _, H', J, r, q⟩ => exact done J r q
  | .next, ⟨_, H', J, q⟩ => exact done (v := V.non) (u := Value.none) J rfl q
  | .brk, ⟨_, _, _, q⟩ => exact q.elim
  | .cont, ⟨_, _, _, q⟩ => exact q.elim
end
theorem law_callG {P : Program} {w : World} {K : PySem.W.Frag} {mg mb : Str → Option Value} {CX : CXT} {n : Nat} {fa la : Addr} {fdt : FuncData} {x : Str} {sp : Sp} {st : Shared} {cs : List Value} {ns : List Int}
    (kin : K.In st.heap) (gns : st.heap.Ns mainGlobals mg) (bns : st.heap.Ns builtinsNs mb) (bb : ∀ x : Str, x ≠ "__name__" → mb x = bootBuiltins x) (nolim : st.heap.NoLimit) (ge : st.gens = #[])
    (hla : st.heap.get? la = some { cls := .type "list", data := .seq cs.toArray }) (hi : IntsAre cs ns) (hl : ns.length ≤ sizeLine) (room : Room n callerA)
    (F : ∀ b0 : Heap, K.In b0 → b0.Ns mainGlobals mg → FnG P w K mg b0 CX n fa fdt [x] sp) (bind : ∀ (t : Shared) (u : Value), BindsTo t fdt ⟨[u], []⟩ [(x, u)])
    (want : ∀ Ha : Hp, Only Ha → SqL K Ha la (ns.map V.int) → sp [.ref la] Ha (fun v _ => v = .bl true) fun _ _ _ => False)
    (noX : ∀ Ha e t', CX [] Ha st (fun _ _ _ => False) e t' → False) :
    codeAny (model P w) callerA (.call (.ref fa) ⟨[.ref la], []⟩) (fun r t' => r = .ok (.ret (.bool true)) ∧ OldK st.heap t'.heap ∧ t'.os = st.os ∧ AllBare t'.gens) st := by
  have rvs := vals_ints hi
  have lens := hi.length
  have main : ∀ Ha : Hp, Only Ha → SqL K Ha la (ns.map V.int) → HOk P w Ha st.heap → (∀ b, Ha b ≠ none → b = la) → (Ha la ≠ none → K.lookup la = none) →
      codeAny (model P w) callerA (.call (.ref fa) ⟨[.ref la], []⟩) (fun r t' => r = .ok (.ret (.bool true)) ∧ OldK st.heap t'.heap ∧ t'.os = st.os ∧ AllBare t'.gens) st := by
    intro Ha only sq hok alone notK
    have hid : ∀ {b : Addr} {o : Obj}, st.heap.get? b = some o → Ha b = none → (hidT st.heap Ha).get? b = some o := fun q r => hidT_get q r
    have isla : ∀ {b : Addr} {u : HO}, Ha b = some u → b = la := fun {b u} q => alone b (by rw [q]; exact fun z => nomatch z)
    have dictNone : ∀ {b : Addr} {o : Obj} {es : Array DictEntry} {ep : Nat}, st.heap.get? b = some o → o.data = .dict es ep → Ha b = none := by
      intro b o es ep q d
      match hq : Ha b with
      | none => rfl
      | some u =>
        obtain rfl := isla hq
        rw [hla] at q
        obtain rfl := Option.some.inj q
        exact nomatch (show Data.seq cs.toArray _ = Data.dict es ep from d)
    have nsHid : ∀ {b : Addr} {m : Str → Option Value}, st.heap.Ns b m → (hidT st.heap Ha).Ns b m := by
      rintro b m ⟨o, es, ep, q, d, r⟩
      exact ⟨o, es, ep, hid q (dictNone q d), d, r⟩
    have kinHid : K.In (hidT st.heap Ha) := by
      intro b o q
      refine hid (kin b o q) ?_
      match hq : Ha b with
      | none => rfl
      | some u =>
        obtain rfl := isla hq
        rw [notK (by rw [hq]; exact fun z => nomatch z)] at q
        cases q
    have md : Mod K mg (hidT st.heap Ha) := ⟨kinHid, nsHid gns, ⟨mb, nsHid bns, bb⟩, by obtain ⟨mc, h1, h2⟩ := nolim; exact ⟨mc, nsHid h1, h2⟩⟩
    have env0 : Env0 P w K mg (hidT st.heap Ha) callerA [] st Ha := ⟨rfl, md, fun b o q => of_hidT q, Nat.le_of_eq (hidT_size _ _), trivial, fun b hb => absurd (show b ∈ ([] : List Addr) from hb) List.not_mem_nil, hok, .of_eq ge⟩
    refine codeAny_mono ((F _ kinHid (nsHid gns)).go callerA [] st Ha ⟨[.ref la], []⟩ [.ref la] [.ref la] _ _ room rfl env0 (bind st (.ref la)) (.cons rfl .nil) (want Ha only sq)) fun res t' hq => ?_
    match res, hq with
    | .error e, hq => exact (noX Ha e t' hq).elim
    | .ok (.ret u), ⟨v, H', os, bare, un, hok', rv, q⟩ =>
      obtain rfl : v = .bl true := q
      obtain rfl : u = Value.bool true := rv
      refine ⟨rfl, OldK.of_keep fun b o q => ?_, os, bare⟩
      match hb : Ha b with
      | none => exact un.keep b o q hb (fun z => absurd (show b ∈ ([] : List Addr) from z) List.not_mem_nil) List.not_mem_nil
      | some u =>
        rcases only b with z | ⟨ob, xs, z⟩
        · rw [z] at hb; cases hb
        · obtain ⟨q1, _⟩ := hok b _ z
          obtain ⟨q2, _⟩ := hok' b _ (un.frzs b ob _ z)
          rw [q] at q1
          obtain rfl := Option.some.inj q1
          exact q2
  match hk : K.lookup la with
  | some o =>
    have q := kin la o hk
    rw [hla] at q
    obtain rfl := Option.some.inj q
    refine main (fun _ => none) (fun _ => .inl rfl) (.inr ⟨_, cs.toArray, _, hk, rfl, rfl, rfl, ?_, by simpa using rvs⟩) (fun b u z => ?_) (fun b z => absurd rfl z) fun z => absurd rfl z
    · rw [List.size_toArray, lens]; exact hl
    · cases (show (none : Option HO) = some u from z)
  | none =>
    have yes : ∀ {b : Addr}, b = la → (if b = la then some (HO.frz { cls := .type "list", data := .seq cs.toArray } (.lst (ns.map V.int))) else none) = some (HO.frz { cls := .type "list", data := .seq cs.toArray } (.lst (ns.map V.int))) := fun q => if_pos q
    refine main (fun b => if b = la then some (.frz { cls := .type "list", data := .seq cs.toArray } (.lst (ns.map V.int))) else none) (fun b => ?_) (.inl (.inr ⟨{ cls := .type "list", data := .seq cs.toArray }, yes rfl⟩)) (fun b u z => ?_) (fun b z => ?_) fun _ => hk
    · by_cases q : b = la
      · exact .inr ⟨_, _, yes q⟩
      · exact .inl (if_neg q)
    · by_cases q : b = la
      · cases (yes q).symm.trans z
        subst q
        exact ⟨hla, by rw [List.length_map]; exact hl, cs, _, rvs, hla⟩
      · cases (if_neg q).symm.trans z
    · by_cases q : b = la
      · exact q
      · exact absurd (if_neg q) z
/-- a law, its def's promise being FnG -/
theorem walk_ofG {l : PySem.W.OpenLaw} {m n : Nat} {q : Program} {loose : List Str} {XP : (Str → Option Value) → Heap → Prop} {YP : World → Heap → Prop} {d : DefRec} {CX : CXT} {x : Str}
    (hm : l.most = some m) (hm2 : m ≤ sizeLine) (nodf : d.params.defaults = []) (room : Room n callerA)
    (F : ∀ (w : World) (mg : Str → Option Value) (fa : Addr) (h : Heap), YP w h → h.Ns mainGlobals mg → mg d.name = some (.ref fa) →
      ∃ (K : PySem.W.Frag) (fdt : FuncData) (sp : Sp), K.In h ∧ (∀ (t : Shared) (u : Value), BindsTo t fdt ⟨[u], []⟩ [(x, u)]) ∧
        (∀ (Ha : Hp) (la : Addr) (ns : List Int), ns.length ≤ m → Only Ha → SqL K Ha la (ns.map V.int) → sp [.ref la] Ha (fun v _ => v = .bl true) fun _ _ _ => False) ∧
        ∀ b0 : Heap, K.In b0 → b0.Ns mainGlobals mg → FnG l.prog w K mg b0 CX n fa fdt [x] sp)
    (noX : ∀ (Ha : Hp) (t : Shared) (e : Value) (t' : Shared), CX [] Ha t (fun _ _ _ => False) e t' → False) :
    PySem.W.WalkO q loose XP YP l.row.toRowW d [] (fun f vs => PySem.call f vs) := by
  refine Att.attach_call hm nodf fun w s0 st mg mb fa o pm cd doc la cs ns G Y _ _ _ hmg hobj hints hlen ge => ?_
  obtain ⟨K, fdt, sp, kin, bind, want, hF⟩ := F w mg fa _ Y G.T.g hmg
  exact law_callG kin G.T.g G.T.b G.T.builtins G.T.nolimit ge hobj hints (Nat.le_trans hlen hm2) room hF bind (fun Ha only sq => want Ha la ns hlen only sq) fun Ha e t' => noX Ha st e t'
end TW
end

section
/-! A def's body keeps its promise. -/
namespace TW
open PySem PySem.Spec PyProof.Rows L2
theorem outs_length : ∀ (as : List Rv) (z : En), (outs as z).length = as.length
  | [], z => by cases z <;> rfl
  | a :: as, [] => rfl
  | a :: as, x :: z => by simp [outs, outs_length as z]
theorem outs_get : ∀ {as : List Rv} {z : En} {j : Nat} {r : Rv} {x : Option Rv}, as[j]? = some r → z[j]? = some x → (outs as z)[j]? = some (outs1 r x)
  | [], _, _, _, _, h, _ => by simp at h
  | _ :: _, [], _, _, _, _, h => by simp at h
  | a :: as, y :: z, 0, r, x, h1, h2 => by
    simp at h1 h2
    subst h1; subst h2
    rfl
  | a :: as, y :: z, j + 1, r, x, h1, h2 => by
    simp only [outs, List.getElem?_cons_succ]
    exact outs_get (by simpa using h1) (by simpa using h2)
theorem outs1_own {r r' : Rv} (o : own r = true) (l : lent r = true) (h : RvS (some r) (some r')) : outs1 r (some r') = r' := by
  cases h with
  | refl => cases r <;> simp_all [outs1, own]
  | ol => rfl
  | od => rfl
  | fz => cases l
theorem outs1_not {r : Rv} {x : Option Rv} (o : own r = false) : outs1 r x = r := by
  cases r <;> simp_all [outs1, own]
section
variable {K : PySem.W.Frag} {as : List Rv} {vs : List V} {F0 H0 : Hp} {z : En} {σ : Sl} {F H : Hp}
theorem at_start {n m : Nat} (S : Sim K (as.map some) (vs.map some) F0 H0) (hl : ∀ a ∈ as, own a = true → lent a = true) (hn : vs.length = n) :
    At K as vs F0 H0 (as.map some ++ List.replicate m none) (vs.map some ++ List.replicate m none) F0 H0 := by
  have ln : as.length = vs.length := by simpa using S.len
  have zz : ∀ {i : Nat} {r : Rv}, (as.map some ++ List.replicate m none)[i]? = some (some r) → (as.map some)[i]? = some (some r) ∧ i < as.length := fun {i r} e => by
    by_cases hi : i < as.length
    · rw [List.getElem?_append_left (by simpa using hi)] at e
      exact ⟨e, hi⟩
    · rw [List.getElem?_append_right (by simpa using hi), List.getElem?_replicate] at e
      split at e <;> cases e
  have ss : ∀ {i : Nat}, i < as.length → (vs.map some ++ List.replicate m (none : Option V))[i]? = (vs.map some)[i]? := fun {i} hi => List.getElem?_append_left (by simpa [← ln] using hi)
  refine ⟨⟨by simp [ln], fun i r e => ?_, fun i j r s a e1 e2 o1 o2 p1 p2 => ?_, S.sub⟩, Step.refl S.sub, fun a o => .inl ?_, fun i r v e o ev => ?_, by simp⟩
  · obtain ⟨e, hi⟩ := zz e
    rw [ss hi]
    exact S.slot i r e
  · obtain ⟨e1, h1⟩ := zz e1
    obtain ⟨e2, h2⟩ := zz e2
    rw [ss h1] at p1
    rw [ss h2] at p2
    exact S.apart i j r s a e1 e2 o1 o2 p1 p2
  · obtain ⟨i, r, e, ow, p⟩ := o
    obtain ⟨e, hi⟩ := zz e
    exact ⟨i, r, e, ow, by rw [← ss hi]; exact p⟩
  · have hi := (List.getElem?_eq_some_iff.mp e).1
    refine ⟨hl r (List.mem_of_getElem? e) o, by rw [ss hi]; exact map_some' ev, r, ?_, .refl _⟩
    rw [List.getElem?_append_left (by simpa using hi)]
    exact map_some' e
theorem outs_ok (S : Sim K (as.map some) (vs.map some) F0 H0) (A : At K as vs F0 H0 z σ F H) : Sim K ((outs as z).map some) (vs.map some) F H ∧ Shr (as.map some) ((outs as z).map some) := by
  have ln : as.length = vs.length := by simpa using S.len
  have hz := A.nn
  have key : ∀ {j : Nat} {r : Rv}, as[j]? = some r → ∃ v r', vs[j]? = some v ∧ (outs as z)[j]? = some r' ∧ RvS (some r) (some r') ∧ own r' = own r ∧ (own r = true → σ[j]? = some (some v) ∧ z[j]? = some (some r')) ∧ RvOk K F H r' v := fun {j r} e => by
    have hj := (List.getElem?_eq_some_iff.mp e).1
    have hv : ∃ v, vs[j]? = some v := ⟨vs[j]'(by omega), List.getElem?_eq_getElem (by omega)⟩
    obtain ⟨v, hv⟩ := hv
    have hx : ∃ x, z[j]? = some x := ⟨z[j]'(by omega), List.getElem?_eq_getElem (by omega)⟩
    obtain ⟨x, hx⟩ := hx
    cases o : own r with
    | false =>
      refine ⟨v, r, hv, by rw [outs_get e hx, outs1_not o], .refl _, o.trans rfl, fun q => (Bool.false_ne_true (o ▸ q)).elim, ?_⟩
      obtain ⟨w, k1, k2⟩ := S.slot j r (map_some' e)
      rw [map_some' hv] at k1
      cases k1
      exact k2.keep A.step.same fun q => by rw [o] at q; cases q
    | true =>
      obtain ⟨l, s1, r', s2, s3⟩ := A.arg j r v e o hv
      refine ⟨v, r', hv, by rw [outs_get e s2, outs1_own o l s3], s3, (lent_S l s3).1, fun _ => ⟨s1, s2⟩, ?_⟩
      obtain ⟨w, k1, k2⟩ := A.sim.slot j r' s2
      rw [s1] at k1
      cases k1
      exact k2
  have back : ∀ {j : Nat} {r' : Rv}, (outs as z)[j]? = some r' → ∃ r, as[j]? = some r := fun {j r'} e => by
    have := (List.getElem?_eq_some_iff.mp e).1
    rw [outs_length] at this
    exact ⟨as[j], List.getElem?_eq_getElem this⟩
  refine ⟨⟨by simp [outs_length, ln], fun i r e => ?_, fun i j r s a e1 e2 o1 o2 p1 p2 => ?_, A.sim.sub⟩, by simp [outs_length], fun i r e => ?_⟩
  · obtain ⟨r0, e0⟩ := back (map_some e)
    obtain ⟨v, r', h1, h2, h3, h4, h5, h6⟩ := key e0
    rw [map_some e] at h2
    cases h2
    exact ⟨v, map_some' h1, h6⟩
  · obtain ⟨r0, e0⟩ := back (map_some e1)
    obtain ⟨v, r', h1, h2, h3, h4, h5, h6⟩ := key e0
    rw [map_some e1] at h2
    cases h2
    obtain ⟨s0, f0⟩ := back (map_some e2)
    obtain ⟨w, s', g1, g2, g3, g4, g5, g6⟩ := key f0
    rw [map_some e2] at g2
    cases g2
    obtain ⟨a1, a2⟩ := h5 (by rw [← h4]; exact o1)
    obtain ⟨b1, b2⟩ := g5 (by rw [← g4]; exact o2)
    rw [map_some p1] at h1
    rw [map_some p2] at g1
    cases h1; cases g1
    exact A.sim.apart i j r s a a2 b2 o1 o2 a1 b1
  · cases r with
    | none =>
      rw [List.getElem?_map] at e
      cases q : as[i]? with
      | none => rw [q] at e; cases e
      | some x => rw [q] at e; cases e
    | some r =>
      obtain ⟨v, r', h1, h2, h3, _⟩ := key (map_some e)
      exact ⟨some r', map_some' h2, h3⟩
theorem fin_ok (A : At K as vs F0 H0 z σ F H) {r r' : Res} {v : V} (h : ResOk K z σ F H r v) (fr : fresh r = true → ∀ a, v = .ref a → H0 a = none) (e : fin z r = some r') : ResOk K [] [] F H r' v ∧ (fresh r' = true → ∀ a, v = .ref a → H0 a = none) := by
  cases r with
  | sc => cases e
  | d x => cases e; exact ⟨h, fr⟩
  | fl xs => cases e; exact ⟨h, fr⟩
  | fd t kvs => cases e; exact ⟨h, fr⟩
  | al i =>
    obtain ⟨h1, r, h2, h3⟩ := h
    simp only [fin, h2] at e
    obtain ⟨w, k1, k2⟩ := A.sim.slot i r h2
    rw [h1] at k1
    cases k1
    have new : own r = true → lent r = false → ∀ a, v = .ref a → H0 a = none := fun o l a ea => by
      subst ea
      rcases A.ows a ⟨i, r, h2, o, h1⟩ with q | q
      · obtain ⟨j, s, e1, o1, e2⟩ := q
        obtain ⟨l', s1, s', s2, s3⟩ := A.arg j s _ (map_some e1) o1 (map_some e2)
        obtain ⟨o2, l2⟩ := lent_S l' s3
        have := A.sim.apart i j r s' a h2 s2 o o2 h1 s1
        subst this
        rw [h2] at s2
        cases s2
        rw [l] at l2; cases l2
      · exact q
    cases r with
    | ol xs b =>
      cases b with
      | true => cases e
      | false => cases e; exact ⟨k2, fun _ => new rfl rfl⟩
    | od t xs b =>
      cases b with
      | true => cases e
      | false => cases e; exact ⟨k2, fun _ => new rfl rfl⟩
    | d x => cases e; exact ⟨k2, fun f => by cases f⟩
    | sc => cases h3
end
section
variable {P : Program} {w : World} {K : PySem.W.Frag} {mg : Str → Option Value} {base : Heap} {x qual : Str} {params : Arguments} {body : List Stmt} {scope : Scope} {f : Addr} {fdt : FuncData}
theorem fn_ok {CX : CXT} {Fs : Nat → Option Fd} {W k i : Nat} {fd : Fd} {N ps : List Str} (F : FunD K x qual params body scope [] [] f fdt) (S : FnScope N ps scope) (hf : Fs i = some fd) (hnp : fd.np = ps.length) (hn : fd.n = N.length)
    (hbody : ∀ (cdv : Value) (A : Around) (outer : List Env) (s : Shared) (H : Hp) (E : XK), Room k (A.deeper (envOfC qual scope s.heap.objs.size f cdv)) → A.guards = some [] →
      ∀ as vs F0 H0, ∃ t, PSs (cxOf CX P w K mg base N qual scope f cdv A outer s H E) body t ∧ SoundS K as vs F0 H0 (evS (callK Fs W k) W fd.body) t) :
    FnG P w K mg base CX (k + 1) f fdt ps (SpK K (callK Fs W (k + 1)) i ps.length) := by
  refine fnG_of F S (fun vs H Q E h => h.1) fun cdv A outer s H vs Q E hr gu hsp => ?_
  obtain ⟨hl, F0, args, r, os, sim, hlt, hc, hq⟩ := hsp
  obtain ⟨t, ht, st⟩ := hbody cdv A outer s H E hr gu args vs F0 H
  refine ⟨t, ht, ?_⟩
  simp only [callK, hf] at hc
  split at hc
  · rename_i hlen
    have e0 : L2.start N vs = vs.map some ++ List.replicate (fd.n - fd.np) none := by
      unfold L2.start
      rw [hn, hnp, hl]
    have A0 := at_start (m := fd.n - fd.np) sim hlt hl
    rw [e0]
    split at hc
    · rename_i r' z1 e1
      obtain ⟨r2, h1, h2⟩ := Option.map_eq_some_iff.mp hc
      cases h2
      refine st _ _ F0 H _ _ z1 A0 e1 fun v σ1 F1 H1 A1 _ ok fr => ?_
      obtain ⟨o1, o2⟩ := outs_ok sim A1
      obtain ⟨q1, q2⟩ := fin_ok A1 ok fr h1
      exact hq v F1 H1 A1.step o1 o2 q1 q2
    · rename_i z1 e1
      cases hc
      refine st _ _ F0 H _ _ z1 A0 e1 fun σ1 F1 H1 A1 _ => ?_
      obtain ⟨o1, o2⟩ := outs_ok sim A1
      exact hq .non F1 H1 A1.step o1 o2 .non fun f => by cases f
    · cases hc
  · cases hc
end
end TW
end

section
/-! sorted of tuples among which the empty one may stand. -/
namespace TW
open PySem PySem.Spec PyProof.Rows L2 PySem.W PySem.SeqAt
section
variable {prog : Program} {w : World} {A : Around} {s : Shared} {E : Value → Shared → Prop}
theorem mapM_by {β : Type} {M : Model} {f : Value → Sem β} : ∀ {vs : List Value} {rs : List β} {Q : List β → Shared → Prop}, EachIs (fun v r => ∀ Q' : β → Shared → Prop, Q' r s → wpAny M A (f v) Q' E s) vs rs → Q rs s → wpAny M A (vs.mapM f) Q E s
  | _, _, _, .nil, h => by rw [List.mapM_nil]; exact wpAny_pure h
  | _, _, Q, .cons (a := v) (b := r) h1 t, h => by
    rw [List.mapM_cons]
    exact wpAny_bind (h1 _ (wpAny_bind (mapM_by (Q := fun bs s' => wpAny M A (pure (r :: bs)) Q E s') t (wpAny_pure h))))
theorem firsts_of {M : Model} : ∀ {vs : List Value} {ds : List D}, EachIs (fun v d => ∃ as, Reads s.heap v d as) vs ds → (∀ d ∈ ds, ∃ xs, d = .tuple xs) →
    ∃ rs : List (Option Value), EachIs (fun v r => ∀ Q' : Option Value → Shared → Prop, Q' r s → wpAny M A (firstOfTuple' v) Q' E s) vs rs ∧ rs.length = vs.length ∧ ((∃ d ∈ ds, d = .tuple []) → none ∈ rs)
  | _, _, .nil, _ => ⟨[], .nil, rfl, fun ⟨_, h, _⟩ => by cases h⟩
  | _, _, .cons (b := d) ⟨as, r⟩ t, ht => by
    obtain ⟨rs, h1, h2, h3⟩ := firsts_of t fun d hd => ht d (List.mem_cons_of_mem _ hd)
    obtain ⟨xs, rfl⟩ := ht _ (List.mem_cons_self ..)
    cases r with
    | @tuple a o its n _ _ ho hc hd hr =>
      refine ⟨its[0]? :: rs, .cons (fun Q' q => ?_) h1, by rw [List.length_cons, List.length_cons, h2], fun ⟨d, hm, e⟩ => ?_⟩
      · rw [kas_first_eq]
        refine wpAny_bind (Looks.here (show Looks M s.heap (typeOf (.ref a)) o.cls from (Looks.ld ho).andThen .now) ?_)
        rw [hc, if_neg (by first | decide | simp)]
        exact wpAny_bind (listItems_at ho hd (wpAny_pure q))
      · rcases List.mem_cons.mp hm with e2 | hm
        · rw [e] at e2
          cases e2
          have e3 : its.toList = [] := by
            cases q : its.toList with
            | nil => rfl
            | cons x r => rw [q] at hr; cases hr
          have e4 : its[0]? = none := by rw [← Array.getElem?_toList, e3]; rfl
          rw [e4]; exact List.mem_cons_self ..
        · exact List.mem_cons_of_mem _ (h3 ⟨d, hm, e⟩)
/-- which kind it is -/
theorem kind_of {vs : List Value} {ds : List D} (e : EachIs (fun v d => ∃ as, Reads s.heap v d as) vs ds) (ht : ∀ d ∈ ds, ∃ xs, d = .tuple xs) (h0 : ∃ d ∈ ds, d = .tuple []) :
    ∃ kd, (kd = general' ∨ kd = oneType') ∧ ∀ {M : Model} (A : Around) (E : Value → Shared → Prop) {Q : SortKind → Shared → Prop}, Q kd s → wpAny M A (keyKind' vs.toArray) Q E s := by
  have key : ∃ r0 : Option Value, ∀ {M : Model} (A : Around) (E : Value → Shared → Prop) , ∃ rs : List (Option Value), rs[0]? = some r0 ∧ EachIs (fun v r => ∀ Q' : Option Value → Shared → Prop, Q' r s → wpAny M A (firstOfTuple' v) Q' E s) vs rs ∧ none ∈ rs := by
    cases e with
    | nil => obtain ⟨d, h, _⟩ := h0; cases h
    | @cons v d vs ds h t =>
      obtain ⟨as, r⟩ := h
      obtain ⟨xs, rfl⟩ := ht _ (List.mem_cons_self ..)
      cases r with
      | @tuple a o its n _ _ ho hc hd hr =>
        refine ⟨its[0]?, fun {M} A E => ?_⟩
        obtain ⟨rs, h1, h2, h3⟩ := firsts_of (A := A) (E := E) (M := M) t fun d hd => ht d (List.mem_cons_of_mem _ hd)
        refine ⟨its[0]? :: rs, rfl, .cons (fun Q' q => ?_) h1, ?_⟩
        · rw [kas_first_eq]
          refine wpAny_bind (Looks.here (show Looks M s.heap (typeOf (.ref a)) o.cls from (Looks.ld ho).andThen .now) ?_)
          rw [hc, if_neg (by first | decide | simp)]
          exact wpAny_bind (listItems_at ho hd (wpAny_pure q))
        · obtain ⟨d, hm, ed⟩ := h0
          rcases List.mem_cons.mp hm with e2 | hm
          · rw [ed] at e2
            cases e2
            have e3 : its.toList = [] := by
              cases q : its.toList with
              | nil => rfl
              | cons x r => rw [q] at hr; cases hr
            have e4 : its[0]? = none := by rw [← Array.getElem?_toList, e3]; rfl
            rw [e4]; exact List.mem_cons_self ..
          · exact List.mem_cons_of_mem _ (h3 ⟨d, hm, ed⟩)
  obtain ⟨r0, key⟩ := key
  refine ⟨if r0.isSome = true then general' else oneType', by split <;> simp, fun {M} A E Q q => ?_⟩
  obtain ⟨rs, k0, k1, k2⟩ := key (M := M) A E
  rw [keyKind'_eq, List.mapM_toArray, map_eq_pure_bind]
  refine wpAny_bind (wpAny_bind (mapM_by k1 (wpAny_pure ?_)))
  have na : (rs.toArray.all fun x => x.isSome) = false := by
    rw [Bool.eq_false_iff]
    intro h
    simp only [List.all_toArray, List.all_eq_true] at h
    have := h none k2
    cases this
  rw [if_neg (by rw [na]; simp)]
  have e0 : rs.toArray[0]? = some r0 := by simpa using k0
  rw [e0]
  show wpAny M A (if (id r0).isSome = true then _ else _) Q E s
  cases r0 with
  | some v =>
    rw [if_pos (show (id (some v)).isSome = true from rfl)]
    rw [if_pos (show (some v).isSome = true from rfl)] at q
    exact wpAny_pure q
  | none =>
    rw [if_neg (by simp)]
    rw [if_neg (by simp)] at q
    have hT : ∀ v ∈ vs, Looks M s.heap (typeOf v) (.type "tuple") := fun v hv => by
      obtain ⟨d, hd, as, r⟩ := e.left v hv
      obtain ⟨xs, rfl⟩ := ht d hd
      exact looks_reads r
    have hne : vs ≠ [] := by
      intro q
      subst q
      cases e
      obtain ⟨d, h, _⟩ := h0
      cases h
    obtain ⟨v₁, rest, rfl⟩ : ∃ v₁ rest, vs = v₁ :: rest := by
      cases vs with
      | nil => exact absurd rfl hne
      | cons v r => exact ⟨v, r, rfl⟩
    rw [oneTypeOnly'_eq, List.mapM_toArray, map_eq_pure_bind]
    refine wpAny_bind (wpAny_bind (wpAny_bind (kas_mapM (r := Value.type "tuple") _ (fun v hv Q' hq => (hT v hv).here hq) (wpAny_pure ?_))))
    have hall : ((List.map (fun _ => Value.type "tuple") (v₁ :: rest)).toArray.all fun x => x == Value.type "tuple") = true := by
      simp only [List.all_toArray, List.all_map, List.all_eq_true]
      intro _ _
      exact beq_self_eq_true _
    have h0 : (List.map (fun _ => Value.type "tuple") (v₁ :: rest)).toArray[0]? = some (Value.type "tuple") := by simp
    rw [h0]
    simp only [hall, if_true]
    exact wpAny_pure (wpAny_pure q)
theorem call_tuple_lt {Q : Value → Shared → Prop} {l b : Addr} {items items2 : Array Value} {e r : Nat → Bool} (hl : s.heap.IsTuple l items) (hb : s.heap.IsTuple b items2)
    (he : ∀ j (h1 : j < items.size) (h2 : j < items2.size), EqAt A.in1 s items[j] items2[j] (e j)) (hr : ∀ j (h1 : j < items.size) (h2 : j < items2.size), e j = false → RcLt A.in1 s items[j] items2[j] (r j))
    (h : Q (.bool (firstLt e r (decide (items.size < items2.size)) (List.range (min items.size items2.size)))) s) : wpAny (model prog w) A (call (.builtin "tuple.__lt__") [.ref l, .ref b]) Q E s := by
  obtain ⟨⟨cls, dd, data, sl⟩, ho, hc, n, hd⟩ := id hl
  obtain ⟨⟨cls2, dd2, data2, sl2⟩, ho2, hc2, n2, hd2⟩ := id hb
  simp only at hc hd hc2 hd2
  subst hc hd hc2 hd2
  exact call_meets PySem.F.slot_tuple_lt ⟨_, ho, rfl⟩ PySem.F.entry_tuple_lt (PySem.F.args_tuple_lt_2 _ _) (tuple_ltAt l b items items2 n n2 dd dd2 sl sl2 e r) ⟨ho, ho2, he, hr, h⟩
theorem lt_tup {da db : D} {a b : Value} {as bs : List Addr} {Q : Bool → Shared → Prop} {kd : SortKind} (hk : kd = general' ∨ kd = oneType') (ht : ∃ xs, da = .tuple xs) (ra : Reads s.heap a da as) (rb : Reads s.heap b db bs) (h : alike da db = true)
    (hu : A.units + min da.depth db.depth < cLine) (hq : Q (dataLt da db) s) : wpAny (model prog w) A (keyLt' kd a b) Q E s := by
  obtain ⟨xs, rfl⟩ := ht
  rcases hk with rfl | rfl
  · show wpAny _ _ (oneLt' false a b) _ _ _
    exact oneLt_alike (fun z => by cases z) ra rb h (fun z => by cases z) hu hq
  · rw [keyLt'_oneType]
    cases db with
    | tuple ys =>
      have hal : alikeAll xs ys = true := by simpa [alike] using h
      cases ra with
      | @tuple l o vs n _ as₁ h1 h2 h3 h4 =>
        cases rb with
        | @tuple l' o' vs' n' _ bs₁ k1 k2 k3 k4 =>
          have n1 : vs.size = xs.length := by simpa using SeqAt.ReadsAll.length _ _ _ h4
          have n2 : vs'.size = ys.length := by simpa using SeqAt.ReadsAll.length _ _ _ k4
          rw [dataLt_tuple, ← firstLt_toks xs ys hal, ← n1, ← n2] at hq
          rw [oneLt'_eq]
          simp only [if_true]
          refine wpAny_bind (wpAny_cRoomFor (SeqAt.room_here hu) ?_)
          refine wpAny_bind (wpAny_callSpecialIfBound?_slot (T := "tuple") ⟨_, h1, h2⟩ PySem.F.slot_tuple_lt (call_tuple_lt (e := pairEq xs ys) (r := fun j => dataLt (xs.getD j .none) (ys.getD j .none)) ⟨_, h1, h2, _, h3⟩ ⟨_, k1, k2, _, k3⟩ (fun j j1 j2 => ?_) (fun j j1 j2 hj => ?_) ?_))
          · have := eqAt_alikeAll xs ys A.in1 s vs.toList vs'.toList _ _ h4 k4 hal (SeqAt.room_in hu) j (by simpa using j1) (by simpa using j2)
            simpa using this
          · have := rcLt_alikeAll xs ys A.in1 s vs.toList vs'.toList _ _ h4 k4 hal (SeqAt.room_in hu) j (by simpa using j1) (by simpa using j2) hj
            simpa using this
          · exact wpAny_truthy_bool hq
    | _ => exact absurd h (by simp [alike])
theorem sortsAt_tup {vs : List Value} {ds : List D} (e : EachIs (fun v d => ∃ as, Reads s.heap v d as) vs ds) (hal : AllAlike ds) (ht : ∀ d ∈ ds, ∃ xs, d = .tuple xs) (h0 : ∃ d ∈ ds, d = .tuple []) (hu : ∀ d, d ∈ ds → A.units + d.depth < cLine) : SortsAt prog w A s (dataKind s.heap ds) vs := by
  refine ⟨fun v hv => ?_, ?_⟩
  · obtain ⟨d, hd, as, r⟩ := e.left v hv
    exact ⟨_, dataKind_some hal hd r⟩
  · obtain ⟨kd, hk, q⟩ := kind_of e ht h0
    refine ⟨kd, ?_, fun _ E Q hq => q A E hq⟩
    intro E x y a b Q ha hb hq
    obtain ⟨d, as, hd, ra, rfl⟩ := dataKind_inv ha
    obtain ⟨d', as', hd', rb, rfl⟩ := dataKind_inv hb
    exact lt_tup hk (ht d hd) ra rb (hal d hd d' hd') (Nat.lt_of_le_of_lt (Nat.add_le_add_left (Nat.min_le_left _ _) _) (hu d hd)) hq
theorem alikeAny_ok {xs : List D} (h : alikeAny xs = true) : AllAlike xs := fun d hd d' hd' => by
  unfold alikeAny at h
  simp only [List.all_eq_true] at h
  exact h d hd d' hd'
theorem srt_at {vs : List Value} {ds : List D} (er : EachIs (fun v d => ∃ as, Reads s.heap v d as) vs ds) (ok : srtOk ds = true) (hu : A.units + 160 < cLine) : SortsAt prog w A s (dataKind s.heap ds) vs := by
  unfold srtOk at ok
  simp only [Bool.and_eq_true, List.all_eq_true, decide_eq_true_eq] at ok
  obtain ⟨⟨o1, o2⟩, o3⟩ := ok
  have hal := alikeAny_ok o1
  have hu' : ∀ d, d ∈ ds → A.units + d.depth < cLine := fun d hd => by have := o2 d hd; omega
  rcases Bool.or_eq_true_iff.mp o3 with o3 | o3
  · have ht : ∀ d ∈ ds, ∃ xs, d = .tuple xs := fun d hd => by
      have := List.all_eq_true.mp o3 d hd
      cases d <;> simp at this
      exact ⟨_, rfl⟩
    by_cases h0 : ∃ d ∈ ds, d = .tuple []
    · exact sortsAt_tup er hal ht h0 hu'
    · refine SortsAt.data er hal (.inl fun d hd => ?_) hu'
      obtain ⟨xs, rfl⟩ := ht d hd
      cases xs with
      | nil => exact absurd ⟨_, hd, rfl⟩ h0
      | cons x r => exact ⟨x, r, rfl⟩
  · refine SortsAt.data er hal (.inr fun d hd => ?_) hu'
    have := List.all_eq_true.mp o3 d hd
    cases d <;> simp at this <;> exact ⟨by simp, by simp⟩
/-- collected into a new list, which stands at the old size -/
theorem collect_src {R : List Value → Shared → Prop} {T : String} {r d n : Nat} {P : Nat → Value → Prop} {OK : Heap → Prop} (K : KdlSrc prog w T r d n P OK) (hh : A.handled = none) (hok : OK s.heap) (hn : n ≤ sizeLine)
    (h : ∀ (h' : Heap) (tk : Nat) (acc : Array Value), (∀ b o, s.heap.get? b = some o → h'.get? b = some o) → s.heap.objs.size < h'.objs.size → ItemsOf P acc n → R acc.toList { s with heap := h', toks := tk }) :
    wpAny (model prog w) A (collect (.ref r)) R E s := by
  have lt := K.there _ hok
  have old : ∀ b o, s.heap.get? b = some o → (s.heap.push { cls := .type "list", data := .seq ([] : List Value).toArray }).get? b = some o := fun b o e => Heap.get?_push_of_some _ e
  unfold collect
  refine wpAny_bind (wpAny_runValue (codeAny_builtin entry_proto_collect' ?_))
  rw [Around.under_plainId PySem.F.plain_proto_collect _]
  show wpAny _ A.in1 (newList [] >>= fun l => again (.builtin "list.__iadd__" ⟨[l, .ref r], []⟩)) _ _ s
  refine wpAny_bind (wpAny_newObj_type ?_)
  refine wpAny_pure ⟨plainId_quiet PySem.F.plain_list_iadd _, codeAny_builtin entry_list_iadd' ?_⟩
  rw [Around.under_plainId PySem.F.plain_list_iadd _]
  show wpAny _ A.in1 (Builtin.List.listExtendWith (.ref s.heap.objs.size) (.ref r) (.ref s.heap.objs.size)) _ _ _
  have ext := kdl_extend (A := A) (s := { s with heap := s.heap.push { cls := .type "list", data := .seq ([] : List Value).toArray } })
    (R := fun (q : Result) (s' : Shared) => q = .ok (.ret (.ref s.heap.objs.size)) ∧ ∃ (h' : Heap) (tk : Nat) (acc : Array Value) (c : Nat), s' = { s with heap := h', toks := tk } ∧ h'.get? s.heap.objs.size = some { cls := .type "list", dict := none, data := .seq acc c, slots := #[] } ∧
      (∀ b o, s.heap.get? b = some o → h'.get? b = some o) ∧ ItemsOf P acc n)
    K hh (K.keep _ _ hok fun b _ o e => old b o e) s.heap.objs.size (Nat.ne_of_gt lt.1) (Nat.ne_of_gt lt.2) (.ref s.heap.objs.size) 0 (Heap.get?_push_size _ rfl)
    (fun h' tk acc c k1 k2 k3 => ⟨rfl, h', tk, acc, c, rfl, k2, fun b o e => k1 b o (Nat.ne_of_lt (Heap.lt_size e)) (old b o e), k3⟩) hn
  have last : ∀ s', (∃ (h' : Heap) (tk : Nat) (acc : Array Value) (c : Nat), s' = { s with heap := h', toks := tk } ∧ h'.get? s.heap.objs.size = some { cls := .type "list", dict := none, data := .seq acc c, slots := #[] } ∧
      (∀ b o, s.heap.get? b = some o → h'.get? b = some o) ∧ ItemsOf P acc n) → ∃ (h' : Heap) (tk : Nat) (acc : Array Value) (c : Nat), s' = { s with heap := h', toks := tk } ∧ h'.get? s.heap.objs.size = some { cls := .type "list", dict := none, data := .seq acc c, slots := #[] } ∧ R acc.toList s' := fun s' ⟨h', tk, acc, c, e, k1, k2, k3⟩ => ⟨h', tk, acc, c, e, k1, by subst e; exact h h' tk acc k2 (Heap.lt_size k1) k3⟩
  refine wpAny_mono ext (fun fin s' x => ?_) fun e s' x => (by first | exact x.elim | (obtain ⟨e', _⟩ := x; cases e'))
  cases fin with
  | done f =>
    obtain ⟨e, x⟩ := x
    obtain ⟨h', tk, acc, c, rfl, k1, q⟩ := last s' x
    cases e
    show wpAny _ A (load s.heap.objs.size >>= _) _ _ _
    exact wpAny_bind (wpAny_load k1 (wpAny_pure q))
  | again c₁ =>
    refine ⟨x.1, codeAny_mono x.2 fun q s₂ y => ?_⟩
    obtain ⟨rfl, y⟩ := y
    obtain ⟨h', tk, acc, c, rfl, k1, q⟩ := last s₂ y
    show wpAny _ A (load s.heap.objs.size >>= _) _ _ _
    exact wpAny_bind (wpAny_load k1 (wpAny_pure q))
/-- sorted of what an iterator gives -/
theorem sorted_src {Q : Value → Shared → Prop} {T : String} {r d n : Nat} {P : Nat → Value → Prop} {OK : Heap → Prop} (K : KdlSrc prog w T r d n P OK) (hh : A.handled = none) (hok : OK s.heap) (hn : n ≤ sizeLine)
    (h : ∀ (h' : Heap) (tk : Nat) (acc : Array Value), (∀ b o, s.heap.get? b = some o → h'.get? b = some o) → s.heap.objs.size < h'.objs.size → ItemsOf P acc n →
      ∃ κ, SortsAt prog w A.in1.in1 { s with heap := sortingHeap (h'.push (seqObj "list" acc.toList.toArray 0)) h'.objs.size acc.toList, toks := tk } κ acc.toList ∧
        Q (.ref h'.objs.size) { s with heap := sortedHeap (h'.push (seqObj "list" acc.toList.toArray 0)) h'.objs.size acc.toList (sortVals κ false acc.toList acc.toList).toArray, toks := tk }) :
    wpAny (model prog w) A (call (.builtin "sorted") [.ref r]) Q E s := by
  refine PySem.Calls.call_function_entry kind_sorted plain_sorted entry_sorted (args_sorted1 _) ?_
  unfold Builtin.«sorted»
  refine wpAny_bind (m := checkCount "sorted" 1 1 _) (wpAny_pure ?_)
  refine wpAny_bind (collect_src (A := A.in1) K hh hok hn fun h' tk acc hk hlt hacc => ?_)
  have hl : acc.toList.length = n := by rw [Array.length_toList]; exact hacc.1
  refine wpAny_bind (wpAny_newList ?_ (by rw [hl]; exact hn))
  obtain ⟨κ, S, q⟩ := h h' tk acc hk hlt hacc
  have hat : (h'.push (seqObj "list" acc.toList.toArray 0)).get? h'.objs.size = some (seqObj "list" acc.toList.toArray 0) := Heap.get?_push_size _ rfl
  refine wpAny_bind (wpAny_holding (wpAny_call_entry_kw slot_list_sort ⟨_, hat, rfl⟩ entry_list_sort ?body (args_list_sort _)))
  case body =>
    show wpAny (model prog w) A.in1.in1 (Builtin.«list.sort» ⟨[.ref h'.objs.size], []⟩) _ _ { s with heap := h'.push (seqObj "list" acc.toList.toArray 0), toks := tk }
    refine list_sort_vals (s := { s with heap := h'.push (seqObj "list" acc.toList.toArray 0), toks := tk }) hat S (by rw [hl]; exact hn) ?_
    exact ⟨_, rfl, wpAny_pure ⟨_, rfl, q⟩⟩
end
section
variable {X : Cx}
theorem vals_each {F : Hp} : ∀ {us : List Value} {ds : List D}, EachIs (fun u d => ∃ x, RelV x u ∧ Rep F x d) us ds → ∃ xs, Vals xs us ∧ RepL F xs ds
  | _, _, .nil => ⟨[], .nil, .nil⟩
  | _, _, .cons ⟨x, r1, r2⟩ t => by
    obtain ⟨xs, h1, h2⟩ := vals_each t
    exact ⟨x :: xs, .cons r1 h1, .cons r2 h2⟩
theorem each_vals {F : Hp} : ∀ {xs : List V} {us : List Value} {ds : List D}, Vals xs us → RepL F xs ds → EachIs (fun u d => ∃ x, RelV x u ∧ Rep F x d) us ds
  | _, _, _, .nil, .nil => .nil
  | _, _, _, .cons r t, .cons h t' => .cons ⟨_, r, h⟩ (each_vals t t')
theorem each_reads {pins : List (Addr × Obj)} {σ : List (Option V)} {H F : Hp} {s : Shared} (I : Inv X pins σ H s) (sm : Same F H) {xs : List V} {us : List Value} {ds : List D} (r : Vals xs us) (h : RepL F xs ds) : EachIs (fun u d => ∃ as, Reads s.heap u d as) us ds := by
  have e := each_vals r h
  clear r h
  induction e with
  | nil => exact .nil
  | cons h t ih =>
    obtain ⟨x, r1, r2⟩ := h
    exact .cons (L2.Dp.reads I _ x _ (r2.dp sm) r1) ih
theorem each_keeps {h h' : Heap} (k : ∀ b o, h.get? b = some o → h'.get? b = some o) {us : List Value} {ds : List D} (e : EachIs (fun u d => ∃ as, Reads h u d as) us ds) : EachIs (fun u d => ∃ as, Reads h' u d as) us ds :=
  e.mono fun _ _ ⟨as, r⟩ => ⟨as, PyProof.Rows.Reads.keeps k r⟩
theorem sorted_out {h' : Heap} {F : Hp} {us : List Value} {ds : List D} (e : EachIs (fun u d => ∃ x, RelV x u ∧ Rep F x d) us ds) (er : EachIs (fun u d => ∃ as, Reads h' u d as) us ds) (ok : srtOk ds = true) :
    EachIs (fun u d => ∃ x, RelV x u ∧ Rep F x d) (sortVals (dataKind h' ds) false us us) (ds.mergeSort dataB) := by
  unfold srtOk at ok
  simp only [Bool.and_eq_true] at ok
  have := sortVals_data (h' := h') (enc := fun d : D => d) false e er (by rw [List.map_id']; exact alikeAny_ok ok.1.1)
  rw [List.map_id'] at this
  exact this
theorem srt_end {pins : List (Addr × Obj)} {σ : List (Option V)} {H F F' : Hp} {s : Shared} {Q : VK} {hf : Heap} {tk : Nat} {D : Addr} {e : Nat} {out : List Value} {ds : List TW.D} (I : Inv X pins σ H s) (t : Step N0 F H F' H)
    (k : ∀ b o, s.heap.get? b = some o → hf.get? b = some o) (hD : s.heap.objs.size ≤ D) (ha : hf.get? D = some (seqObj "list" out.toArray e)) (ho : EachIs (fun u d => ∃ x, RelV x u ∧ Rep F' x d) out ds) (hn : ds.length ≤ sizeLine) (q : After F H (.fl ds) Q) :
    EP X pins σ Q (.ref D) { s with heap := hf, toks := tk } := by
  obtain ⟨xs, v1, v2⟩ := vals_each ho
  have nD : H D = none := I.hok.fresh hD
  refine ⟨.ref D, upd H D (.lst xs), I.laid (t' := tk) k hD ⟨by rw [v2.length]; exact hn, out, e, v1, ha⟩, rfl, ?_⟩
  have t2 : Step N0 F' H F' (upd H D (.lst xs)) := Step.mk' t.sub nD
  exact q _ _ _ (t.trans t2 fun _ z => z.elim) ⟨D, xs, rfl, nD, t.sub.free nD, upd_same, v2⟩
theorem srt_list (hu : X.A.units + 200 < cLine) {F H : Hp} {Q : VK} {v : V} {ds : List TW.D} (sm : Same F H) (h : RepH F H v (.list ds)) (ok : srtOk ds = true) (q : After F H (.fl (ds.mergeSort dataB)) Q) :
    ∀ (pins : List (Addr × Obj)) (s : Shared) (σ : List (Option V)) (us : List Value), Inv X pins σ H s → Vals [v] us → wpAny (model X.prog X.w) X.A (call (.builtin "sorted") us) (EP X pins σ Q) X.xe s := by
  intro pins s σ us I r
  have key : ∃ a vs, v = .ref a ∧ H a = some (.lst vs) ∧ RepL F vs ds := by
    rcases h with h | ⟨a, vs, xs, rfl, e, hh, r⟩
    · cases h with
      | lst h r => exact ⟨_, _, rfl, sm _ _ h, r⟩
    · cases e; exact ⟨a, vs, rfl, hh, r⟩
  obtain ⟨a, vs, rfl, ha, rl⟩ := key
  obtain ⟨its, rv, hl, hz⟩ := I.list (SqL.of ha)
  rw [Vals.ref1 r]
  have er := each_reads I sm rv rl
  have er' : EachIs (fun u d => ∃ as, Reads (sortingHeap (copyHeap s.heap its) (s.heap.objs.size + 1) its) u d as) its ds := each_keeps (fun _ _ => sorting_copy_old) er
  have hlen : its.length ≤ sizeLine := by rw [← rv.length]; exact hz
  refine sorted_vals hl.isList (srt_at (s := { s with heap := sortingHeap (copyHeap s.heap its) (s.heap.objs.size + 1) its }) er' ok (by show X.A.units + 1 + 1 + 160 < _; omega)) hlen ?_
  obtain ⟨ep, he'⟩ := PyProof.Rows.sortedAll_at s.heap its (sortVals (dataKind (sortingHeap (copyHeap s.heap its) (s.heap.objs.size + 1) its) ds) false its its).toArray
  have := sorted_out (each_vals rv rl) er' ok
  exact srt_end (tk := s.toks) I (Step.refl sm) (fun _ _ => PyProof.Rows.sortedAll_old) (Nat.le_succ _) he' this (by rw [List.length_mergeSort, ← er.length]; exact hlen) q
theorem srt_src (hc : X.calm = true) (hu : X.A.units + 200 < cLine) {F F' H : Hp} {Q : VK} {T : String} {n : Nat} {P : Nat → Value → Prop} {OK : Heap → Prop} {a : Addr} {ds : List TW.D} {xs : List V} {pins : List (Addr × Obj)} {s : Shared} {σ : List (Option V)} (I : Inv X pins σ H s)
    (K : KdlSrc X.prog X.w T a a n P OK) (hok : OK s.heap) (hn : n ≤ sizeLine) (t : Step N0 F H F' H) (rl : RepL F' xs ds) (hv : ∀ acc : Array Value, ItemsOf P acc n → Vals xs acc.toList) (ok : srtOk ds = true) (q : After F H (.fl (ds.mergeSort dataB)) Q) :
    wpAny (model X.prog X.w) X.A (call (.builtin "sorted") [.ref a]) (EP X pins σ Q) X.xe s := by
  refine sorted_src K (I.ok.hd hc) hok hn fun h' tk acc hk hlt hacc => ?_
  have rv := hv acc hacc
  have er := each_reads I t.sub rv rl
  have k1 : ∀ b o, s.heap.get? b = some o → (h'.push (seqObj "list" acc.toList.toArray 0)).get? b = some o := fun b o e => Heap.get?_push_of_some _ (hk b o e)
  have k2 : ∀ b o, s.heap.get? b = some o → (sortingHeap (h'.push (seqObj "list" acc.toList.toArray 0)) h'.objs.size acc.toList).get? b = some o := fun b o e => sortingHeap_old (Nat.ne_of_lt (Heap.lt_size (hk b o e))) (k1 b o e)
  have er' := each_keeps k2 er
  have hat : (h'.push (seqObj "list" acc.toList.toArray 0)).get? h'.objs.size = some (seqObj "list" acc.toList.toArray 0) := Heap.get?_push_size _ rfl
  refine ⟨_, srt_at (s := { s with heap := sortingHeap (h'.push (seqObj "list" acc.toList.toArray 0)) h'.objs.size acc.toList, toks := tk }) er' ok (by show X.A.units + 1 + 1 + 160 < _; omega), ?_⟩
  obtain ⟨ep, he'⟩ := PyProof.Rows.sortedHeap_at (out := (sortVals (dataKind (sortingHeap (h'.push (seqObj "list" acc.toList.toArray 0)) h'.objs.size acc.toList) ds) false acc.toList acc.toList).toArray) hat
  have ho := sorted_out (each_vals rv rl) er' ok
  refine srt_end I t (fun b o e => ?_) (Nat.le_of_lt hlt) he' ho (by rw [List.length_mergeSort, ← er.length]; have := hacc.1; rw [Array.length_toList, this]; exact hn) q
  rw [PyProof.Rows.sortedHeap_old (Nat.ne_of_lt (Heap.lt_size (hk b o e))) (Heap.lt_size (k1 b o e))]
  exact k1 b o e
end
end TW
end

section
/-! What a dict's iterator gives; sorted. -/
namespace TW
open PySem PySem.Spec PyProof.Rows L2 PySem.W
section
variable {X : Cx} {pins : List (Addr × Obj)} {σ : List (Option V)} {H : Hp} {s : Shared}
theorem dT_src (I : Inv X pins σ H s) {d : Addr} {kvs : List (List Key × V)} (hd : H d = some (.dT kvs)) : ∃ (n : Nat) (P : Nat → Value → Prop) (OK : Heap → Prop), KdlSrc X.prog X.w "dict" d d n P OK ∧ OK s.heap ∧ n ≤ sizeLine ∧ n = kvs.length ∧
    ∃ bs, IsKeys H kvs bs ∧ ∀ acc : Array Value, ItemsOf P acc n → Vals (bs.map V.ref) acc.toList := by
  obtain ⟨z, hs, ks, pr, o, es, ep, ho, hx, hdt, he, hn⟩ := (show ObjOk X.prog X.w H s.heap d (.dT kvs) from I.hok d _ hd)
  have l1 : es.size = ks.length := size_of_entries he
  have l2 : kvs.length = ks.length := Paired.length pr
  refine ⟨_, _, _, kdl_raw hs hx hdt, ho, by omega, by omega, ks.map fun x => x.2.1, isKeys_of pr, fun acc it => ?_⟩
  have ea : acc.toList = ks.map fun x => Value.ref x.2.1 := by
    have hl : acc.toList.length = ks.length := by rw [Array.length_toList, it.1]; exact l1
    apply List.ext_getElem?
    intro j
    rw [List.getElem?_map]
    cases hj : acc.toList[j]? with
    | none =>
      have h1 := List.getElem?_eq_none_iff.mp hj
      rw [List.getElem?_eq_none (by omega)]
      all_goals rfl
    | some v =>
      obtain ⟨en, hen, hv⟩ := it.2 j v (by rw [← Array.getElem?_toList]; exact hj)
      have qe := entry_at he j
      rw [hen] at qe
      cases hb : ks[j]? with
      | none =>
        rw [hb] at qe
        exact nomatch (show some en = none from qe)
      | some b =>
        rw [hb] at qe
        have e2 : en = entryOfKey (tupleKind (mixKind X.prog X.w)) b := Option.some.inj qe
        rw [hv, e2]
        all_goals rfl
  have eb : acc.toList = (ks.map fun x => x.2.1).map Value.ref := by rw [ea, List.map_map]; all_goals rfl
  rw [eb]
  exact vals_refs _
theorem dK_src (I : Inv X pins σ H s) {d : Addr} {kvs : List (Key × V)} (hd : H d = some (.dK kvs)) : ∃ (n : Nat) (P : Nat → Value → Prop) (OK : Heap → Prop), KdlSrc X.prog X.w "dict" d d n P OK ∧ OK s.heap ∧ n ≤ sizeLine ∧ n = kvs.length ∧
    ∀ acc : Array Value, ItemsOf P acc n → Vals (kvs.map fun kv => kV kv.1) acc.toList := by
  obtain ⟨z, lo, vs, rk, hdd⟩ := (show ObjOk X.prog X.w H s.heap d (.dK kvs) from I.hok d _ hd)
  obtain ⟨ep, hat⟩ := hdd.dictAt
  have hl : kvs.length = vs.length := Paired.length rk
  refine ⟨_, _, _, PySem.W.kdl_dict (knd := mixKind X.prog X.w) (kvs := vs) (ep := ep) lo, hat, by rw [← hl]; exact z, hl.symm, fun acc hacc => ?_⟩
  have el : acc.toList.length = acc.size := by simp
  refine vals_of_at (by rw [List.length_map, el, hacc.1, hl]) fun j x w h1 h2 => ?_
  obtain ⟨k, y, hky, hi⟩ := hacc.2 j w (by rw [← Array.getElem?_toList]; exact h2)
  have e1 : (kvs.map (·.1))[j]? = some k := by
    rw [KV.keys rk, List.getElem?_map, hky] <;> rfl
  have e2 : (kvs.map fun kv => kV kv.1)[j]? = some (kV k) := by
    have e3 : (kvs.map fun kv => kV kv.1) = (kvs.map (·.1)).map kV := by rw [List.map_map] <;> rfl
    rw [e3, List.getElem?_map, e1] <;> rfl
  rw [e2] at h1
  cases h1
  exact keyIs_rel hi
end
section
variable {X : Cx}
theorem srt_ok (hc : X.calm = true) (hu : X.A.units + 200 < cLine) : BltR X .srt := by
  intro pins s σ H xs us Q I r h
  obtain ⟨F, vs, r', sm, hv, hr, q⟩ := h
  match vs, hv, hr with
  | [.d (.list ds)], .cons h1 .nil, hr =>
    simp only [bltR, srtR] at hr
    split at hr
    · rename_i ok
      cases hr
      exact srt_list hu sm h1 ok q pins s σ us I r
    · cases hr
  | [.di t kvs], .cons h1 .nil, hr =>
    simp only [bltR, srtR] at hr
    split at hr
    · rename_i ok
      cases hr
      obtain ⟨a, rfl, _, h2⟩ := h1
      rw [Vals.ref1 r]
      cases t with
      | false =>
        obtain ⟨ks, h3, h4⟩ := h2
        obtain ⟨n, P, OK, K, hok, hn, _, hacc⟩ := dK_src I h3
        exact srt_src hc hu I K hok hn (Step.refl sm) (keys_K h4) hacc ok q
      | true =>
        obtain ⟨ks, h3, h4⟩ := h2
        obtain ⟨n, P, OK, K, hok, hn, _, bs, ib, hacc⟩ := dT_src I h3
        have t1 : Step N0 F H (fun b => if b ∈ bs then H b else F b) H := Step.tups sm bs (keys_at ib)
        refine srt_src hc hu I K hok hn t1 (keys_T h4 ib fun b hb => ?_) hacc ok q
        show (if b ∈ bs then H b else F b) = H b
        rw [if_pos hb]
    · cases hr
end
end TW
end

section
/-! Builtins by their names, methods. -/
namespace TW
open PySem PySem.Spec PyProof.Rows L2
section
variable {X : Cx}
/-- a builtin by its name: tyq whether it is a class -/
def bNam : Bi → Option (Str × Bool)
  | .len => some ("len", false)
  | .abs => some ("abs", false)
  | .int => some ("int", true)
  | .lst => some ("list", true)
  | .tupl => some ("tuple", true)
  | .sum => some ("sum", false)
  | .min => some ("min", false)
  | .max => some ("max", false)
  | .any => some ("any", false)
  | .all => some ("all", false)
  | .srt => some ("sorted", false)
  | .str => some ("str", true)
  | .rep => some ("repr", false)
  | _ => none
theorem blt_ok (hc : X.calm = true) (hu : X.A.units + 200 < cLine) (hgu : X.A.guards = some []) {b : Bi} (h : (bNam b).isSome = true) : BltR X b := by
  cases b with
  | len => exact len_ok hc
  | abs => exact abs_ok
  | int => exact int_ok
  | lst => exact lst_ok hc
  | tupl => exact tupl_ok
  | sum => exact sum_ok hc
  | min => exact min_ok hc
  | max => exact max_ok hc
  | any => exact any_ok hc
  | all => exact all_ok hc
  | srt => exact srt_ok hc hu
  | str => exact str_ok
  | rep => exact rep_ok hgu hu
  | vals => cases h
  | isi T => cases h
theorem s_blt (hc : X.calm = true) (hu : X.A.units + 200 < cLine) (hgu : X.A.guards = some []) {b : Bi} {nm : Str} {ty : Bool} {e : Expr} {es : List Expr} {p pos : Pos} {ts : TA} {fs : Fa} (h : bNam b = some (nm, ty)) (hg : Gl X nm) (hm : X.mg nm = none) (ha : PA X (e :: es) ts) (ss : SoundA X.K fs ts)
    (he : starEach (e :: es) X.env = (false, eval e X.env) :: starEach es X.env) (hpl : (backTo pos (starEach es X.env)).any (·.1) = false) : ∃ te, PE X (.Call (.Name nm p) (e :: es) [] pos) te ∧ SoundE X.K (bltF b fs) te := by
  have R := blt_ok hc hu hgu (X := X) (b := b) (by rw [h]; rfl)
  cases b <;> simp only [bNam, Option.some.injEq, Prod.mk.injEq] at h <;> first
    | (obtain ⟨rfl, rfl⟩ := h; exact ⟨_, pe_callB R hg hm (by decide +kernel) ha (by decide) (by decide) he hpl, blt_run ss⟩)
    | (obtain ⟨rfl, rfl⟩ := h; exact ⟨_, pe_callTy R hg hm (by decide +kernel) ha (by decide) (by decide) he hpl, blt_run ss⟩)
    | cases h
/-! isinstance -/
def isiTs : List String := ["int", "str", "tuple", "list", "bool"]
theorem isi_kit {n t : String} (hn : n ∈ ["NoneType", "bool", "int", "str", "list", "tuple"]) (ht : t ∈ isiTs) : kitB n t = some (n == t || (n == "bool" && t == "int")) := by
  have key : (["NoneType", "bool", "int", "str", "list", "tuple"].all fun n => isiTs.all fun t => kitB n t == some (n == t || (n == "bool" && t == "int"))) = true := by decide +kernel
  have h1 := List.all_eq_true.mp key n hn
  have h2 := List.all_eq_true.mp h1 t ht
  exact eq_of_beq h2
theorem ty_of {F H : Hp} (sm : Same F H) {v : V} {x : D} {n : String} (h : RepH F H v x) (e : tyN x = some n) : TyX X.K H v (.type n) ∧ n ∈ ["NoneType", "bool", "int", "str", "list", "tuple"] := by
  rcases h with h | ⟨a, vs, xs, rfl, rfl, hh, r⟩
  · cases h with
    | non => cases e; exact ⟨.base .non, by simp⟩
    | bl b => cases e; exact ⟨.base (.bl b), by simp⟩
    | int i => cases e; exact ⟨.base (.int i), by simp⟩
    | str y _ => cases e; exact ⟨.base (.str y), by simp⟩
    | lst h _ => cases e; exact ⟨.base (.lst (sm _ _ h)), by simp⟩
    | tup h _ => cases e; exact ⟨.base (.tup (sm _ _ h)), by simp⟩
  · cases e; exact ⟨.base (.lst hh), by simp⟩
theorem s_isi {T : String} {e : Expr} {p q pos : Pos} {te : TE} {f : Fe} (hT : T ∈ isiTs) (hg : Gl X "isinstance") (hm : X.mg "isinstance" = none) (hg2 : Gl X (Str.ofString T)) (hm2 : X.mg (Str.ofString T) = none) (he : PE X e te) (se : SoundE X.K f te)
    (h1 : starEach (e :: [.Name (Str.ofString T) q]) X.env = (false, eval e X.env) :: starEach [.Name (Str.ofString T) q] X.env) :
    ∃ t, PE X (.Call (.Name "isinstance" p) [e, .Name (Str.ofString T) q] [] pos) t ∧ SoundE X.K (bltF (.isi T) (consA f nilA)) t := by
  have hT' : PE X (.Name (Str.ofString T) q) (tC (.ty T)) := by
    simp only [isiTs, List.mem_cons, List.not_mem_nil, or_false] at hT
    rcases hT with rfl | rfl | rfl | rfl | rfl <;> exact pe_bltn hg2 hm2 (by decide +kernel) rfl (by decide) (by decide)
  refine ⟨_, pe_callB call_isi hg hm (by decide +kernel) (pa_cons he (pa_cons hT' pa_nil) h1) (by decide) (by decide) h1 (by rfl), ?_⟩
  intro z σ F H Q r z2 S e q
  unfold bltF consA nilA at e
  split at e
  · rename_i rs z1 e1
    split at e1
    · rename_i r1 z1' e2
      cases e1
      split at e
      · rename_i vs ev
        obtain ⟨w, hw, h2⟩ := Option.map_eq_some_iff.mp e
        cases h2
        refine se z σ F H _ _ _ S e2 fun v F1 H1 m1 ok1 fr1 => ?_
        simp only [vws] at ev
        split at ev
        · rename_i w hw1
          simp only [Option.map_some] at ev
          cases ev
          have vk := vw_ok m1.sim ok1 hw1
          simp only [bltR, isiR] at hw
          split at hw
          · rename_i x heq
            split at hw
            · rename_i n hn
              cases hw
              injection heq with heq _
              subst heq
              obtain ⟨ty, hmem⟩ := ty_of m1.sim.sub vk hn
              exact ⟨v, .ty T, .type n, .type T, _, rfl, .ty T, ty, kit_ty (isi_kit hmem hT), q (.bl _) F1 H1 m1 (.bl _) (fun f => by cases f)⟩
            · cases hw
          · cases hw
        · cases ev
      · cases e
    · cases e1
  · cases e
/-! list(d.values()) -/
theorem vals_src {pins : List (Addr × Obj)} {σ : List (Option V)} {F H : Hp} {s : Shared} (I : Inv X pins σ H s) {t : Bool} {a : Addr} {kvs : List (D × D)} (h : DicOk F H t a kvs) :
    ∃ es ep xs, PySem.Heap.DictRaw s.heap a es ep ∧ (a == sysModules) = false ∧ es.size ≤ sizeLine ∧ RepL F xs (kvs.map (·.2)) ∧ Vals xs (es.toList.map (·.val)) := by
  cases t with
  | false =>
    obtain ⟨ks, h3, h4⟩ := h
    obtain ⟨z, lo, vs, rk, hdd⟩ := (show ObjOk X.prog X.w H s.heap a (.dK ks) from I.hok a _ h3)
    obtain ⟨es, ep, hr, hs, hi⟩ := PySem.Heap.DictOf.raw hdd
    have hl : ks.length = vs.length := Paired.length rk
    refine ⟨es, ep, ks.map (·.2), hr, lo, by omega, vals_K h4, ?_⟩
    have e : es.toList.map (·.val) = vs.map (·.2) := by
      apply List.ext_getElem?
      intro j
      by_cases hj : j < es.size
      · obtain ⟨k, v, hkv⟩ : ∃ k v, vs[j]? = some (k, v) := ⟨_, _, List.getElem?_eq_getElem (by omega)⟩
        have := (hi j hj k v hkv).2
        simp [hkv, hj, this]
      · rw [List.getElem?_eq_none (by simp; omega), List.getElem?_eq_none (by simp; omega)]
    rw [e]
    clear e hi h4 hdd h3 hr hs hl z
    induction rk with
    | nil => exact .nil
    | cons h t ih => exact .cons h.2 ih
  | true =>
    obtain ⟨ks, h3, h4⟩ := h
    obtain ⟨z, lo, vs, rk, o, es, ep, ho, hx, hdt, he, hn⟩ := (show ObjOk X.prog X.w H s.heap a (.dT ks) from I.hok a _ h3)
    have hl : ks.length = vs.length := Paired.length rk
    have l1 : es.size = vs.length := size_of_entries he
    refine ⟨es, ep, ks.map (·.2), ⟨o, ho, hx, hdt⟩, lo, by omega, vals_T h4, ?_⟩
    rw [he, List.map_map]
    have e : vs.map ((fun e : DictEntry => e.val) ∘ entryOfKey (tupleKind (mixKind X.prog X.w))) = vs.map fun y => y.2.2 := rfl
    rw [e]
    clear e he hn h4 h3 hl l1 z
    induction rk with
    | nil => exact .nil
    | cons h t ih => exact .cons h.2.2 ih
theorem s_vals {o : Expr} {apos cpos p pos : Pos} {to : TE} {f : Fe} (hc : X.calm = true) (hg : Gl X "list") (hm : X.mg "list" = none) (ho : PE X o to) (so : SoundE X.K f to)
    (hbase : attributeBase o "values" X.env (eval o X.env) = eval o X.env) (hline : (apos.endLine == cpos.line) = true)
    (na : starEach [.Call (.Attribute o "values" apos) [] [] cpos] X.env = (false, eval (.Call (.Attribute o "values" apos) [] [] cpos) X.env) :: starEach [] X.env) :
    ∃ t, PE X (.Call (.Name "list" p) [.Call (.Attribute o "values" apos) [] [] cpos] [] pos) t ∧ SoundE X.K (bltF .vals (consA f nilA)) t := by
  refine ⟨fun σ H Q => to σ H fun v H1 => ∃ F t kvs a, Same F H1 ∧ v = .ref a ∧ DicOk F H1 t a kvs ∧ After F H1 (.fl (kvs.map (·.2))) Q, ⟨fun pins s σ H Q I h => ?_⟩, ?_⟩
  · refine Call_ (ld_blt I hg hm PyProof.Rows.boot_list (PyProof.Rows.callWith_type1 (args_cons ?_ na) na))
    refine wpAny_Call_method (T := "dict") (id := "dict.values") hbase rfl hline PySem.F.plainAttrs_dict PySem.F.slot_dict_values PySem.F.type_dict_values (thn (ho.run pins s σ H _ I h) fun u s1 ⟨x, H1, I1, rx, F, t, kvs, a, sm, ex, hd, q⟩ => ?_)
    subst ex
    obtain rfl : u = Value.ref a := rx
    obtain ⟨es, ep, xs, hr, lo, hz, rl, rv⟩ := vals_src I1 hd
    refine ⟨hr.typeIs, fun b eb => by cases eb; obtain ⟨ob, h1, h2, _⟩ := hr; exact ⟨ob, h1, h2.2.1⟩, ?_⟩
    have I2 : Inv X pins σ H1 { s1 with heap := s1.heap.push { cls := .type "dict_values", data := .fields #[.ref a] } } := I1.kept (t' := s1.toks) fun b ob q => Heap.get?_push_of_some _ q
    refine method_meetsIn PySem.F.slot_dict_values PySem.F.entry_dict_values rfl (PySem.evalArgs_none ⟨rfl, hr.typeIs, PySem.F.args_dict_values_1 _, _, PySem.meets_dict_values_raw a lo, ⟨es, ep, hr⟩, args_nil ?_⟩)
    have hv : ({ s1 with heap := s1.heap.push { cls := .type "dict_values", data := .fields #[.ref a] } } : Shared).heap.IsValuesView s1.heap.objs.size a := ⟨_, Heap.get?_push_size _ rfl, rfl, rfl⟩
    refine PySem.W.kdl_call (PySem.KdlSrc.rawValues (r := s1.heap.objs.size) (d := a) (es := es) (ep := ep)) (I2.ok.hd hc) ⟨hv, hr.push _⟩ hz fun h' tk acc c k1 k2 it => ?_
    have ea : acc.toList = es.toList.map (·.val) := by
      apply List.ext_getElem?
      intro j
      by_cases hj : j < es.size
      · have hj' : j < acc.size := by rw [it.1]; exact hj
        obtain ⟨hi, e⟩ := it.2 j acc[j] (by simp [hj'])
        simp [hj, hj', e]
      · rw [List.getElem?_eq_none (by rw [Array.length_toList, it.1]; omega), List.getElem?_eq_none (by simp; omega)]
    have nD : H1 (s1.heap.push { cls := .type "dict_values", data := .fields #[.ref a] }).objs.size = none := I2.hok.fresh (Nat.le_refl _)
    refine ⟨.ref _, upd H1 _ (.lst xs), I2.laid (t' := tk) k1 (Nat.le_refl _) ⟨?_, acc.toList, c, by rw [ea]; exact rv, by rw [Array.toArray_toList]; exact k2⟩, rfl, q.fl sm rl _ nD⟩
    rw [rv.length, List.length_map, Array.length_toList]
    exact hz
  · intro z σ F H Q r z2 S e q
    unfold bltF consA nilA at e
    split at e
    · rename_i rs z1 e1
      split at e1
      · rename_i r1 z1' e2
        cases e1
        split at e
        · rename_i vs ev
          obtain ⟨w, hw, h2⟩ := Option.map_eq_some_iff.mp e
          cases h2
          refine so z σ F H _ _ _ S e2 fun v F1 H1 m1 ok1 fr1 => ?_
          simp only [vws] at ev
          split at ev
          · rename_i w hw1
            simp only [Option.map_some] at ev
            cases ev
            have vk := vw_ok m1.sim ok1 hw1
            simp only [bltR, valsR] at hw
            split at hw
            · rename_i t kvs heq
              cases hw
              injection heq with heq _
              subst heq
              obtain ⟨a, rfl, _, hd⟩ := vk
              exact ⟨F1, t, kvs, a, m1.sim.sub, rfl, hd, after_of S m1 q⟩
            · cases hw
          · cases ev
        · cases e
      · cases e1
    · cases e
end
end TW
end

section
/-! Methods that write, stores by index. -/
namespace TW
open PySem PySem.Spec PyProof.Rows L2
section
variable {K : PySem.W.Frag} {z z1 z2 : En} {σ : Sl} {F H F1 H1 : Hp}
theorem own_write (S : Sim K z σ F H) {i : Nat} {r r2 : Rv} {a : Addr} {o : HO} (hi : z[i]? = some (some r)) (ow : own r = true) (hs : σ[i]? = some (some (.ref a))) (rs : RvS (some r) (some r2)) (ow2 : own r2 = true) (ok : RvOk K F (upd H a o) r2 (.ref a)) :
    Mid K z σ F H (z.set i (some r2)) F (upd H a o) := by
  have oa : Own z σ a := ⟨i, r, hi, ow, hs⟩
  obtain ⟨fa, _, _⟩ := S.own oa
  have hl := (List.getElem?_eq_some_iff.mp hi).1
  have t : Step (Own z σ) F H F (upd H a o) := Step.wr S.sub fa oa
  refine ⟨⟨by simpa using S.len, fun j r' e => ?_, fun j l r1 s1 b e1 e2 o1 o2 p1 p2 => ?_, t.sub⟩, t, Shr.set hi rs⟩
  · by_cases hj : i = j
    · subst hj
      rw [List.getElem?_set_self hl] at e
      cases e
      exact ⟨_, hs, ok⟩
    · rw [List.getElem?_set_ne hj] at e
      obtain ⟨v, h1, h2⟩ := S.slot j r' e
      refine ⟨v, h1, h2.keep (Same.refl _) fun o' b eb => ?_⟩
      subst eb
      have ne : b ≠ a := fun q => hj (S.apart i j r r' a hi e ow o' hs (by rw [← q]; exact h1))
      exact ⟨(own_at h2 o').1, upd_ne ne⟩
  · have back : ∀ {j : Nat} {r' : Rv}, (z.set i (some r2))[j]? = some (some r') → own r' = true → ∃ s, z[j]? = some (some s) ∧ own s = true := fun {j r'} e o' => by
      by_cases hj : i = j
      · subst hj; exact ⟨r, hi, ow⟩
      · rw [List.getElem?_set_ne hj] at e; exact ⟨r', e, o'⟩
    obtain ⟨r', f1, f2⟩ := back e1 o1
    obtain ⟨s', f3, f4⟩ := back e2 o2
    exact S.apart j l r' s' b f1 f3 f2 f4 p1 p2
theorem ol_back (m : Shr z z1) {i : Nat} {ys : List D} {b : Bool} (e : z1[i]? = some (some (.ol ys b))) : ∃ xs, z[i]? = some (some (.ol xs b)) := by
  have hl := (List.getElem?_eq_some_iff.mp e).1
  have hz : i < z.length := by rw [m.1]; exact hl
  obtain ⟨r1, e1, k⟩ := m.2 i z[i] (List.getElem?_eq_getElem hz)
  rw [e] at e1
  cases e1
  rw [List.getElem?_eq_getElem hz]
  generalize z[i] = q at k
  cases k with
  | refl => exact ⟨_, rfl⟩
  | ol xs => exact ⟨xs, rfl⟩
/-- a list's own slot -/
theorem own_list (S : Sim K z σ F H) {i : Nat} {ys : List D} {b : Bool} (e : z[i]? = some (some (.ol ys b))) : ∃ a vs, σ[i]? = some (some (.ref a)) ∧ F a = none ∧ H a = some (.lst vs) ∧ RepL F vs ys := by
  obtain ⟨v, h1, a, vs, rfl, h2, h3, h4⟩ := S.slot i _ e
  exact ⟨a, vs, h1, h2, h3, h4⟩
theorem mid_list (S : Sim K z σ F H) {i : Nat} {ys ys2 : List D} {vs2 : List V} {b : Bool} {a : Addr} (e : z[i]? = some (some (.ol ys b))) (hs : σ[i]? = some (some (.ref a))) (fa : F a = none) (r : RepL F vs2 ys2) :
    Mid K z σ F H (z.set i (some (.ol ys2 b))) F (upd H a (.lst vs2)) :=
  own_write S e rfl hs (.ol ..) rfl ⟨a, vs2, rfl, fa, upd_same, r⟩
end
section
variable {X : Cx}
/-- the body of the rules -/
theorem mtw_run {m : Mw} {i : Nat} {g : Fa} {ts : TA} {R : V → List V → Hp → VK → Prop} (sg : SoundA X.K g ts)
    (hR : ∀ (F H : Hp) (a : Addr) (vs ws : List V) (ys ys2 xs : List D) (y : D) (Q : VK), H a = some (.lst vs) → RepL F vs ys → RepL F ws xs → mthW m ys xs = some (y, ys2) →
      (∀ v vs2, Rep F v y → RepL F vs2 ys2 → Q v (upd H a (.lst vs2))) → R (.ref a) ws H Q) : SoundE X.K (mtwF m i g) (tBM X.K "list" R (tVar i) ts) := by
  intro z σ F H Q r z4 S e q
  unfold mtwF at e
  split at e
  · rename_i hol
    have main : ∃ xs0 b0, z[i]? = some (some (.ol xs0 b0)) := by
      unfold isOl at hol
      split at hol
      · exact ⟨_, _, ‹_›⟩
      · cases hol
    obtain ⟨xs0, b0, h0⟩ := main
    obtain ⟨a, vs0, s0, f0, h0', r0⟩ := own_list S h0
    split at e
    · rename_i rs z1 e1
      split at e
      · rename_i xs z2 e2
        split at e
        · rename_i ys b hz
          obtain ⟨p, hp, h2⟩ := Option.map_eq_some_iff.mp e
          cases h2
          refine ⟨.ref a, s0, .inl ⟨rfl, vs0, SqL.of h0'⟩, ?_⟩
          refine sg z σ F H _ rs z1 S e1 fun ws F1 H1 m1 ok => ?_
          obtain ⟨F2, m2, rp, _, _⟩ := frzs_ok S m1 ok e2
          obtain ⟨a', vs, s1, f1, h1, r1⟩ := own_list m2.sim hz
          rw [s0] at s1
          cases s1
          refine hR F2 H1 a vs ws ys p.2 xs p.1 Q h1 r1 rp hp fun v vs2 rv rl => ?_
          exact q v F2 _ (m2.trans (mid_list m2.sim hz s0 f1 rl)) rv (fun f => by cases f)
        · cases e
      · cases e
    · cases e
  · cases e
theorem mtw0_run {m : Mw} {i : Nat} {R : V → List V → Hp → VK → Prop}
    (hR : ∀ (F H : Hp) (a : Addr) (vs : List V) (ys ys2 : List D) (y : D) (Q : VK), H a = some (.lst vs) → RepL F vs ys → mthW m ys [] = some (y, ys2) →
      (∀ v vs2, Rep F v y → RepL F vs2 ys2 → Q v (upd H a (.lst vs2))) → R (.ref a) [] H Q) : SoundE X.K (mtwF m i nilA) (tBM0 X.K "list" R (tVar i)) := by
  intro z σ F H Q r z4 S e q
  unfold mtwF nilA at e
  simp only [frzs] at e
  split at e
  · split at e
    · rename_i ys b hz
      obtain ⟨p, hp, h2⟩ := Option.map_eq_some_iff.mp e
      cases h2
      obtain ⟨a, vs, s0, f0, h0, r0⟩ := own_list S hz
      refine ⟨.ref a, s0, .inl ⟨rfl, vs, SqL.of h0⟩, ?_⟩
      refine hR F H a vs ys p.2 p.1 Q h0 r0 hp fun v vs2 rv rl => ?_
      exact q v F _ (mid_list S hz s0 f0 rl) rv (fun f => by cases f)
    · cases e
  · cases e
theorem app_R {F H : Hp} {a : Addr} {vs ws : List V} {ys ys2 xs : List D} {y : D} {Q : VK} (h1 : H a = some (.lst vs)) (h2 : RepL F vs ys) (h3 : RepL F ws xs) (h4 : mthW .app ys xs = some (y, ys2))
    (h5 : ∀ v vs2, Rep F v y → RepL F vs2 ys2 → Q v (upd H a (.lst vs2))) : rAppend (.ref a) ws H Q := by
  match xs, h4 with
  | [x], h4 =>
    simp only [mthW] at h4
    split at h4
    · rename_i hl
      cases h4
      cases h3 with
      | cons r t =>
        cases t
        exact ⟨a, vs, _, rfl, rfl, h1, by rw [h2.length, ← lim]; exact hl, h5 .non _ .non (h2.append (.cons r .nil))⟩
    · cases h4
theorem pop_R {F H : Hp} {a : Addr} {vs : List V} {ys ys2 : List D} {y : D} {Q : VK} (h1 : H a = some (.lst vs)) (h2 : RepL F vs ys) (h4 : mthW .pop ys [] = some (y, ys2))
    (h5 : ∀ v vs2, Rep F v y → RepL F vs2 ys2 → Q v (upd H a (.lst vs2))) : rPop (.ref a) [] H Q := by
  simp only [mthW] at h4
  split at h4
  · rename_i y' hy
    cases h4
    rw [List.getLast?_eq_getElem?] at hy
    obtain ⟨v, k1, k2⟩ := h2.get hy
    exact ⟨a, vs, v, rfl, rfl, h1, by rw [h2.length]; exact k1, h5 v _ k2 h2.dropLast⟩
  · cases h4
theorem popAt_R {F H : Hp} {a : Addr} {vs ws : List V} {ys ys2 xs : List D} {y : D} {Q : VK} (h1 : H a = some (.lst vs)) (h2 : RepL F vs ys) (h3 : RepL F ws xs) (h4 : mthW .popAt ys xs = some (y, ys2))
    (h5 : ∀ v vs2, Rep F v y → RepL F vs2 ys2 → Q v (upd H a (.lst vs2))) : rPopAt (.ref a) ws H Q := by
  match xs, h4 with
  | [.int i], h4 =>
    simp only [mthW] at h4
    split at h4
    · rename_i hlen
      rw [lim] at hlen
      split at h4
      · rename_i k hk
        split at h4
        · rename_i y' hy
          cases h4
          cases h3 with
          | cons r t =>
            cases t
            cases r
            obtain ⟨w, k1, k2⟩ := h2.get hy
            obtain ⟨g1, g2, g3, g4⟩ := L2.ixN_seq hk
            have := L2.line63
            exact ⟨a, vs, i, k, w, rfl, rfl, h1, by omega, by omega, by rw [h2.length]; exact g1, k1, h5 w _ k2 (h2.eraseIdx k)⟩
        · cases h4
      · cases h4
    · cases h4
/-- x.append(e), x.pop(i) -/
theorem s_mtw {m : Mw} {i : Nat} {x nm : Str} {p apos cpos : Pos} {e : Expr} {es : List Expr} {ts : TA} {g : Fa} (hm : (m = .app ∧ nm = "append") ∨ (m = .popAt ∧ nm = "pop")) (ho : PE X (.Name x p) (tVar i)) (ha : PA X (e :: es) ts) (sg : SoundA X.K g ts)
    (hbase : attributeBase (.Name x p) nm X.env (eval (.Name x p) X.env) = eval (.Name x p) X.env)
    (hfew : ((backTo cpos (starEach (e :: es) X.env)).all (fun x => !x.1) && (backToKw cpos (keywordEach [] X.env)).all (fun x => x.1.isSome)
      && decide ((e :: es).length + ([] : List Keyword).length + (if ([] : List Keyword).isEmpty then 0 else 1) < 30)) = true)
    (hline : (apos.endLine == cpos.line) = true) (hs : starEach (e :: es) X.env = (false, eval e X.env) :: starEach es X.env) (hplain : (backTo cpos (starEach es X.env)).any (·.1) = false) :
    ∃ t, PE X (.Call (.Attribute (.Name x p) nm apos) (e :: es) [] cpos) t ∧ SoundE X.K (mtwF m i g) t := by
  rcases hm with ⟨rfl, rfl⟩ | ⟨rfl, rfl⟩
  · exact ⟨_, pe_bm PySem.F.plainAttrs_list PySem.F.slot_list_append PySem.F.type_list_append mt_append ho ha hbase hfew hline hs hplain, mtw_run sg fun F H a vs ws ys ys2 xs y Q h1 h2 h3 h4 h5 => app_R h1 h2 h3 h4 h5⟩
  · exact ⟨_, pe_bm PySem.F.plainAttrs_list PySem.F.slot_list_pop PySem.F.type_list_pop mt_popAt ho ha hbase hfew hline hs hplain, mtw_run sg fun F H a vs ws ys ys2 xs y Q h1 h2 h3 h4 h5 => popAt_R h1 h2 h3 h4 h5⟩
theorem s_pop {i : Nat} {x : Str} {p apos cpos : Pos} (ho : PE X (.Name x p) (tVar i))
    (hbase : attributeBase (.Name x p) "pop" X.env (eval (.Name x p) X.env) = eval (.Name x p) X.env) (hline : (apos.endLine == cpos.line) = true) :
    ∃ t, PE X (.Call (.Attribute (.Name x p) "pop" apos) [] [] cpos) t ∧ SoundE X.K (mtwF .pop i nilA) t :=
  ⟨_, pe_bm0 PySem.F.plainAttrs_list PySem.F.slot_list_pop PySem.F.type_list_pop mt_pop ho hbase hline, mtw0_run fun F H a vs ys ys2 y Q h1 h2 h4 h5 => pop_R h1 h2 h4 h5⟩
/-! x[i] = v -/
def rSet : TSet := fun o i v H Q => rSetL o i v H Q ∨ rSetD o i v H Q
theorem set_any (hu : X.A.units + 1 < cLine) : PSet X rSet := by
  intro pins s σ H o i v ov iv u Q I ro ri rv h
  rcases h with h | h
  · exact set_list pins s σ H o i v ov iv u Q I ro ri rv h
  · exact set_dict hu pins s σ H o i v ov iv u Q I ro ri rv h
variable {as : List Rv} {vs : List V} {F0 H0 : Hp}
theorem s_sti {i : Nat} {s : Stmt} {ti te : TE} {f g : Fe} (hp : PS X s (tAsg te (gSub (tVar i) ti rSet))) (si : SoundE X.K f ti) (se : SoundE X.K g te) : ∃ t, PS X s t ∧ SoundS X.K as vs F0 H0 (stiF i f g) t := by
  refine ⟨_, hp, ?_⟩
  intro z σ F H D fl z5 A e q
  unfold stiF at e
  split at e
  · rename_i r z1 e1
    split at e
    · rename_i y z2 e2
      split at e
      · rename_i hown
        split at e
        · rename_i r2 z3 e3
          split at e
          · rename_i k ek
            refine se z σ F H _ r z1 A.sim e1 fun v F1 H1 m1 ok1 fr1 => ?_
            obtain ⟨F2, m2, rv, _, _, _⟩ := frz_ok A.sim m1 ok1 fr1 e2
            have hσ : ∃ w, σ[i]? = some (some w) := by
              cases hz : z2[i]? with
              | none => rw [hz] at hown; cases hown
              | some r0 =>
                rw [hz] at hown
                cases r0 with
                | none => cases hown
                | some r0 =>
                  obtain ⟨v0, s0, _⟩ := m2.sim.slot i r0 hz
                  exact ⟨v0, s0⟩
            obtain ⟨w, hw⟩ := hσ
            refine ⟨w, hw, ?_⟩
            refine si z2 σ F2 H1 _ r2 z3 m2.sim e3 fun iv F3 H3 m3 ok3 fr3 => ?_
            have M := m2.trans m3
            have hk := view_ok m3.sim ok3 ek
            split at e
            · rename_i xs b hz
              split at e
              · rename_i j
                split at e
                · rename_i n hn
                  cases e
                  obtain ⟨a, us, s0, f0, h0, r0⟩ := own_list m3.sim hz
                  rw [hw] at s0
                  cases s0
                  have kint : iv = .int j := by
                    rcases hk with hk | ⟨_, _, _, _, ee, _⟩
                    · cases hk; rfl
                    · cases ee
                  subst kint
                  have M2 := M.trans (mid_list m3.sim hz hw f0 (r0.set n (rv.mono m3.step.same)))
                  exact .inl ⟨a, us, j, n, rfl, rfl, h0, by rw [r0.length]; exact hn, q σ F3 _ (A.mid M2) M2.step.same⟩
                · cases e
              · cases e
            · rename_i t kvs b hz
              split at e
              · rename_i hok
                cases e
                obtain ⟨v0, s0, a, rfl, f0, h0⟩ := m3.sim.slot i _ hz
                rw [hw] at s0
                cases s0
                obtain ⟨o, hp', hd⟩ := dic_put m3.sim.sub h0 hk hok.1 hok.2 (rv.mono m3.step.same)
                have M2 := M.trans (own_write m3.sim (r2 := .od t (kvPut k y kvs) b) hz rfl hw (.od t kvs (kvPut k y kvs) b) rfl ⟨a, rfl, f0, hd⟩)
                exact .inr ⟨a, _, rfl, hp', q σ F3 _ (A.mid M2) M2.step.same⟩
              · cases e
            · cases e
          · cases e
        · cases e
      · cases e
    · cases e
  · cases e
end
end TW
end

section
/-! Side conditions, by the shape of the expression. -/
namespace TW
open PySem PySem.Spec PyProof.Rows L2
def plainE : Expr → Bool
  | .Starred .. => false
  | .ListComp .. => false
  | .SetComp .. => false
  | .DictComp .. => false
  | .Set .. => false
  | .Slice .. => false
  | .GeneratorExp .. => false
  | .Lambda .. => false
  | _ => true
def plainL : Expr → Bool
  | .ListComp .. => true
  | e => plainE e
def starE : Expr → Bool
  | .Starred .. => true
  | _ => false
theorem plainL_star {e : Expr} (h : plainL e = true) : starE e = false := by cases e <;> first | rfl | (simp [plainL, plainE] at h)
theorem star_cons {e : Expr} {es : List Expr} {env : Env} (h : starE e = false) : starEach (e :: es) env = (false, eval e env) :: starEach es env := by
  cases e <;> first | rfl | (simp [starE] at h)
theorem stars_any {pos : Pos} {env : Env} : ∀ {es : List Expr}, (es.all fun e => !starE e) = true → (backTo pos (starEach es env)).any (·.1) = false
  | [], _ => rfl
  | e :: es, h => by
    rw [List.all_cons, Bool.and_eq_true] at h
    rw [star_cons (by simpa using h.1)]
    show ((false, _) :: backTo pos (starEach es env)).any (·.1) = false
    rw [List.any_cons]
    exact stars_any h.2
theorem swaps_plain {e : Expr} {tg : Option Expr} {n : Nat} {env : Env} (h : plainE e = true) : swapsWith e tg n env = pure false := by
  cases e <;> first | rfl | (simp [plainE] at h)
theorem swapsSole_plain {e : Expr} {tg : Expr} {n : Nat} {env : Env} (h : plainE e = true) : swapsWithSole [tg] e n env = pure false := swaps_plain h
theorem ix_plain {e : Expr} (h : plainE e = true) : PlainIx e := by
  intro o i
  cases e <;> first | rfl | (simp [plainE] at h)
theorem marks_plain {op : CmpOp} {e : Expr} (h : plainE e = true) : behindInMarks op e = false := by
  cases e <;> first | rfl | (simp [plainE] at h)
theorem fold_plain {e : Expr} {env : Env} (h : plainL e = true) (x : Value) : foldedSetIterable e env x = pure x := by
  cases e <;> first | rfl | (simp [plainL, plainE] at h)
/-! tests -/
def testE : Expr → Bool
  | .Compare .. => false
  | .BoolOp .. => false
  | .UnaryOp .Not _ _ => false
  | .IfExp .. => false
  | .NamedExpr .. => false
  | .Constant .. => false
  | _ => true
theorem test_plain {e : Expr} {env : Env} (h : testE e = true) (whole : Sem Value) : isTrue e env whole = (do let v ← whole; standAt e.pos; holding [v] (truthy v)) := by
  cases e with
  | UnaryOp op a p => cases op <;> first | rfl | (simp [testE] at h)
  | _ => first | rfl | (simp [testE] at h)
/-! stores that are swapped -/
def swNames (sc : Scope) (ts : List Expr) : List Str := ts.filterMap fun
    | .Name id pos => if sc.names.lookup id == some .local && pos.line == (ts.head?.map (·.pos.line)).getD 0 then some id else none
    | _ => none
def swNo (sc : Scope) (ts vs : List Expr) : Bool := !(ts.length == 2 || ts.length == 3) || vs.length != ts.length || (!(vs.any starE) && ((swNames sc ts).length != ts.length || vs.all (foldedForSure 8)))
def swYes (sc : Scope) (ts vs : List Expr) : Bool := (ts.length == 2 || ts.length == 3) && vs.length == ts.length && !(vs.any starE) && (swNames sc ts).length == ts.length && (swNames sc ts).eraseDups.length == (swNames sc ts).length && !(vs.all (foldedForSure 8)) && !(vs.all (constantsAlone 8))
def swForm (sc : Scope) (ts vs : List Expr) : Sem (Option (List Str)) :=
  if (!(ts.length == 2 || ts.length == 3) || vs.length != ts.length || ScopeKind.function != ScopeKind.function) = true then pure none else
  if (vs.any starE) = true then pure none else
  if ((swNames sc ts).length != ts.length || (swNames sc ts).eraseDups.length != (swNames sc ts).length) = true then pure none else
  if vs.all (foldedForSure 8) = true then pure none else
  if vs.all (constantsAlone 8) = true then (do
    unsupported "assign.tuple-of-constant-expressions:order-of-the-stores"
    pure (some (swNames sc ts))) else pure (some (swNames sc ts))
theorem starFn : (fun e : Expr => match e with | .Starred _ _ => true | _ => false) = starE := by funext e; cases e <;> rfl
theorem sw_form {ts vs : List Expr} {k : Nat} {p : Pos} {k2 : Nat} {p2 : Pos} {env : Env} (hk : env.scope.kind = .function) : swappedStores [.Tuple ts k p] (.Tuple vs k2 p2) env = swForm env.scope ts vs := by
  have hb : env.blockKind = .function := by unfold Env.blockKind; rw [hk]; rfl
  unfold swForm
  rw [← starFn]
  unfold swappedStores
  simp only [hb]
  rfl
theorem sw_no {ts vs : List Expr} {k : Nat} {p : Pos} {k2 : Nat} {p2 : Pos} {env : Env} (hk : env.scope.kind = .function) (h : swNo env.scope ts vs = true) : swappedStores [.Tuple ts k p] (.Tuple vs k2 p2) env = pure none := by
  rw [sw_form hk]
  unfold swNo at h
  unfold swForm
  simp only [Bool.or_eq_true, Bool.and_eq_true, Bool.not_eq_true'] at h
  split
  · rfl
  · rename_i h1
    split
    · rfl
    · split
      · rfl
      · rename_i h3
        split
        · rfl
        · rename_i h4
          exfalso
          simp only [Bool.or_eq_true, Bool.not_eq_true', not_or] at h1 h3
          rcases h with (h | h) | ⟨_, h | h⟩
          · exact h1.1.1 h
          · exact h1.1.2 h
          · exact h3.1 h
          · exact h4 h
theorem sw_yes {ts vs : List Expr} {k : Nat} {p : Pos} {k2 : Nat} {p2 : Pos} {env : Env} (hk : env.scope.kind = .function) (h : swYes env.scope ts vs = true) : swappedStores [.Tuple ts k p] (.Tuple vs k2 p2) env = pure (some (swNames env.scope ts)) := by
  rw [sw_form hk]
  unfold swYes at h
  unfold swForm
  simp only [Bool.and_eq_true, Bool.not_eq_true', beq_iff_eq] at h
  obtain ⟨⟨⟨⟨⟨⟨h1, h2⟩, h3⟩, h4⟩, h5⟩, h6⟩, h7⟩ := h
  rw [if_neg (by simp [h1, h2]), if_neg (by simp [h3]), if_neg (by simp [h4, h5]), if_neg (by simp [h6]), if_neg (by simp [h7])]
/-- e of no tuple form -/
def noTup : Expr → Bool
  | .Tuple .. => false
  | _ => true
theorem sw_notup {ts : List Expr} {k : Nat} {p : Pos} {e : Expr} {env : Env} (h : noTup e = true) : swappedStores [.Tuple ts k p] e env = pure none := by
  unfold swappedStores
  cases e <;> first | rfl | (simp [noTup] at h)
end TW
end

section
/-! The check that a text of the language reads a text of the program. -/
namespace TW
open PySem PySem.Spec PyProof.Rows L2
structure Mc where
  N : List Str
  sc : Scope
  fn : Str → Bool
  fs : Str → Option (Nat × Nat)
  con : Str → Option D
def visB (sc : Scope) (x : Str) : Bool := match sc.names.lookup x with
  | some .local => true
  | some .cell => true
  | some .free => true
  | _ => false
def glB (sc : Scope) (x : Str) : Bool := match sc.names.lookup x with
  | some .globalImplicit => true
  | _ => false
def okN (x : Str) : Bool := !(x == ("__debug__" : Str)) && !(x == ("__classdict__" : Str))
def slotB (M : Mc) (i : Nat) (x : Str) : Bool := decide (M.N[i]? = some x) && visB M.sc x && okN x
/-- a name that may be stored -/
def locB (M : Mc) (i : Nat) (x : Str) : Bool := decide (M.N[i]? = some x) && (match M.sc.names.lookup x with
  | some .local => true
  | some .cell => M.fn x
  | _ => false)
def litB : D → Expr → Bool
  | .int i, .Constant (.int j) _ _ => decide (i = j)
  | .bool b, .Constant (.bool c) _ _ => b == c
  | .str x, .Constant (.str y) _ _ => decide (x = y) && PyData.strOk x
  | .none, .Constant .none _ _ => true
  | _, _ => false
def atomEq : D → D → Bool
  | .int i, .int j => decide (i = j)
  | .str i, .str j => decide (i = j)
  | _, _ => false
theorem atomEq_eq {a b : D} (h : atomEq a b = true) : a = b := by
  unfold atomEq at h
  split at h
  · rw [of_decide_eq_true h]
  · rw [of_decide_eq_true h]
  · cases h
def bltNames : List Str := ["len", "abs", "int", "list", "tuple", "sum", "min", "max", "sorted", "all", "range", "isinstance", "str", "any", "bool", "enumerate", "zip", "repr"]
def gbB (sc : Scope) (x : Str) : Bool := glB sc x && decide (x ∈ bltNames)
mutual
def mG (M : Mc) : Tg → Expr → Bool
  | .nm i, .Name x _ => locB M i x
  | .tp ts, .Tuple es _ _ => mGs M ts es
  | _, _ => false
def mGs (M : Mc) : Tg → List Expr → Bool
  | .nil, [] => true
  | .cons t ts, e :: es => !starE e && mG M t e && mGs M ts es
  | _, _ => false
end
def ownOf (N : List Str) (ws : List Nat) : List (Str × Nat) := ws.map fun i => ((N[i]?).getD "", i)
def compM (M : Mc) (scope : Scope) : Mc := { M with sc := relS scope M.sc, fn := fun x => scope.names.lookup x == some .cell }
def isAnd : T → Bool
  | .and _ _ => true
  | _ => false
def isOr : T → Bool
  | .or _ _ => true
  | _ => false
mutual
def mE (M : Mc) : T → Expr → Bool
  | .var i, .Name x _ => slotB M i x
  | .lit d, e => litB d e
  | .glb x v, .Name y _ => decide (x = y) && glB M.sc y && okN y && (match M.con y with
    | some w => atomEq v w
    | none => false)
  | .scl i, .Call (.Name f _) [.Name x _] [] _ => decide (f = "list") && gbB M.sc f && slotB M i x
  | .tup es, .Tuple es' _ _ => mA M es es'
  | .lst es, .List es' _ => mA M es es'
  | .dic _, .Dict [] [] _ => true
  | .bin op a b, .BinOp a' op' b' _ => decide (op = op') && mE M a a' && mE M b b'
  | .neg a, .UnaryOp .USub a' _ => mE M a a'
  | .cmp op a b, .Compare a' [op'] [b'] _ => decide (op = op') && plainE b' && mE M a a' && mE M b b'
  | .cmp2 o1 o2 a b c, .Compare a' [p1, p2] [b', c'] _ => decide (o1 = p1) && decide (o2 = p2) && plainE c' && mE M a a' && mE M b b' && mE M c c'
  | .and a b, .BoolOp .And (a' :: b' :: rest) pos => mE M a a' && (match rest with
    | [] => mE M b b'
    | c :: cs => mE M b (.BoolOp .And (b' :: c :: cs) pos))
  | .or a b, .BoolOp .Or (a' :: b' :: rest) pos => mE M a a' && (match rest with
    | [] => mE M b b'
    | c :: cs => mE M b (.BoolOp .Or (b' :: c :: cs) pos))
  | .not a, .UnaryOp .Not a' _ => mE M a a'
  | .ife c a b, .IfExp c' a' b' _ => mT M c c' && mE M a a' && mE M b b'
  | .idx a i, .Subscript a' i' _ => plainE i' && mE M a a' && mE M i i'
  | .slc a lo hi, .Subscript a' (.Slice lo' hi' none _) _ => mE M a a' && mO M lo lo' && mO M hi hi'
  | .slm a lo hi, .Subscript a' (.Slice none (some (.Constant (.int 0) _ _)) (some (.UnaryOp .USub (.Constant (.int 1) _ _) _)) _) _ => (match lo, hi with
    | .nil, .sm (.lit (.int 0)) => true
    | _, _ => false) && mE M a a'
  | .gtt o k x, .Call (.Attribute (.Name y yp) nm ap) [k', x'] [] cp => decide (nm = "get") && (ap.endLine == cp.line) && plainL k' && plainL x' && mE M o (.Name y yp) && mE M k k' && mE M x x'
  | .cal f ms args, .Call (.Name x _) es [] _ => decide (M.fs x = some (f, es.length)) && glB M.sc x && okN x && mA M args es
  | .blt b args, .Call (.Name x _) (e :: es) [] _ => (match bNam b with
    | some (nm, _) => decide (nm = x) && gbB M.sc x && mA M args (e :: es)
    | none => (match b, e, es with
      | .isi t, e, [.Name y _] => decide (x = "isinstance") && gbB M.sc x && decide (y = Str.ofString t) && gbB M.sc y && decide (t ∈ isiTs) && mA1 M args e
      | .vals, .Call (.Attribute (.Name o op) nm ap) [] [] cp, [] => decide (x = "list") && gbB M.sc x && decide (nm = "values") && (ap.endLine == cp.line) && mA1 M args (.Name o op)
      | .vals, .Call (.Attribute (.Call (.Name o op) (o1 :: os) [] op2) nm ap) [] [] cp, [] => decide (x = "list") && gbB M.sc x && decide (nm = "values") && (ap.endLine == cp.line) && mA1 M args (.Call (.Name o op) (o1 :: os) [] op2)
      | _, _, _ => false))
  | .mtw m i args, .Call (.Attribute (.Name x _) nm ap) es [] cp => slotB M i x && (ap.endLine == cp.line) && (match m, es with
    | .pop, [] => decide (nm = "pop") && (match args with
      | .nil => true
      | _ => false)
    | .app, [e] => decide (nm = "append") && mA M args [e]
    | .popAt, [e] => decide (nm = "pop") && mA M args [e]
    | _, _ => false)
  | .lc p it ws c e, .ListComp elt [⟨tg, iter, ifs, as⟩] scope _ => decide (as = 0) && blkC M.N M.sc scope (ownOf M.N ws) && ((tgs p).all fun i => decide (i ∈ ws)) && plainL iter && mI M it iter && mG (compM M scope) p tg && mE (compM M scope) e elt && (match ifs with
    | [] => (match c with
      | .lit (.bool true) => true
      | _ => false)
    | [c'] => mT (compM M scope) c c'
    | _ => false)
  | _, _ => false
def mT (M : Mc) : T → Expr → Bool
  | .cmp op a b, .Compare a' [op'] [b'] _ => decide (op = op') && plainE b' && mE M a a' && mE M b b'
  | .cmp2 o1 o2 a b c, .Compare a' [p1, p2] [b', c'] _ => decide (o1 = p1) && decide (o2 = p2) && plainE c' && mE M a a' && mE M b b' && mE M c c'
  | .and a b, .BoolOp .And (a' :: b' :: rest) pos => mT M a a' && (match rest with
    | [] => mT M b b'
    | c :: cs => isAnd b && mT M b (.BoolOp .And (b' :: c :: cs) pos))
  | .or a b, .BoolOp .Or (a' :: b' :: rest) pos => mT M a a' && (match rest with
    | [] => mT M b b'
    | c :: cs => isOr b && mT M b (.BoolOp .Or (b' :: c :: cs) pos))
  | .not a, .UnaryOp .Not a' _ => mT M a a'
  | .tst a, e => testE e && mE M a e
  | _, _ => false
def mA1 (M : Mc) : T → Expr → Bool
  | .cons t .nil, e => plainL e && mE M t e
  | _, _ => false
def mA (M : Mc) : T → List Expr → Bool
  | .nil, [] => true
  | .cons t ts, e :: es => plainL e && mE M t e && mA M ts es
  | _, _ => false
def mO (M : Mc) : T → Option Expr → Bool
  | .nil, none => true
  | .sm t, some e => mE M t e
  | _, _ => false
def mI (M : Mc) : T → Expr → Bool
  | .rng args, .Call (.Name f _) es [] _ => decide (f = "range") && gbB M.sc f && (es.length == 1 || es.length == 2) && mA M args es
  | .sq t, e => mE M t e
  | _, _ => false
end
def isLC : Expr → Bool
  | .ListComp .. => true
  | _ => false
def lcSwap (sc : Scope) (t : Str) (tp : Pos) : Expr → Bool
  | .ListComp _ _ scope p => sc.names.lookup t == some .local && tp.line == p.line && !(scope.names.any fun (n, k) => n == t && (k == .local || k == .cell))
  | _ => false
def asgB (M : Mc) (i : Nat) : List Expr → Expr → Bool
  | [.Name x tp], ex => locB M i x && (plainE ex || (isLC ex && (!lcSwap M.sc x tp ex || decide (M.sc.names.lookup x = some .local))))
  | _, _ => false
def swOkB (sc : Scope) (tg : List Expr) : Expr → Bool
  | .Tuple vs _ _ => swNo sc tg vs
  | _ => true
def asgPB (M : Mc) (p : Tg) : List Expr → Expr → Bool
  | [.Tuple tg k tp], ex => mG M p (.Tuple tg k tp) && plainE ex && swOkB M.sc tg ex
  | _, _ => false
def parB (M : Mc) : List Nat → List Expr → Bool
  | [i, j], [.Name x _, .Name y _] => decide (M.N[i]? = some x) && decide (M.N[j]? = some y) && decide (i ≠ j) && decide (M.sc.names.lookup x = some .local) && decide (M.sc.names.lookup y = some .local)
  | [i, j, l], [.Name x _, .Name y _, .Name u _] => decide (M.N[i]? = some x) && decide (M.N[j]? = some y) && decide (M.N[l]? = some u) && decide (i ≠ j) && decide (i ≠ l) && decide (j ≠ l) && decide (M.sc.names.lookup x = some .local) && decide (M.sc.names.lookup y = some .local) && decide (M.sc.names.lookup u = some .local)
  | _, _ => false
def nmsOf : List Expr → List Str
  | .Name x _ :: es => x :: nmsOf es
  | _ => []
def asgMB (M : Mc) (is : List Nat) : List Expr → Expr → Bool
  | [.Tuple tg _ _], .Tuple vs _ _ => swYes M.sc tg vs && decide (swNames M.sc tg = nmsOf tg) && parB M is tg
  | _, _ => false
def tupOf : Expr → List Expr
  | .Tuple vs _ _ => vs
  | _ => []
def stiB (M : Mc) (i : Nat) : List Expr → Expr → Bool
  | [.Subscript (.Name x _) ix' _], ex => slotB M i x && plainE ix' && plainE ex
  | _, _ => false
def subOf : List Expr → Expr
  | .Subscript _ ix _ :: _ => ix
  | _ => .Constant .none 0 ⟨0, 0, 0, 0⟩
mutual
def mS (M : Mc) : S → Stmt → Bool
  | .asg i e, .Assign tgs ex _ => asgB M i tgs ex && mE M e ex
  | .asgP p e, .Assign tgs ex _ => asgPB M p tgs ex && mE M e ex
  | .asgM is es, .Assign tgs ex _ => asgMB M is tgs ex && mA M es (tupOf ex)
  | .sti i ix e, .Assign tgs ex _ => stiB M i tgs ex && mE M ix (subOf tgs) && mE M e ex
  | .exp e, .Expr ex _ => plainE ex && mE M e ex
  | .ite c a b, .If c' a' b' _ => mT M c c' && mSs M a a' && mSs M b b'
  | .whl c b, .While c' b' [] _ => mT M c c' && mSs M b b'
  | .for p it b, .For tg iter b' [] _ => plainL iter && mG M p tg && mI M it iter && mSs M b b'
  | .ret e, .Return (some ex) _ => mE M e ex
  | .retN, .Return none _ => true
  | .brk, .Break _ => true
  | .cnt, .Continue _ => true
  | .pss, .Pass _ => true
  | .rai, .Raise .. => true
  | _, _ => false
def mSs (M : Mc) : S → List Stmt → Bool
  | .nil, [] => true
  | .cons s ss, st :: sts => mS M s st && mSs M ss sts
  | _, _ => false
end
end TW
end

section
/-! A text that the check lets through is read rightly. -/
namespace TW
open PySem PySem.Spec PyProof.Rows L2
def CX0 : CXT := fun _ _ _ _ _ _ => False
structure Gx (X : Cx) (c : Cl) (M : Mc) : Prop where
  sc : X.env.scope = M.sc
  kind : M.sc.kind = .function
  N : X.N = M.N
  nd : M.N.Nodup
  fn : ∀ x, M.fn x = true → X.fn x = true
  calm : X.calm = true
  xe : X.xe = fun _ _ => False
  un : X.A.units + 200 < cLine
  gd : X.A.guards = some []
  fs : ∀ x f np, M.fs x = some (f, np) → ∃ (k : Nat) (a : Addr) (fd : FuncData) (ps : List Str), X.mg x = some (.ref a) ∧ PySem.W.keepIn X.K (.ref a) = true ∧ FnG X.prog X.w X.K X.mg X.base CX0 k a fd ps (SpK X.K c f np) ∧ Room k X.A ∧ Binds X.K fd ps []
  con : ∀ x v, M.con x = some v → ∃ u w, X.mg x = some w ∧ RelV u w ∧ ∀ F, Rep F u v
  blt : ∀ x ∈ bltNames, X.mg x = none
theorem Gx.blk {X : Cx} {c : Cl} {M : Mc} (G : Gx X c M) {s : Shared} {H : Hp} {scope : Scope} {cl : List (Str × Addr)} {C : Addr} {fp : List Addr} (hk : scope.kind = .function) : Gx (X.blk s H scope (compEnvC scope cl C X.env) fp) c (compM M scope) := by
  refine ⟨?_, ?_, G.N, G.nd, fun x h => h, G.calm, rfl, G.un, G.gd, G.fs, G.con, G.blt⟩
  · show relS scope X.env.scope = relS scope M.sc
    rw [G.sc]
  · show scope.kind = .function
    exact hk
section
variable {X : Cx} {c : Cl} {M : Mc}
theorem Gx.vis (G : Gx X c M) {i : Nat} {x : Str} {pos : Pos} (h : slotB M i x = true) : PE X (.Name x pos) (tVar i) := by
  unfold slotB okN at h
  simp only [Bool.and_eq_true, decide_eq_true_eq, Bool.not_eq_true'] at h
  obtain ⟨⟨h1, h2⟩, h3, h4⟩ := h
  refine pe_var (by rw [G.N]; exact h1) ?_ h3 h4
  unfold visB at h2
  unfold Vis
  rw [G.sc]
  split at h2
  · exact .inl ‹_›
  · exact .inr (.inl ‹_›)
  · exact .inr (.inr ‹_›)
  · cases h2
theorem Gx.gl (G : Gx X c M) {x : Str} (h : glB M.sc x = true) : Gl X x := by
  unfold glB at h
  show X.env.scope.names.lookup x = _
  rw [G.sc]
  split at h
  · assumption
  · cases h
theorem Gx.gb (G : Gx X c M) {x : Str} (h : gbB M.sc x = true) : Gl X x ∧ X.mg x = none := by
  unfold gbB at h
  rw [Bool.and_eq_true, decide_eq_true_eq] at h
  exact ⟨G.gl h.1, G.blt x h.2⟩
theorem Gx.loc (G : Gx X c M) {i : Nat} {x : Str} {pos : Pos} (h : locB M i x = true) : PG X (.Name x pos) (gName i) ∧ X.N[i]? = some x ∧ L2.Loc X.env.scope x ∧ (X.fn x = true ∨ X.env.scope.names.lookup x = some .local) := by
  unfold locB at h
  rw [Bool.and_eq_true, decide_eq_true_eq] at h
  obtain ⟨h1, h2⟩ := h
  have k1 : X.N[i]? = some x := by rw [G.N]; exact h1
  have k2 : L2.Loc X.env.scope x ∧ (X.fn x = true ∨ X.env.scope.names.lookup x = some .local) := by
    unfold L2.Loc
    rw [G.sc]
    split at h2
    · rename_i h; exact ⟨.inl h, .inr h⟩
    · rename_i h; exact ⟨.inr h, .inl (G.fn x h2)⟩
    · cases h2
  exact ⟨pg_name (by rw [G.N]; exact G.nd) k1 k2.1 k2.2, k1, k2⟩
theorem lit_ok {d : D} {e : Expr} (h : litB d e = true) : ∃ te, PE X e te ∧ SoundE X.K (litF d) te := by
  unfold litB at h
  split at h
  · rw [of_decide_eq_true h]; exact ⟨_, pe_int, s_con fun F => .int _⟩
  · rw [eq_of_beq h]; exact ⟨_, pe_bl, s_con fun F => .bl _⟩
  · rw [Bool.and_eq_true, decide_eq_true_eq] at h
    obtain ⟨rfl, h⟩ := h
    exact ⟨_, pe_str, s_con fun F => .str _ h⟩
  · exact ⟨_, pe_non, s_con fun F => .non⟩
  · cases h
/-! targets -/
theorem assignEach_cons {e : Expr} {es : List Expr} {env : Env} (h : starE e = false) : (assignEach (e :: es) env).map (·.2) = assign e env :: (assignEach es env).map (·.2) := by
  cases e <;> first | rfl | (simp [starE] at h)
theorem assignEach_len : ∀ {es : List Expr} {env : Env}, (es.all fun e => !starE e) = true → (assignEach es env).length = es.length ∧ (assignEach es env).findIdx? (·.1) = none
  | [], _, _ => ⟨rfl, rfl⟩
  | e :: es, env, h => by
    rw [List.all_cons, Bool.and_eq_true] at h
    obtain ⟨h1, h2⟩ := assignEach_len (env := env) h.2
    have hs : starE e = false := by simpa using h.1
    have e0 : assignEach (e :: es) env = (false, assign e env) :: assignEach es env := by
      cases e <;> first | rfl | (simp [starE] at hs)
    rw [e0]
    refine ⟨by simp [h1], ?_⟩
    rw [List.findIdx?_cons]
    simp [h2]
mutual
theorem g_ok (G : Gx X c M) : ∀ (p : Tg) (e : Expr), mG M p e = true → ∃ g, PG X e g ∧ SoundG X.K p g
  | .nm i, e, h => by
    cases e <;> first | (exfalso; simp [mG] at h; done) | exact ⟨_, (G.loc (by simpa [mG] using h)).1, g_nm⟩
  | .tp ts, e, h => by
    cases e <;> first | (exfalso; simp [mG] at h; done) | skip
    rename_i es k pos
    obtain ⟨gs, h1, h2, h3, h4⟩ := gs_ok G ts es (by simpa [mG] using h)
    obtain ⟨l1, l2⟩ := assignEach_len (env := X.env) h3
    exact ⟨_, pg_tup G.calm h1 (l1.trans h4) l2, g_tp h2⟩
  | .nil, e, h => by cases e <;> simp [mG] at h
  | .cons _ _, e, h => by cases e <;> simp [mG] at h
theorem gs_ok (G : Gx X c M) : ∀ (p : Tg) (es : List Expr), mGs M p es = true → ∃ gs, PGs X es gs ∧ SoundGs X.K p gs ∧ (es.all fun e => !starE e) = true ∧ es.length = lenT p
  | .nil, [], _ => ⟨_, pgs_nil, gs_nil, rfl, rfl⟩
  | .cons t ts, e :: es, h => by
    simp only [mGs, Bool.and_eq_true, Bool.not_eq_true'] at h
    obtain ⟨⟨h1, h2⟩, h3⟩ := h
    obtain ⟨g, k1, k2⟩ := g_ok G t e h2
    obtain ⟨gs, q1, q2, q3, q4⟩ := gs_ok G ts es h3
    exact ⟨_, pgs_cons k1 q1 (assignEach_cons h1), gs_cons k2 q2, by rw [List.all_cons, h1, q3]; rfl, by simp [lenT, q4]⟩
  | .nil, _ :: _, h => by simp [mGs] at h
  | .cons _ _, [], h => by simp [mGs] at h
  | .nm _, es, h => by cases es <;> simp [mGs] at h
  | .tp _, es, h => by cases es <;> simp [mGs] at h
end
end
/-! ### the weakest readings -/
def eOf (K : PySem.W.Frag) (f : Fe) : TE := fun σ H Q => ∃ z F r z1, Sim K z σ F H ∧ f z = some (r, z1) ∧ ∀ v F1 H1, Mid K z σ F H z1 F1 H1 → ResOk K z1 σ F1 H1 r v → (fresh r = true → ∀ a, v = .ref a → H a = none) → Q v H1
def tOf (K : PySem.W.Frag) (f : Fe) : TT := fun σ H Q => ∃ z F b z1, Sim K z σ F H ∧ toB (f z) = some (b, z1) ∧ ∀ F1 H1, Mid K z σ F H z1 F1 H1 → Q b H1
def aOf (K : PySem.W.Frag) (f : Fa) : TA := fun σ H Q => ∃ z F rs z1, Sim K z σ F H ∧ f z = some (rs, z1) ∧ ∀ vs F1 H1, Mid K z σ F H z1 F1 H1 → RsOk K z1 σ H F1 H1 rs vs → Q vs H1
def oOf (K : PySem.W.Frag) (f : Fo) : TO := fun σ H Q => ∃ z F o z1, Sim K z σ F H ∧ f z = some (o, z1) ∧ ∀ F1 H1, Mid K z σ F H z1 F1 H1 → Q o H1
def iOf (K : PySem.W.Frag) (f : TW.Fi) : TI := fun σ H R => ∃ z F xs z1, Sim K z σ F H ∧ f z = some (xs, z1) ∧ ∀ J F1 H1, Mid K z σ F H z1 F1 H1 → ItOk F1 J xs → R J H1
def gOf (K : PySem.W.Frag) (p : Tg) : TG := fun v σ H Q => ∃ z F x z1, Sim K z σ F H ∧ Rep F v x ∧ bindT p x z = some z1 ∧ ∀ σ1, Sim K z1 σ1 F H → Bnd z σ z1 σ1 (tgs p) → Q σ1 H
section
variable {K : PySem.W.Frag}
theorem eOf_s {f : Fe} : SoundE K f (eOf K f) := fun z σ F H Q r z1 S e q => ⟨z, F, r, z1, S, e, q⟩
theorem tOf_s {f : Fe} : SoundT K f (tOf K f) := fun z σ F H Q r z1 S e q => ⟨z, F, r, z1, S, e, q⟩
theorem aOf_s {f : Fa} : SoundA K f (aOf K f) := fun z σ F H Q r z1 S e q => ⟨z, F, r, z1, S, e, q⟩
theorem oOf_s {f : Fo} : SoundO K f (oOf K f) := fun z σ F H Q r z1 S e q => ⟨z, F, r, z1, S, e, q⟩
theorem iOf_s {f : TW.Fi} : SoundI K f (iOf K f) := fun z σ F H Q r z1 S e q => ⟨z, F, r, z1, S, e, q⟩
theorem gOf_s {p : Tg} : SoundG K p (gOf K p) := fun z σ F H v x z1 Q S r e q => ⟨z, F, x, z1, S, r, e, q⟩
theorem aOf_mono {f : Fa} (σ : Sl) (H : Hp) (Q Q' : List V → Hp → Prop) (h : ∀ vs H1, Q vs H1 → Q' vs H1) : aOf K f σ H Q → aOf K f σ H Q' := fun ⟨z, F, rs, z1, S, e, q⟩ => ⟨z, F, rs, z1, S, e, fun vs F1 H1 m ok => h vs H1 (q vs F1 H1 m ok)⟩
end
section
variable {X : Cx}
theorem cE {e : Expr} {f : Fe} (h : ∃ te, PE X e te ∧ SoundE X.K f te) : PE X e (eOf X.K f) := by
  obtain ⟨te, h1, h2⟩ := h
  exact ⟨fun pins s σ H Q I ⟨z, F, r, z1, S, e, q⟩ => h1.run pins s σ H Q I (h2 z σ F H Q r z1 S e q)⟩
theorem cT {e : Expr} {f : Fe} (h : ∃ tt, L2.PT X e tt ∧ SoundT X.K f tt) : L2.PT X e (tOf X.K f) := by
  obtain ⟨te, h1, h2⟩ := h
  exact ⟨fun pins s σ H Q I ⟨z, F, r, z1, S, e, q⟩ => h1.run pins s σ H Q I (h2 z σ F H Q r z1 S e q)⟩
theorem cW {e : Expr} {f : Fe} (h : ∃ tt, PW X e tt ∧ SoundT X.K f tt) : PW X e (tOf X.K f) := by
  obtain ⟨te, h1, h2⟩ := h
  exact ⟨fun wh pins s σ H Q I ⟨z, F, r, z1, S, e, q⟩ => h1.run wh pins s σ H Q I (h2 z σ F H Q r z1 S e q)⟩
theorem cA {e : List Expr} {f : Fa} (h : ∃ tt, PA X e tt ∧ SoundA X.K f tt) : PA X e (aOf X.K f) := by
  obtain ⟨te, h1, h2⟩ := h
  exact ⟨fun pos pins s σ H Q I ⟨z, F, r, z1, S, e, q⟩ => h1.run pos pins s σ H Q I (h2 z σ F H Q r z1 S e q)⟩
theorem cO {e : Option Expr} {f : Fo} (h : ∃ tt, PO X e tt ∧ SoundO X.K f tt) : PO X e (oOf X.K f) := by
  obtain ⟨te, h1, h2⟩ := h
  exact ⟨fun pins s σ H Q I ⟨z, F, r, z1, S, e, q⟩ => h1.run pins s σ H Q I (h2 z σ F H Q r z1 S e q)⟩
theorem cI {tg e : Expr} {f : TW.Fi} (h : ∃ tt, PI X tg e tt ∧ SoundI X.K f tt) : PI X tg e (iOf X.K f) := by
  obtain ⟨te, h1, h2⟩ := h
  exact ⟨fun pins s σ H Q I ⟨z, F, r, z1, S, e, q⟩ => h1.run pins s σ H Q I (h2 z σ F H Q r z1 S e q)⟩
theorem cG {e : Expr} {p : Tg} (h : ∃ g, PG X e g ∧ SoundG X.K p g) : PG X e (gOf X.K p) := by
  obtain ⟨te, h1, h2⟩ := h
  exact ⟨fun pins s σ H v u Q I r ⟨z, F, x, z1, S, rp, e, q⟩ => h1.run pins s σ H v u Q I r (h2 z σ F H v x z1 Q S rp e q)⟩
end
end TW
end

section
/-! A text that the check lets through is read rightly: expressions. -/
namespace TW
open PySem PySem.Spec PyProof.Rows L2
theorem evA_len {c : Cl} {M : Mc} : ∀ (t : T) (es : List Expr), mA M t es = true → ∀ z rs z1, evA c t z = some (rs, z1) → rs.length = es.length
  | .nil, [], _, z, rs, z1, e => by cases e; rfl
  | .cons t ts, x :: es, h, z, rs, z1, e => by
    simp only [mA, Bool.and_eq_true] at h
    have e : consA (evE c t) (evA c ts) z = some (rs, z1) := e
    unfold consA at e
    split at e
    · split at e
      · rename_i rs' z2 e2
        cases e
        rw [List.length_cons, List.length_cons, evA_len ts es h.2 _ _ _ e2]
      · cases e
    · cases e
  | .nil, _ :: _, h, _, _, _, _ => by simp [mA] at h
  | .cons _ _, [], h, _, _, _, _ => by simp [mA] at h
  | .var _, es, h, _, _, _, _ => by cases es <;> simp [mA] at h
  | .lit _, es, h, _, _, _, _ => by cases es <;> simp [mA] at h
  | .glb _ _, es, h, _, _, _, _ => by cases es <;> simp [mA] at h
  | .scl _, es, h, _, _, _, _ => by cases es <;> simp [mA] at h
  | .tup _, es, h, _, _, _, _ => by cases es <;> simp [mA] at h
  | .lst _, es, h, _, _, _, _ => by cases es <;> simp [mA] at h
  | .dic _, es, h, _, _, _, _ => by cases es <;> simp [mA] at h
  | .bin _ _ _, es, h, _, _, _, _ => by cases es <;> simp [mA] at h
  | .neg _, es, h, _, _, _, _ => by cases es <;> simp [mA] at h
  | .cmp _ _ _, es, h, _, _, _, _ => by cases es <;> simp [mA] at h
  | .cmp2 _ _ _ _ _, es, h, _, _, _, _ => by cases es <;> simp [mA] at h
  | .and _ _, es, h, _, _, _, _ => by cases es <;> simp [mA] at h
  | .or _ _, es, h, _, _, _, _ => by cases es <;> simp [mA] at h
  | .not _, es, h, _, _, _, _ => by cases es <;> simp [mA] at h
  | .ife _ _ _, es, h, _, _, _, _ => by cases es <;> simp [mA] at h
  | .idx _ _, es, h, _, _, _, _ => by cases es <;> simp [mA] at h
  | .slc _ _ _, es, h, _, _, _, _ => by cases es <;> simp [mA] at h
  | .slm _ _ _, es, h, _, _, _, _ => by cases es <;> simp [mA] at h
  | .cal _ _ _, es, h, _, _, _, _ => by cases es <;> simp [mA] at h
  | .blt _ _, es, h, _, _, _, _ => by cases es <;> simp [mA] at h
  | .mth _ _ _, es, h, _, _, _, _ => by cases es <;> simp [mA] at h
  | .gtt _ _ _, es, h, _, _, _, _ => by cases es <;> simp [mA] at h
  | .mtw _ _ _, es, h, _, _, _, _ => by cases es <;> simp [mA] at h
  | .lc _ _ _ _ _, es, h, _, _, _, _ => by cases es <;> simp [mA] at h
  | .rng _, es, h, _, _, _, _ => by cases es <;> simp [mA] at h
  | .enm _, es, h, _, _, _, _ => by cases es <;> simp [mA] at h
  | .sq _, es, h, _, _, _, _ => by cases es <;> simp [mA] at h
  | .sm _, es, h, _, _, _, _ => by cases es <;> simp [mA] at h
  | .zp _ _, es, h, _, _, _, _ => by cases es <;> simp [mA] at h
theorem mA_star {M : Mc} {t : T} {es : List Expr} (h : mA M t es = true) : (es.all fun e => !starE e) = true := by
  induction es generalizing t with
  | nil => rfl
  | cons e es ih =>
    cases t with
    | cons t ts =>
      simp only [mA, Bool.and_eq_true] at h
      rw [List.all_cons, plainL_star h.1.1, ih h.2]
      rfl
    | _ => simp [mA] at h
/-- comprehension, piece by piece -/
theorem lc_pieces {c : Cl} {X : Cx} {M : Mc} (G : Gx X c M) {p : Tg} {it : T} {ws : List Nat} {cc ee : T} {elt tg iter : Expr} {ifs : List Expr} {scope : Scope} {pos : Pos}
    (h : mE M (.lc p it ws cc ee) (.ListComp elt [⟨tg, iter, ifs, 0⟩] scope pos) = true)
    (Hi : ∀ (X : Cx) (M : Mc), Gx X c M → ∀ tg e, mI M it e = true → PI X tg e (iOf X.K (evI c it)))
    (He : ∀ (X : Cx) (M : Mc), Gx X c M → ∀ e, mE M ee e = true → PE X e (eOf X.K (evE c ee)))
    (Ht : ∀ (X : Cx) (M : Mc), Gx X c M → ∀ e, mT M cc e = true → L2.PT X e (tOf X.K (evE c cc))) :
    ∃ tt, PI X tg iter (iOf X.K (evI c it)) ∧ BlkOk X.N X.env.scope scope (ownOf M.N ws) ∧ (∀ (s : Shared) (H : Hp) (C : Addr) (cl : List (Str × Addr)) (fp : List Addr), PG (X.blk s H scope (compEnvC scope cl C X.env) fp) tg (gOf X.K p)) ∧
      (∀ (s : Shared) (H : Hp) (C : Addr) (cl : List (Str × Addr)) (fp : List Addr), PTs (X.blk s H scope (compEnvC scope cl C X.env) fp) ifs tt) ∧ (∀ (s : Shared) (H : Hp) (C : Addr) (cl : List (Str × Addr)) (fp : List Addr), PE (X.blk s H scope (compEnvC scope cl C X.env) fp) elt (eOf X.K (evE c ee))) ∧
      (∀ x, foldedSetIterable iter X.env x = pure x) ∧ SoundE X.K (evE c (.lc p it ws cc ee)) (tLc (iOf X.K (evI c it)) (gOf X.K p) tt (eOf X.K (evE c ee)) ((ownOf M.N ws).map (·.2))) := by
  simp only [mE, Bool.and_eq_true] at h
  obtain ⟨⟨⟨⟨⟨⟨⟨_, h1⟩, h2⟩, h3⟩, h4⟩, h5⟩, h6⟩, h7⟩ := h
  have hb : BlkOk X.N X.env.scope scope (ownOf M.N ws) := by
    rw [G.N, G.sc]
    exact blkOk_by h1
  have hw : (ownOf M.N ws).map (·.2) = ws := by
    unfold ownOf
    rw [List.map_map]
    exact List.map_id' ws
  have hin : ∀ i ∈ tgs p, i ∈ ws := fun i hi => of_decide_eq_true (List.all_eq_true.mp h2 i hi)
  have key : ∃ tt, (∀ (s : Shared) (H : Hp) (C : Addr) (cl : List (Str × Addr)) (fp : List Addr), PTs (X.blk s H scope (compEnvC scope cl C X.env) fp) ifs tt) ∧ SoundT X.K (evE c cc) tt := by
    split at h7
    · split at h7
      · exact ⟨tYes, fun s H C cl fp => pts_nil, by simp only [evE]; exact st_yes⟩
      · cases h7
    · rename_i c'
      exact ⟨tOf X.K (evE c cc), fun s H C cl fp => pts_one (Ht _ _ (G.blk hb.kind) c' h7), tOf_s⟩
    · cases h7
  obtain ⟨tt, k1, k2⟩ := key
  simp only [evE]
  refine ⟨tt, Hi X M G tg iter h4, hb, fun s H C cl fp => cG (g_ok (G.blk hb.kind) p tg h5), k1, fun s H C cl fp => He _ _ (G.blk hb.kind) elt h6, fold_plain h3, ?_⟩
  rw [hw]
  exact s_lc iOf_s gOf_s k2 eOf_s hin

structure Pt (c : Cl) (t : T) : Prop where
  E : ∀ (X : Cx) (M : Mc), Gx X c M → ∀ e, mE M t e = true → PE X e (eOf X.K (evE c t))
  Te : ∀ (X : Cx) (M : Mc), Gx X c M → ∀ e, mT M t e = true → L2.PT X e (tOf X.K (evE c t)) ∧ ((isAnd t = true ∨ isOr t = true) → PW X e (tOf X.K (evE c t)))
  A : ∀ (X : Cx) (M : Mc), Gx X c M → ∀ es, mA M t es = true → PA X es (aOf X.K (evA c t))
  O : ∀ (X : Cx) (M : Mc), Gx X c M → ∀ e, mO M t e = true → PO X e (oOf X.K (evO c t))
  I : ∀ (X : Cx) (M : Mc), Gx X c M → ∀ tg e, mI M t e = true → PI X tg e (iOf X.K (evI c t))
  A1 : ∀ (X : Cx) (M : Mc), Gx X c M → ∀ e, mA1 M t e = true → ∃ u, t = .cons u .nil ∧ plainL e = true ∧ PE X e (eOf X.K (evE c u))

theorem p_var {c : Cl} {i : Nat} : Pt c (.var i) := by
  refine ⟨fun X M G e h => ?_, fun X M G e h => ?_, fun X M G es h => ?_, fun X M G e h => ?_, fun X M G tg e h => ?_, fun X M G e h => ?_⟩
  · cases e <;> first | (exfalso; simp [mE] at h; done) | skip
    simp only [evE]
    exact cE ⟨_, G.vis (by simpa [mE] using h), s_var⟩
  · exact absurd h (by cases e <;> simp [mT])
  · exact absurd h (by cases es <;> simp [mA])
  · exact absurd h (by cases e <;> simp [mO])
  · exact absurd h (by cases e <;> simp [mI])
  · exact absurd h (by simp [mA1])

theorem p_lit {c : Cl} {d : D} : Pt c (.lit d) := by
  refine ⟨fun X M G e h => ?_, fun X M G e h => ?_, fun X M G es h => ?_, fun X M G e h => ?_, fun X M G tg e h => ?_, fun X M G e h => ?_⟩
  · simp only [evE]
    exact cE (lit_ok (by simpa [mE] using h))
  · exact absurd h (by cases e <;> simp [mT])
  · exact absurd h (by cases es <;> simp [mA])
  · exact absurd h (by cases e <;> simp [mO])
  · exact absurd h (by cases e <;> simp [mI])
  · exact absurd h (by simp [mA1])

theorem p_glb {c : Cl} {x : Str} {v : D} : Pt c (.glb x v) := by
  refine ⟨fun X M G e h => ?_, fun X M G e h => ?_, fun X M G es h => ?_, fun X M G e h => ?_, fun X M G tg e h => ?_, fun X M G e h => ?_⟩
  · cases e <;> first | (exfalso; simp [mE] at h; done) | skip
    rename_i y pos
    simp only [mE, Bool.and_eq_true, decide_eq_true_eq] at h
    obtain ⟨⟨⟨rfl, h1⟩, h2⟩, h3⟩ := h
    split at h3
    · rename_i w hw
      have := atomEq_eq h3
      subst this
      obtain ⟨u, w, k1, k2, k3⟩ := G.con _ _ hw
      unfold okN at h2
      simp only [Bool.and_eq_true, Bool.not_eq_true'] at h2
      simp only [evE]
      exact cE ⟨_, pe_glob (G.gl h1) k1 k2 h2.1, s_con k3⟩
    · cases h3
  · exact absurd h (by cases e <;> simp [mT])
  · exact absurd h (by cases es <;> simp [mA])
  · exact absurd h (by cases e <;> simp [mO])
  · exact absurd h (by cases e <;> simp [mI])
  · exact absurd h (by simp [mA1])

theorem p_scl {c : Cl} {i : Nat} : Pt c (.scl i) := by
  refine ⟨fun X M G e h => ?_, fun X M G e h => ?_, fun X M G es h => ?_, fun X M G e h => ?_, fun X M G tg e h => ?_, fun X M G e h => ?_⟩
  · cases e <;> first | (exfalso; simp [mE] at h; done) | skip
    rename_i fn args kws pos
    cases fn <;> first | (exfalso; simp [mE] at h; done) | skip
    rcases args with _ | ⟨a, _ | ⟨b, args⟩⟩ <;> first | (exfalso; simp [mE] at h; done) | skip
    cases a <;> first | (exfalso; simp [mE] at h; done) | skip
    rcases kws with _ | ⟨k, kws⟩ <;> first | (exfalso; simp [mE] at h; done) | skip
    simp only [mE, Bool.and_eq_true, decide_eq_true_eq] at h
    obtain ⟨⟨rfl, h1⟩, h2⟩ := h
    obtain ⟨g1, g2⟩ := G.gb h1
    simp only [evE]
    exact cE ⟨_, pe_callTy (call_list_of (X := X)) g1 g2 (by decide +kernel) (pa_cons (G.vis h2) pa_nil (star_cons rfl)) (by decide) (by decide) (star_cons rfl) rfl, s_scl⟩
  · exact absurd h (by cases e <;> simp [mT])
  · exact absurd h (by cases es <;> simp [mA])
  · exact absurd h (by cases e <;> simp [mO])
  · exact absurd h (by cases e <;> simp [mI])
  · exact absurd h (by simp [mA1])

theorem p_tup {c : Cl} {es : T} (P_es : Pt c es) : Pt c (.tup es) := by
  refine ⟨fun X M G e h => ?_, fun X M G e h => ?_, fun X M G es h => ?_, fun X M G e h => ?_, fun X M G tg e h => ?_, fun X M G e h => ?_⟩
  · cases e <;> first | (exfalso; simp [mE] at h; done) | skip
    simp only [evE]
    exact cE (s_tup (P_es.A X M G _ (by simpa [mE] using h)) aOf_s)
  · exact absurd h (by cases e <;> simp [mT])
  · exact absurd h (by cases es <;> simp [mA])
  · exact absurd h (by cases e <;> simp [mO])
  · exact absurd h (by cases e <;> simp [mI])
  · exact absurd h (by simp [mA1])

theorem p_lst {c : Cl} {es : T} (P_es : Pt c es) : Pt c (.lst es) := by
  refine ⟨fun X M G e h => ?_, fun X M G e h => ?_, fun X M G es h => ?_, fun X M G e h => ?_, fun X M G tg e h => ?_, fun X M G e h => ?_⟩
  · cases e <;> first | (exfalso; simp [mE] at h; done) | skip
    simp only [evE]
    exact cE (s_lst (P_es.A X M G _ (by simpa [mE] using h)) aOf_s)
  · exact absurd h (by cases e <;> simp [mT])
  · exact absurd h (by cases es <;> simp [mA])
  · exact absurd h (by cases e <;> simp [mO])
  · exact absurd h (by cases e <;> simp [mI])
  · exact absurd h (by simp [mA1])

theorem p_dic {c : Cl} {b : Bool} : Pt c (.dic b) := by
  refine ⟨fun X M G e h => ?_, fun X M G e h => ?_, fun X M G es h => ?_, fun X M G e h => ?_, fun X M G tg e h => ?_, fun X M G e h => ?_⟩
  · cases e <;> first | (exfalso; simp [mE] at h; done) | skip
    rename_i ks vs pos
    rcases ks with _ | ⟨k, ks⟩ <;> rcases vs with _ | ⟨v, vs⟩ <;> first | (exfalso; simp [mE] at h; done) | skip
    simp only [evE]
    exact cE s_dic
  · exact absurd h (by cases e <;> simp [mT])
  · exact absurd h (by cases es <;> simp [mA])
  · exact absurd h (by cases e <;> simp [mO])
  · exact absurd h (by cases e <;> simp [mI])
  · exact absurd h (by simp [mA1])

theorem p_nil {c : Cl}  : Pt c .nil := by
  refine ⟨fun X M G e h => ?_, fun X M G e h => ?_, fun X M G es h => ?_, fun X M G e h => ?_, fun X M G tg e h => ?_, fun X M G e h => ?_⟩
  · exact absurd h (by cases e <;> simp [mE])
  · exact absurd h (by cases e <;> simp [mT])
  · cases es with
    | nil => exact cA ⟨_, pa_nil, by simp only [evA]; exact a_nil⟩
    | cons e es => simp [mA] at h
  · cases e with
    | none => simp only [evO]; exact cO ⟨_, po_none, o_none⟩
    | some e => simp [mO] at h
  · exact absurd h (by cases e <;> simp [mI])
  · exact absurd h (by simp [mA1])

theorem p_cons {c : Cl} {t : T} {ts : T} (P_t : Pt c t) (P_ts : Pt c ts) : Pt c (.cons t ts) := by
  refine ⟨fun X M G e h => ?_, fun X M G e h => ?_, fun X M G es h => ?_, fun X M G e h => ?_, fun X M G tg e h => ?_, fun X M G e h => ?_⟩
  · exact absurd h (by cases e <;> simp [mE])
  · exact absurd h (by cases e <;> simp [mT])
  · cases es with
    | nil => simp [mA] at h
    | cons e es =>
      simp only [mA, Bool.and_eq_true] at h
      simp only [evA]
      exact cA ⟨_, pa_cons (P_t.E X M G e h.1.2) (P_ts.A X M G es h.2) (star_cons (plainL_star h.1.1)), a_cons eOf_s aOf_s⟩
  · exact absurd h (by cases e <;> simp [mO])
  · exact absurd h (by cases e <;> simp [mI])
  · cases ts <;> first | (exfalso; simp [mA1] at h; done) | skip
    simp only [mA1, Bool.and_eq_true] at h
    exact ⟨t, rfl, h.1, P_t.E X M G e h.2⟩

theorem p_bin {c : Cl} {op : Operator} {a : T} {b : T} (P_a : Pt c a) (P_b : Pt c b) : Pt c (.bin op a b) := by
  refine ⟨fun X M G e h => ?_, fun X M G e h => ?_, fun X M G es h => ?_, fun X M G e h => ?_, fun X M G tg e h => ?_, fun X M G e h => ?_⟩
  · cases e <;> first | (exfalso; simp [mE] at h; done) | skip
    simp only [mE, Bool.and_eq_true, decide_eq_true_eq] at h
    obtain ⟨⟨rfl, h1⟩, h2⟩ := h
    simp only [evE]
    exact cE (s_bin (P_a.E X M G _ h1) eOf_s (P_b.E X M G _ h2) eOf_s)
  · exact absurd h (by cases e <;> simp [mT])
  · exact absurd h (by cases es <;> simp [mA])
  · exact absurd h (by cases e <;> simp [mO])
  · exact absurd h (by cases e <;> simp [mI])
  · exact absurd h (by simp [mA1])

theorem p_neg {c : Cl} {a : T} (P_a : Pt c a) : Pt c (.neg a) := by
  refine ⟨fun X M G e h => ?_, fun X M G e h => ?_, fun X M G es h => ?_, fun X M G e h => ?_, fun X M G tg e h => ?_, fun X M G e h => ?_⟩
  · cases e <;> first | (exfalso; simp [mE] at h; done) | skip
    rename_i op a' pos
    cases op <;> first | (exfalso; simp [mE] at h; done) | skip
    simp only [evE]
    exact cE (s_neg (P_a.E X M G _ (by simpa [mE] using h)) eOf_s)
  · exact absurd h (by cases e <;> simp [mT])
  · exact absurd h (by cases es <;> simp [mA])
  · exact absurd h (by cases e <;> simp [mO])
  · exact absurd h (by cases e <;> simp [mI])
  · exact absurd h (by simp [mA1])

theorem p_cmp {c : Cl} {op : CmpOp} {a : T} {b : T} (P_a : Pt c a) (P_b : Pt c b) : Pt c (.cmp op a b) := by
  refine ⟨fun X M G e h => ?_, fun X M G e h => ?_, fun X M G es h => ?_, fun X M G e h => ?_, fun X M G tg e h => ?_, fun X M G e h => ?_⟩
  · cases e <;> first | (exfalso; simp [mE] at h; done) | skip
    rename_i l ops cs pos
    rcases ops with _ | ⟨o1, _ | ⟨o2, ops⟩⟩ <;> rcases cs with _ | ⟨c1, _ | ⟨c2, cs⟩⟩ <;> first | (exfalso; simp [mE] at h; done) | skip
    simp only [mE, Bool.and_eq_true, decide_eq_true_eq] at h
    obtain ⟨⟨⟨rfl, h0⟩, h1⟩, h2⟩ := h
    simp only [evE]
    exact cE (s_cmp (by have := G.un; omega) (P_a.E X M G _ h1) eOf_s (P_b.E X M G _ h2) eOf_s (marks_plain h0)).1
  · cases e <;> first | (exfalso; simp [mT] at h; done) | skip
    rename_i l ops cs pos
    rcases ops with _ | ⟨o1, _ | ⟨o2, ops⟩⟩ <;> rcases cs with _ | ⟨c1, _ | ⟨c2, cs⟩⟩ <;> first | (exfalso; simp [mT] at h; done) | skip
    simp only [mT, Bool.and_eq_true, decide_eq_true_eq] at h
    obtain ⟨⟨⟨rfl, h0⟩, h1⟩, h2⟩ := h
    simp only [evE]
    exact ⟨cT (s_cmp (by have := G.un; omega) (P_a.E X M G _ h1) eOf_s (P_b.E X M G _ h2) eOf_s (marks_plain h0)).2, fun z => by rcases z with z | z <;> cases z⟩
  · exact absurd h (by cases es <;> simp [mA])
  · exact absurd h (by cases e <;> simp [mO])
  · exact absurd h (by cases e <;> simp [mI])
  · exact absurd h (by simp [mA1])

theorem p_cmp2 {c : Cl} {p1 : CmpOp} {p2 : CmpOp} {a : T} {b : T} {d : T} (P_a : Pt c a) (P_b : Pt c b) (P_d : Pt c d) : Pt c (.cmp2 p1 p2 a b d) := by
  refine ⟨fun X M G e h => ?_, fun X M G e h => ?_, fun X M G es h => ?_, fun X M G e h => ?_, fun X M G tg e h => ?_, fun X M G e h => ?_⟩
  · cases e <;> first | (exfalso; simp [mE] at h; done) | skip
    rename_i l ops cs pos
    rcases ops with _ | ⟨o1, _ | ⟨o2, _ | ⟨o3, ops⟩⟩⟩ <;> rcases cs with _ | ⟨c1, _ | ⟨c2, _ | ⟨c3, cs⟩⟩⟩ <;> first | (exfalso; simp [mE] at h; done) | skip
    simp only [mE, Bool.and_eq_true, decide_eq_true_eq] at h
    obtain ⟨⟨⟨⟨⟨rfl, rfl⟩, h0⟩, h1⟩, h2⟩, h3⟩ := h
    simp only [evE]
    exact cE (s_cmp2 (by have := G.un; omega) (P_a.E X M G _ h1) eOf_s (P_b.E X M G _ h2) eOf_s (P_d.E X M G _ h3) eOf_s (marks_plain h0)).1
  · cases e <;> first | (exfalso; simp [mT] at h; done) | skip
    rename_i l ops cs pos
    rcases ops with _ | ⟨o1, _ | ⟨o2, _ | ⟨o3, ops⟩⟩⟩ <;> rcases cs with _ | ⟨c1, _ | ⟨c2, _ | ⟨c3, cs⟩⟩⟩ <;> first | (exfalso; simp [mT] at h; done) | skip
    simp only [mT, Bool.and_eq_true, decide_eq_true_eq] at h
    obtain ⟨⟨⟨⟨⟨rfl, rfl⟩, h0⟩, h1⟩, h2⟩, h3⟩ := h
    simp only [evE]
    exact ⟨cT (s_cmp2 (by have := G.un; omega) (P_a.E X M G _ h1) eOf_s (P_b.E X M G _ h2) eOf_s (P_d.E X M G _ h3) eOf_s (by simpa [lastMarks] using marks_plain h0)).2, fun z => by rcases z with z | z <;> cases z⟩
  · exact absurd h (by cases es <;> simp [mA])
  · exact absurd h (by cases e <;> simp [mO])
  · exact absurd h (by cases e <;> simp [mI])
  · exact absurd h (by simp [mA1])

theorem p_and {c : Cl} {a : T} {b : T} (P_a : Pt c a) (P_b : Pt c b) : Pt c (.and a b) := by
  refine ⟨fun X M G e h => ?_, fun X M G e h => ?_, fun X M G es h => ?_, fun X M G e h => ?_, fun X M G tg e h => ?_, fun X M G e h => ?_⟩
  · cases e <;> first | (exfalso; simp [mE] at h; done) | skip
    rename_i op vs pos
    cases op <;> first | (exfalso; simp [mE] at h; done) | skip
    rcases vs with _ | ⟨a', _ | ⟨b', _ | ⟨c', rest⟩⟩⟩ <;> first | (exfalso; simp [mE] at h; done) | skip
    · simp only [mE, Bool.and_eq_true] at h
      simp only [evE]
      exact cE (s_and (P_a.E X M G _ h.1) eOf_s (pe_one (P_b.E X M G _ h.2)) eOf_s)
    · simp only [mE, Bool.and_eq_true] at h
      simp only [evE]
      exact cE (s_and (P_a.E X M G _ h.1) eOf_s (P_b.E X M G _ h.2) eOf_s)
  · have key : PW X e (tOf X.K (evE c (.and a b))) := by
      cases e <;> first | (exfalso; simp [mT] at h; done) | skip
      rename_i op vs pos
      cases op <;> first | (exfalso; simp [mT] at h; done) | skip
      rcases vs with _ | ⟨a', _ | ⟨b', _ | ⟨c', rest⟩⟩⟩ <;> first | (exfalso; simp [mT] at h; done) | skip
      · simp only [mT, Bool.and_eq_true] at h
        simp only [evE]
        exact cW ⟨_, pw_and (P_a.Te X M G _ h.1).1 (pw_and1 (P_b.Te X M G _ h.2).1), andT_run tOf_s tOf_s⟩
      · simp only [mT, Bool.and_eq_true] at h
        simp only [evE]
        exact cW ⟨_, pw_and (P_a.Te X M G _ h.1).1 ((P_b.Te X M G _ h.2.2).2 (.inl h.2.1)), andT_run tOf_s tOf_s⟩
    exact ⟨key.pt, fun _ => key⟩
  · exact absurd h (by cases es <;> simp [mA])
  · exact absurd h (by cases e <;> simp [mO])
  · exact absurd h (by cases e <;> simp [mI])
  · exact absurd h (by simp [mA1])

theorem p_or {c : Cl} {a : T} {b : T} (P_a : Pt c a) (P_b : Pt c b) : Pt c (.or a b) := by
  refine ⟨fun X M G e h => ?_, fun X M G e h => ?_, fun X M G es h => ?_, fun X M G e h => ?_, fun X M G tg e h => ?_, fun X M G e h => ?_⟩
  · cases e <;> first | (exfalso; simp [mE] at h; done) | skip
    rename_i op vs pos
    cases op <;> first | (exfalso; simp [mE] at h; done) | skip
    rcases vs with _ | ⟨a', _ | ⟨b', _ | ⟨c', rest⟩⟩⟩ <;> first | (exfalso; simp [mE] at h; done) | skip
    · simp only [mE, Bool.and_eq_true] at h
      simp only [evE]
      exact cE (s_or (P_a.E X M G _ h.1) eOf_s (pe_one (P_b.E X M G _ h.2)) eOf_s)
    · simp only [mE, Bool.and_eq_true] at h
      simp only [evE]
      exact cE (s_or (P_a.E X M G _ h.1) eOf_s (P_b.E X M G _ h.2) eOf_s)
  · have key : PW X e (tOf X.K (evE c (.or a b))) := by
      cases e <;> first | (exfalso; simp [mT] at h; done) | skip
      rename_i op vs pos
      cases op <;> first | (exfalso; simp [mT] at h; done) | skip
      rcases vs with _ | ⟨a', _ | ⟨b', _ | ⟨c', rest⟩⟩⟩ <;> first | (exfalso; simp [mT] at h; done) | skip
      · simp only [mT, Bool.and_eq_true] at h
        simp only [evE]
        exact cW ⟨_, pw_or (P_a.Te X M G _ h.1).1 (pw_or1 (P_b.Te X M G _ h.2).1), orT_run tOf_s tOf_s⟩
      · simp only [mT, Bool.and_eq_true] at h
        simp only [evE]
        exact cW ⟨_, pw_or (P_a.Te X M G _ h.1).1 ((P_b.Te X M G _ h.2.2).2 (.inr h.2.1)), orT_run tOf_s tOf_s⟩
    exact ⟨key.pt, fun _ => key⟩
  · exact absurd h (by cases es <;> simp [mA])
  · exact absurd h (by cases e <;> simp [mO])
  · exact absurd h (by cases e <;> simp [mI])
  · exact absurd h (by simp [mA1])

theorem p_not {c : Cl} {a : T} (P_a : Pt c a) : Pt c (.not a) := by
  refine ⟨fun X M G e h => ?_, fun X M G e h => ?_, fun X M G es h => ?_, fun X M G e h => ?_, fun X M G tg e h => ?_, fun X M G e h => ?_⟩
  · cases e <;> first | (exfalso; simp [mE] at h; done) | skip
    rename_i op a' pos
    cases op <;> first | (exfalso; simp [mE] at h; done) | skip
    simp only [evE]
    exact cE (s_not (P_a.E X M G _ (by simpa [mE] using h)) eOf_s)
  · cases e <;> first | (exfalso; simp [mT] at h; done) | skip
    rename_i op a' pos
    cases op <;> first | (exfalso; simp [mT] at h; done) | skip
    simp only [evE]
    exact ⟨cT (s_notT (P_a.Te X M G _ (by simpa [mT] using h)).1 tOf_s), fun z => by rcases z with z | z <;> cases z⟩
  · exact absurd h (by cases es <;> simp [mA])
  · exact absurd h (by cases e <;> simp [mO])
  · exact absurd h (by cases e <;> simp [mI])
  · exact absurd h (by simp [mA1])

theorem p_ife {c : Cl} {t : T} {a : T} {b : T} (P_t : Pt c t) (P_a : Pt c a) (P_b : Pt c b) : Pt c (.ife t a b) := by
  refine ⟨fun X M G e h => ?_, fun X M G e h => ?_, fun X M G es h => ?_, fun X M G e h => ?_, fun X M G tg e h => ?_, fun X M G e h => ?_⟩
  · cases e <;> first | (exfalso; simp [mE] at h; done) | skip
    simp only [mE, Bool.and_eq_true] at h
    obtain ⟨⟨h1, h2⟩, h3⟩ := h
    simp only [evE]
    exact cE (s_ife (P_t.Te X M G _ h1).1 tOf_s (P_a.E X M G _ h2) eOf_s (P_b.E X M G _ h3) eOf_s)
  · exact absurd h (by cases e <;> simp [mT])
  · exact absurd h (by cases es <;> simp [mA])
  · exact absurd h (by cases e <;> simp [mO])
  · exact absurd h (by cases e <;> simp [mI])
  · exact absurd h (by simp [mA1])

theorem p_idx {c : Cl} {a : T} {i : T} (P_a : Pt c a) (P_i : Pt c i) : Pt c (.idx a i) := by
  refine ⟨fun X M G e h => ?_, fun X M G e h => ?_, fun X M G es h => ?_, fun X M G e h => ?_, fun X M G tg e h => ?_, fun X M G e h => ?_⟩
  · cases e <;> first | (exfalso; simp [mE] at h; done) | skip
    simp only [mE, Bool.and_eq_true] at h
    obtain ⟨⟨h0, h1⟩, h2⟩ := h
    simp only [evE]
    exact cE (s_idx (by have := G.un; omega) (P_a.E X M G _ h1) eOf_s (P_i.E X M G _ h2) eOf_s (ix_plain h0))
  · exact absurd h (by cases e <;> simp [mT])
  · exact absurd h (by cases es <;> simp [mA])
  · exact absurd h (by cases e <;> simp [mO])
  · exact absurd h (by cases e <;> simp [mI])
  · exact absurd h (by simp [mA1])

theorem p_slc {c : Cl} {a : T} {lo : T} {hi : T} (P_a : Pt c a) (P_lo : Pt c lo) (P_hi : Pt c hi) : Pt c (.slc a lo hi) := by
  refine ⟨fun X M G e h => ?_, fun X M G e h => ?_, fun X M G es h => ?_, fun X M G e h => ?_, fun X M G tg e h => ?_, fun X M G e h => ?_⟩
  · cases e <;> first | (exfalso; simp [mE] at h; done) | skip
    rename_i a' sl pos
    cases sl <;> first | (exfalso; simp [mE] at h; done) | skip
    rename_i lo' hi' st p2
    cases st <;> first | (exfalso; simp [mE] at h; done) | skip
    simp only [mE, Bool.and_eq_true] at h
    obtain ⟨⟨h0, h1⟩, h2⟩ := h
    simp only [evE]
    exact cE (s_slc (P_a.E X M G _ h0) eOf_s (P_lo.O X M G _ h1) oOf_s (P_hi.O X M G _ h2) oOf_s)
  · exact absurd h (by cases e <;> simp [mT])
  · exact absurd h (by cases es <;> simp [mA])
  · exact absurd h (by cases e <;> simp [mO])
  · exact absurd h (by cases e <;> simp [mI])
  · exact absurd h (by simp [mA1])

theorem p_slm {c : Cl} {a : T} {lo : T} {hi : T} (P_a : Pt c a) (P_lo : Pt c lo) (P_hi : Pt c hi) : Pt c (.slm a lo hi) := by
  refine ⟨fun X M G e h => ?_, fun X M G e h => ?_, fun X M G es h => ?_, fun X M G e h => ?_, fun X M G tg e h => ?_, fun X M G e h => ?_⟩
  · unfold mE at h
    split at h <;> first | (exfalso; simp at h; done) | skip
    all_goals (first | (rename_i heq; cases heq; done) | skip)
    rename_i a1 lo1 hi1 a' k0 p0 k1 p1 p2 p3 pos heq
    cases heq
    rw [Bool.and_eq_true] at h
    obtain ⟨h0, h1⟩ := h
    split at h0
    · simp only [evE, evO]
      exact cE (s_down (P_a.E X M G _ h1) eOf_s)
    · cases h0
  · exact absurd h (by cases e <;> simp [mT])
  · exact absurd h (by cases es <;> simp [mA])
  · exact absurd h (by cases e <;> simp [mO])
  · exact absurd h (by cases e <;> simp [mI])
  · exact absurd h (by simp [mA1])
theorem p_gtt {c : Cl} {o : T} {k : T} {x : T} (P_o : Pt c o) (P_k : Pt c k) (P_x : Pt c x) : Pt c (.gtt o k x) := by
  refine ⟨fun X M G e h => ?_, fun X M G e h => ?_, fun X M G es h => ?_, fun X M G e h => ?_, fun X M G tg e h => ?_, fun X M G e h => ?_⟩
  · unfold mE at h
    split at h <;> first | (exfalso; simp at h; done) | skip
    all_goals (first | (rename_i heq; cases heq; done) | skip)
    rename_i o1 k1 x1 y yp nm ap k' x' cp heq
    cases heq
    simp only [Bool.and_eq_true, decide_eq_true_eq] at h
    obtain ⟨⟨⟨⟨⟨⟨rfl, h1⟩, h2⟩, h3⟩, h4⟩, h5⟩, h6⟩ := h
    have s1 := plainL_star h2
    have s2 := plainL_star h3
    have tr : starEach [k', x'] X.env = [(false, eval k' X.env), (false, eval x' X.env)] := by
      rw [star_cons s1, star_cons s2]
      rfl
    simp only [evE]
    refine cE (s_gtt (by have := G.un; omega) (P_o.E X M G _ h4) eOf_s (P_k.E X M G _ h5) eOf_s (P_x.E X M G _ h6) eOf_s ⟨rfl, ?_, h1, ?_⟩)
    · rw [tr]; rfl
    · rw [tr]; rfl
  · exact absurd h (by cases e <;> simp [mT])
  · exact absurd h (by cases es <;> simp [mA])
  · exact absurd h (by cases e <;> simp [mO])
  · exact absurd h (by cases e <;> simp [mI])
  · exact absurd h (by simp [mA1])
theorem p_cal {c : Cl} {f : Nat} {ms : List Bool} {args : T} (P_args : Pt c args) : Pt c (.cal f ms args) := by
  refine ⟨fun X M G e h => ?_, fun X M G e h => ?_, fun X M G es h => ?_, fun X M G e h => ?_, fun X M G tg e h => ?_, fun X M G e h => ?_⟩
  · cases e <;> first | (exfalso; simp [mE] at h; done) | skip
    rename_i fn es kws pos
    cases fn <;> first | (exfalso; simp [mE] at h; done) | skip
    rcases kws with _ | ⟨k, kws⟩ <;> first | (exfalso; simp [mE] at h; done) | skip
    simp only [mE, Bool.and_eq_true, decide_eq_true_eq] at h
    obtain ⟨⟨⟨h0, h1⟩, h2⟩, h3⟩ := h
    obtain ⟨k, a, fd, ps, q1, q2, q3, q4, q5⟩ := G.fs _ _ _ h0
    unfold okN at h2
    simp only [Bool.and_eq_true, Bool.not_eq_true'] at h2
    have hx : Passes CX0 X (fun _ _ _ => False) := fun _ _ _ _ _ _ _ h => h.elim
    have A := P_args.A X M G _ h3
    have st := mA_star h3
    cases es with
    | nil =>
      have e0 : evA c args = nilA := by
        cases args <;> first | rfl | (exfalso; simp [mA] at h3; done)
      simp only [evE]
      refine cE ⟨_, pe_callG0 (Ex := fun _ _ _ => False) q3 q4 G.gd (G.gl h1) q1 q2 q5 hx h2.1, ?_⟩
      rw [e0]
      exact s_cal _ a_nil fun z rs z1 e => by cases e; rfl
    | cons e es =>
      rw [List.all_cons, Bool.and_eq_true] at st
      simp only [evE]
      exact cE ⟨_, pe_callG (Ex := fun _ _ _ => False) q3 q4 G.gd (G.gl h1) q1 q2 q5 hx A h2.1 (star_cons (by simpa using st.1)) (stars_any st.2), s_cal _ aOf_s (evA_len args _ h3)⟩
  · exact absurd h (by cases e <;> simp [mT])
  · exact absurd h (by cases es <;> simp [mA])
  · exact absurd h (by cases e <;> simp [mO])
  · exact absurd h (by cases e <;> simp [mI])
  · exact absurd h (by simp [mA1])

theorem p_blt {c : Cl} {b : Bi} {args : T} (P_args : Pt c args) : Pt c (.blt b args) := by
  refine ⟨fun X M G e h => ?_, fun X M G e h => ?_, fun X M G es h => ?_, fun X M G e h => ?_, fun X M G tg e h => ?_, fun X M G e h => ?_⟩
  · cases e <;> first | (exfalso; simp [mE] at h; done) | skip
    rename_i fn es kws pos
    cases fn <;> first | (exfalso; simp [mE] at h; done) | skip
    rename_i x p
    rcases es with _ | ⟨e, es⟩ <;> first | (exfalso; simp [mE] at h; done) | skip
    rcases kws with _ | ⟨k, kws⟩ <;> first | (exfalso; simp [mE] at h; done) | skip
    simp only [mE] at h
    simp only [evE]
    have one := fun {e : Expr} (h : mA1 M args e = true) => P_args.A1 X M G e h
    split at h
    · rename_i nm ty hb
      simp only [Bool.and_eq_true, decide_eq_true_eq] at h
      obtain ⟨⟨rfl, h1⟩, h2⟩ := h
      obtain ⟨g1, g2⟩ := G.gb h1
      have st := mA_star h2
      rw [List.all_cons, Bool.and_eq_true] at st
      exact cE (s_blt G.calm G.un G.gd hb g1 g2 (P_args.A X M G _ h2) aOf_s (star_cons (by simpa using st.1)) (stars_any st.2))
    · split at h
      · rename_i t y q
        simp only [Bool.and_eq_true, decide_eq_true_eq] at h
        obtain ⟨⟨⟨⟨⟨rfl, h1⟩, rfl⟩, h3⟩, h4⟩, h5⟩ := h
        obtain ⟨g1, g2⟩ := G.gb h1
        obtain ⟨g3, g4⟩ := G.gb h3
        obtain ⟨u, rfl, pl, k⟩ := one h5
        simp only [evA]
        exact cE (s_isi h4 g1 g2 g3 g4 k eOf_s (star_cons (plainL_star pl)))
      · rename_i o op nm ap cp
        simp only [Bool.and_eq_true, decide_eq_true_eq] at h
        obtain ⟨⟨⟨⟨rfl, h1⟩, rfl⟩, h3⟩, h4⟩ := h
        obtain ⟨g1, g2⟩ := G.gb h1
        obtain ⟨u, rfl, pl, k⟩ := one h4
        simp only [evA]
        exact cE (s_vals G.calm g1 g2 k eOf_s rfl h3 (star_cons rfl))
      · rename_i o op o1 os op2 nm ap cp
        simp only [Bool.and_eq_true, decide_eq_true_eq] at h
        obtain ⟨⟨⟨⟨rfl, h1⟩, rfl⟩, h3⟩, h4⟩ := h
        obtain ⟨g1, g2⟩ := G.gb h1
        obtain ⟨u, rfl, pl, k⟩ := one h4
        simp only [evA]
        exact cE (s_vals G.calm g1 g2 k eOf_s rfl h3 (star_cons rfl))
      · cases h

  · exact absurd h (by cases e <;> simp [mT])
  · exact absurd h (by cases es <;> simp [mA])
  · exact absurd h (by cases e <;> simp [mO])
  · exact absurd h (by cases e <;> simp [mI])
  · exact absurd h (by simp [mA1])

theorem p_mth {c : Cl} {m : Me} {o : T} {args : T} (P_o : Pt c o) (P_args : Pt c args) : Pt c (.mth m o args) := by
  refine ⟨fun X M G e h => ?_, fun X M G e h => ?_, fun X M G es h => ?_, fun X M G e h => ?_, fun X M G tg e h => ?_, fun X M G e h => ?_⟩
  · exact absurd h (by cases e <;> simp [mE])
  · exact absurd h (by cases e <;> simp [mT])
  · exact absurd h (by cases es <;> simp [mA])
  · exact absurd h (by cases e <;> simp [mO])
  · exact absurd h (by cases e <;> simp [mI])
  · exact absurd h (by simp [mA1])

theorem p_mtw {c : Cl} {m : Mw} {i : Nat} {args : T} (P_args : Pt c args) : Pt c (.mtw m i args) := by
  refine ⟨fun X M G e h => ?_, fun X M G e h => ?_, fun X M G es h => ?_, fun X M G e h => ?_, fun X M G tg e h => ?_, fun X M G e h => ?_⟩
  · cases e <;> first | (exfalso; simp [mE] at h; done) | skip
    rename_i fn es kws cp
    cases fn <;> first | (exfalso; simp [mE] at h; done) | skip
    rename_i o nm ap
    cases o <;> first | (exfalso; simp [mE] at h; done) | skip
    rcases kws with _ | ⟨k, kws⟩ <;> first | (exfalso; simp [mE] at h; done) | skip
    simp only [mE, Bool.and_eq_true] at h
    obtain ⟨⟨h0, h1⟩, h2⟩ := h
    have V := fun pos => G.vis (pos := pos) h0
    have one : ∀ {e : Expr} {nm : Str}, mA M args [e] = true → ((m = .app ∧ nm = "append") ∨ (m = .popAt ∧ nm = "pop")) → ∀ (x : Str) (p : Pos), PE X (.Name x p) (tVar i) → PE X (.Call (.Attribute (.Name x p) nm ap) [e] [] cp) (eOf X.K (evE c (.mtw m i args))) := fun {e nm} hA hm x p V => by
      have st := mA_star hA
      have st' := st
      rw [List.all_cons, Bool.and_eq_true] at st
      have s1 : starE e = false := by simpa using st.1
      have few : ((backTo cp (starEach [e] X.env)).all (fun x => !x.1) && (backToKw cp (keywordEach [] X.env)).all (fun x => x.1.isSome) && decide (([e] : List Expr).length + ([] : List Keyword).length + (if ([] : List Keyword).isEmpty then 0 else 1) < 30)) = true := by
        rw [star_cons s1]
        rfl
      simp only [evE]
      exact cE (s_mtw hm V (P_args.A X M G _ hA) aOf_s rfl few h1 (star_cons s1) rfl)
    split at h2
    · rw [Bool.and_eq_true, decide_eq_true_eq] at h2
      obtain ⟨rfl, h3⟩ := h2
      have e0 : args = .nil := by
        cases args <;> first | rfl | (exfalso; simp at h3; done)
      subst e0
      simp only [evE]
      exact cE (s_pop (V _) rfl h1)
    · rw [Bool.and_eq_true, decide_eq_true_eq] at h2
      obtain ⟨rfl, h3⟩ := h2
      exact one h3 (.inl ⟨rfl, rfl⟩) _ _ (V _)
    · rw [Bool.and_eq_true, decide_eq_true_eq] at h2
      obtain ⟨rfl, h3⟩ := h2
      exact one h3 (.inr ⟨rfl, rfl⟩) _ _ (V _)
    · cases h2
  · exact absurd h (by cases e <;> simp [mT])
  · exact absurd h (by cases es <;> simp [mA])
  · exact absurd h (by cases e <;> simp [mO])
  · exact absurd h (by cases e <;> simp [mI])
  · exact absurd h (by simp [mA1])

theorem p_lc {c : Cl} {p : Tg} {it : T} {ws : List Nat} {t : T} {a : T} (P_it : Pt c it) (P_t : Pt c t) (P_a : Pt c a) : Pt c (.lc p it ws t a) := by
  refine ⟨fun X M G e h => ?_, fun X M G e h => ?_, fun X M G es h => ?_, fun X M G e h => ?_, fun X M G tg e h => ?_, fun X M G e h => ?_⟩
  · cases e <;> first | (exfalso; simp [mE] at h; done) | skip
    rename_i elt gens scope pos
    rcases gens with _ | ⟨⟨tg, iter, ifs, as⟩, _ | ⟨g2, gens⟩⟩ <;> first | (exfalso; simp [mE] at h; done) | skip
    have h0 : as = 0 := by
      by_cases q : as = 0
      · exact q
      · exfalso
        simp [mE, q] at h
    subst h0
    obtain ⟨tt, k1, k2, k3, k4, k5, k6, k7⟩ := lc_pieces G h (fun X M G tg e h => P_it.I X M G tg e h) (fun X M G e h => P_a.E X M G e h) (fun X M G e h => (P_t.Te X M G e h).1)
    simp only [evE]
    exact cE ⟨_, pe_lc G.calm (by rw [G.N]; exact G.nd) k1 k2 k3 k4 k5 k6, k7⟩
  · exact absurd h (by cases e <;> simp [mT])
  · exact absurd h (by cases es <;> simp [mA])
  · exact absurd h (by cases e <;> simp [mO])
  · exact absurd h (by cases e <;> simp [mI])
  · exact absurd h (by simp [mA1])

theorem p_rng {c : Cl} {args : T} (P_args : Pt c args) : Pt c (.rng args) := by
  refine ⟨fun X M G e h => ?_, fun X M G e h => ?_, fun X M G es h => ?_, fun X M G e h => ?_, fun X M G tg e h => ?_, fun X M G e h => ?_⟩
  · exact absurd h (by cases e <;> simp [mE])
  · exact absurd h (by cases e <;> simp [mT])
  · exact absurd h (by cases es <;> simp [mA])
  · exact absurd h (by cases e <;> simp [mO])
  · cases e <;> first | (exfalso; simp [mI] at h; done) | skip
    rename_i fn es kws pos
    cases fn <;> first | (exfalso; simp [mI] at h; done) | skip
    rcases kws with _ | ⟨k, kws⟩ <;> first | (exfalso; simp [mI] at h; done) | skip
    simp only [mI, Bool.and_eq_true, decide_eq_true_eq] at h
    obtain ⟨⟨⟨rfl, h1⟩, h2⟩, h3⟩ := h
    obtain ⟨g1, g2⟩ := G.gb h1
    simp only [evI]
    have A := P_args.A X M G _ h3
    have st := mA_star h3
    rcases es with _ | ⟨a, _ | ⟨b, _ | ⟨d, es⟩⟩⟩
    · simp at h2
    · rw [List.all_cons, Bool.and_eq_true] at st
      exact cI ⟨_, pi_range1 g1 g2 A (star_cons (by simpa using st.1)), i_rng1 aOf_s (evA_len args _ h3)⟩
    · rw [List.all_cons, List.all_cons, Bool.and_eq_true, Bool.and_eq_true] at st
      have s1 : starE a = false := by simpa using st.1
      have s2 : starE b = false := by simpa using st.2.1
      exact cI ⟨_, pi_range2 g1 g2 A (by rw [star_cons s1, star_cons s2]; rfl) (by rw [star_cons s2]; rfl), i_rng2 aOf_s (evA_len args _ h3)⟩
    · simp at h2
  · exact absurd h (by simp [mA1])

theorem p_enm {c : Cl} {a : T} (P_a : Pt c a) : Pt c (.enm a) := by
  refine ⟨fun X M G e h => ?_, fun X M G e h => ?_, fun X M G es h => ?_, fun X M G e h => ?_, fun X M G tg e h => ?_, fun X M G e h => ?_⟩
  · exact absurd h (by cases e <;> simp [mE])
  · exact absurd h (by cases e <;> simp [mT])
  · exact absurd h (by cases es <;> simp [mA])
  · exact absurd h (by cases e <;> simp [mO])
  · exact absurd h (by cases e <;> simp [mI])
  · exact absurd h (by simp [mA1])

theorem p_sq {c : Cl} {t : T} (P_t : Pt c t) : Pt c (.sq t) := by
  refine ⟨fun X M G e h => ?_, fun X M G e h => ?_, fun X M G es h => ?_, fun X M G e h => ?_, fun X M G tg e h => ?_, fun X M G e h => ?_⟩
  · exact absurd h (by cases e <;> simp [mE])
  · exact absurd h (by cases e <;> simp [mT])
  · exact absurd h (by cases es <;> simp [mA])
  · exact absurd h (by cases e <;> simp [mO])
  · simp only [evI]
    exact cI ⟨_, pi_seq (P_t.E X M G e (by simpa [mI] using h)), i_seq eOf_s⟩
  · exact absurd h (by simp [mA1])

theorem p_sm {c : Cl} {t : T} (P_t : Pt c t) : Pt c (.sm t) := by
  refine ⟨fun X M G e h => ?_, fun X M G e h => ?_, fun X M G es h => ?_, fun X M G e h => ?_, fun X M G tg e h => ?_, fun X M G e h => ?_⟩
  · exact absurd h (by cases e <;> simp [mE])
  · exact absurd h (by cases e <;> simp [mT])
  · exact absurd h (by cases es <;> simp [mA])
  · cases e with
    | none => simp [mO] at h
    | some e =>
      simp only [evO]
      exact cO ⟨_, po_some (P_t.E X M G e (by simpa [mO] using h)), o_some eOf_s⟩
  · exact absurd h (by cases e <;> simp [mI])
  · exact absurd h (by simp [mA1])

theorem p_zp {c : Cl} {a : T} {b : T} (P_a : Pt c a) (P_b : Pt c b) : Pt c (.zp a b) := by
  refine ⟨fun X M G e h => ?_, fun X M G e h => ?_, fun X M G es h => ?_, fun X M G e h => ?_, fun X M G tg e h => ?_, fun X M G e h => ?_⟩
  · exact absurd h (by cases e <;> simp [mE])
  · exact absurd h (by cases e <;> simp [mT])
  · exact absurd h (by cases es <;> simp [mA])
  · exact absurd h (by cases e <;> simp [mO])
  · exact absurd h (by cases e <;> simp [mI])
  · exact absurd h (by simp [mA1])

theorem p_tst {c : Cl} {a : T} (P_a : Pt c a) : Pt c (.tst a) := by
  refine ⟨fun X M G e h => ?_, fun X M G e h => ?_, fun X M G es h => ?_, fun X M G e h => ?_, fun X M G tg e h => ?_, fun X M G e h => ?_⟩
  · exact absurd h (by cases e <;> simp [mE])
  · simp only [mT, Bool.and_eq_true] at h
    simp only [evE]
    exact ⟨cT ⟨_, pt_val (P_a.E X M G e h.2) (test_plain h.1), eOf_s.test⟩, fun z => by rcases z with z | z <;> cases z⟩
  · exact absurd h (by cases es <;> simp [mA])
  · exact absurd h (by cases e <;> simp [mO])
  · exact absurd h (by cases e <;> simp [mI])
  · exact absurd h (by simp [mA1])

theorem pt_all {c : Cl} (t : T) : Pt c t := by
  induction t with
  | var i => exact p_var
  | lit d => exact p_lit
  | glb x v => exact p_glb
  | scl i => exact p_scl
  | tup es P_es => exact p_tup P_es
  | lst es P_es => exact p_lst P_es
  | dic b => exact p_dic
  | nil  => exact p_nil
  | cons t ts P_t P_ts => exact p_cons P_t P_ts
  | bin op a b P_a P_b => exact p_bin P_a P_b
  | neg a P_a => exact p_neg P_a
  | cmp op a b P_a P_b => exact p_cmp P_a P_b
  | cmp2 p1 p2 a b d P_a P_b P_d => exact p_cmp2 P_a P_b P_d
  | and a b P_a P_b => exact p_and P_a P_b
  | or a b P_a P_b => exact p_or P_a P_b
  | not a P_a => exact p_not P_a
  | ife t a b P_t P_a P_b => exact p_ife P_t P_a P_b
  | idx a i P_a P_i => exact p_idx P_a P_i
  | slc a lo hi P_a P_lo P_hi => exact p_slc P_a P_lo P_hi
  | slm a lo hi P_a P_lo P_hi => exact p_slm P_a P_lo P_hi
  | cal f ms args P_args => exact p_cal P_args
  | blt b args P_args => exact p_blt P_args
  | mth m o args P_o P_args => exact p_mth P_o P_args
  | gtt o k x P_o P_k P_x => exact p_gtt P_o P_k P_x
  | mtw m i args P_args => exact p_mtw P_args
  | lc p it ws t a P_it P_t P_a => exact p_lc P_it P_t P_a
  | rng args P_args => exact p_rng P_args
  | enm a P_a => exact p_enm P_a
  | sq t P_t => exact p_sq P_t
  | sm t P_t => exact p_sm P_t
  | zp a b P_a P_b => exact p_zp P_a P_b
  | tst a P_a => exact p_tst P_a
end TW
end

section
/-! A text that the check lets through is read rightly: statements. -/
namespace TW
open PySem PySem.Spec PyProof.Rows L2
structure Qs (c : Cl) (W : Nat) (s : S) : Prop where
  one : ∀ (X : Cx) (M : Mc), Gx X c M → ∀ as vs F0 H0 st, mS M s st = true → ∃ t, PS X st t ∧ SoundS X.K as vs F0 H0 (evS c W s) t
  many : ∀ (X : Cx) (M : Mc), Gx X c M → ∀ as vs F0 H0 sts, mSs M s sts = true → ∃ t, PSs X sts t ∧ SoundS X.K as vs F0 H0 (evS c W s) t
theorem swaps_lc {elt : Expr} {gens : List Comprehension} {scope : Scope} {p : Pos} {t : Str} {tp : Pos} {n : Nat} {env : Env} (hk : env.scope.kind = .function) :
    swapsWith (.ListComp elt gens scope p) (some (.Name t tp)) n env = pure (lcSwap env.scope t tp (.ListComp elt gens scope p)) := by
  have hb : env.blockKind = .function := by unfold Env.blockKind; rw [hk]; rfl
  unfold swapsWith
  simp only [hb]
  rfl
section
variable {c : Cl} {W : Nat}
theorem q_asg {i : Nat} {e : T} : Qs c W (.asg i e) := by
  refine ⟨fun X M G as vs F0 H0 st h => ?_, fun X M G as vs F0 H0 sts h => absurd h (by cases sts <;> simp [mSs])⟩
  cases st <;> first | (exfalso; simp [mS] at h; done) | skip
  rename_i tgs ex pos
  rw [mS, Bool.and_eq_true] at h
  obtain ⟨h0, h2⟩ := h
  unfold asgB at h0
  split at h0
  case h_2 => cases h0
  rename_i x tp
  simp only [Bool.and_eq_true, Bool.or_eq_true] at h0
  obtain ⟨h1, h3⟩ := h0
  obtain ⟨_, k1, k2, k3⟩ := G.loc (pos := tp) h1
  have nd : X.N.Nodup := by rw [G.N]; exact G.nd
  have he := (pt_all (c := c) e).E X M G ex h2
  simp only [evS]
  rcases h3 with h3 | ⟨h3, h4⟩
  · exact s_asg (ps_set nd k1 k2 he (swaps_plain h3) k3) eOf_s
  · cases ex <;> first | (exfalso; simp [isLC] at h3; done) | skip
    rename_i elt gens scope p
    have hsw := swaps_lc (elt := elt) (gens := gens) (scope := scope) (p := p) (t := x) (tp := tp) (n := pos.line) (env := X.env) (by rw [G.sc]; exact G.kind)
    rw [G.sc] at hsw
    cases hb : lcSwap M.sc x tp (.ListComp elt gens scope p) with
    | false =>
      rw [hb] at hsw
      exact s_asg (ps_set nd k1 k2 he hsw k3) eOf_s
    | true =>
      rw [hb] at hsw h4
      simp only [Bool.not_true, Bool.false_eq_true, false_or, decide_eq_true_eq] at h4
      cases e <;> first | (exfalso; simp [mE, litB] at h2; done) | skip
      rename_i p' it ws cc ee
      rcases gens with _ | ⟨⟨tg, iter, ifs, as⟩, _ | ⟨g2, gens⟩⟩ <;> first | (exfalso; simp [mE] at h2; done) | skip
      have h0 : as = 0 := by
        by_cases q : as = 0
        · exact q
        · exfalso
          simp [mE, q] at h2
      subst h0
      obtain ⟨tt, q1, q2, q3, q4, q5, q6, q7⟩ := lc_pieces G h2 (fun X M G tg e h => (pt_all (c := c) it).I X M G tg e h) (fun X M G e h => (pt_all (c := c) ee).E X M G e h) (fun X M G e h => ((pt_all (c := c) cc).Te X M G e h).1)
      exact s_asg (ps_setLc G.calm nd k1 (by rw [G.sc]; exact h4) hsw q1 q2 q3 q4 q5 q6) q7
theorem q_asgP {p : Tg} {e : T} : Qs c W (.asgP p e) := by
  refine ⟨fun X M G as vs F0 H0 st h => ?_, fun X M G as vs F0 H0 sts h => absurd h (by cases sts <;> simp [mSs])⟩
  cases st <;> first | (exfalso; simp [mS] at h; done) | skip
  rename_i tgs ex pos
  rw [mS, Bool.and_eq_true] at h
  obtain ⟨h0, h2⟩ := h
  unfold asgPB at h0
  split at h0
  case h_2 => cases h0
  rename_i es k tp
  simp only [Bool.and_eq_true] at h0
  obtain ⟨⟨h1, h3⟩, h4⟩ := h0
  have he := (pt_all (c := c) e).E X M G ex h2
  simp only [evS]
  have hk : X.env.scope.kind = .function := by rw [G.sc]; exact G.kind
  have hw : swappedStores [.Tuple es k tp] ex X.env = pure none := by
    by_cases q : noTup ex = true
    · exact sw_notup q
    · cases ex <;> first | (exfalso; simp [noTup] at q; done) | skip
      exact sw_no hk (by rw [G.sc]; exact h4)
  exact s_asgP he eOf_s (cG (g_ok G p _ h1)) gOf_s (swapsSole_plain h3) hw (by rfl)
theorem q_asgM {is : List Nat} {es : T} : Qs c W (.asgM is es) := by
  refine ⟨fun X M G as vs F0 H0 st h => ?_, fun X M G as vs F0 H0 sts h => absurd h (by cases sts <;> simp [mSs])⟩
  cases st <;> first | (exfalso; simp [mS] at h; done) | skip
  rename_i tgs ex pos
  rw [mS, Bool.and_eq_true] at h
  obtain ⟨h0, h1⟩ := h
  unfold asgMB at h0
  split at h0
  case h_2 => cases h0
  rename_i ts k tp us k2 p2
  simp only [Bool.and_eq_true, decide_eq_true_eq] at h0
  obtain ⟨⟨h2, h4⟩, h3⟩ := h0
  have h1 : mA M es us = true := h1
  have hA := (pt_all (c := c) es).A X M G us h1
  have hk : X.env.scope.kind = .function := by rw [G.sc]; exact G.kind
  have hw : swappedStores [.Tuple ts k tp] (.Tuple us k2 p2) X.env = pure (some (swNames X.env.scope ts)) := sw_yes hk (by rw [G.sc]; exact h2)
  rw [G.sc, h4] at hw
  have nd : X.N.Nodup := by rw [G.N]; exact G.nd
  have hl : us.length = ts.length := by
    unfold swYes at h2
    simp only [Bool.and_eq_true, beq_iff_eq] at h2
    exact h2.1.1.1.1.1.2
  simp only [evS]
  unfold parB at h3
  split at h3
  · rename_i i j x px y py
    simp only [Bool.and_eq_true, decide_eq_true_eq] at h3
    obtain ⟨⟨⟨⟨q1, q2⟩, q3⟩, q5⟩, q6⟩ := h3
    match us, hl with
    | [a, b], _ => exact s_asgM (ps_par G.calm nd (by rw [G.N]; exact q1) (by rw [G.N]; exact q2) q3 (by rw [G.sc]; exact q5) (by rw [G.sc]; exact q6) hA hw) aOf_s aOf_mono
  · rename_i i j l x px y py u pu
    simp only [Bool.and_eq_true, decide_eq_true_eq] at h3
    obtain ⟨⟨⟨⟨⟨⟨⟨⟨q1, q2⟩, q3⟩, q4⟩, q5⟩, q6⟩, q8⟩, q9⟩, q10⟩ := h3
    match us, hl with
    | [a, b, d], _ => exact s_asgM3 (ps_par3 G.calm nd (by rw [G.N]; exact q1) (by rw [G.N]; exact q2) (by rw [G.N]; exact q3) q4 q5 q6 (by rw [G.sc]; exact q8) (by rw [G.sc]; exact q9) (by rw [G.sc]; exact q10) hA hw) aOf_s aOf_mono
  · cases h3
theorem assign_sub {o i : Expr} {pos : Pos} {env : Env} (h : plainE i = true) : ∀ v, assign (.Subscript o i pos) env v = (do
      let ov ← holding [v] (eval o env)
      let iv ← holding [v, ov] (eval i env)
      standAt pos
      holding [v, ov, iv] (setItem ov iv v)
      release [v, ov, iv] []) := by
  intro v
  cases i <;> first | rfl | (simp [plainE] at h)
theorem q_sti {i : Nat} {ix e : T} : Qs c W (.sti i ix e) := by
  refine ⟨fun X M G as vs F0 H0 st h => ?_, fun X M G as vs F0 H0 sts h => absurd h (by cases sts <;> simp [mSs])⟩
  cases st <;> first | (exfalso; simp [mS] at h; done) | skip
  rename_i tgs ex pos
  rw [mS, Bool.and_eq_true, Bool.and_eq_true] at h
  obtain ⟨⟨h0, h4⟩, h5⟩ := h
  unfold stiB at h0
  split at h0
  case h_2 => cases h0
  rename_i x xp ix' sp
  simp only [Bool.and_eq_true] at h0
  obtain ⟨⟨h1, h2⟩, h3⟩ := h0
  have h4 : mE M ix ix' = true := h4
  simp only [evS]
  exact s_sti (ps_asg ((pt_all (c := c) e).E X M G ex h5) (pg_sub (G.vis h1) ((pt_all (c := c) ix).E X M G ix' h4) (set_any (by have := G.un; omega)) (assign_sub h2)) (swapsSole_plain h3) (by rfl) (by rfl)) eOf_s eOf_s
theorem q_exp {e : T} : Qs c W (.exp e) := by
  refine ⟨fun X M G as vs F0 H0 st h => ?_, fun X M G as vs F0 H0 sts h => absurd h (by cases sts <;> simp [mSs])⟩
  cases st <;> first | (exfalso; simp [mS] at h; done) | skip
  simp only [mS, Bool.and_eq_true] at h
  simp only [evS]
  exact s_exp ((pt_all (c := c) e).E X M G _ h.2) eOf_s (swaps_plain h.1)
theorem q_ite {t : T} {a b : S} (Pa : Qs c W a) (Pb : Qs c W b) : Qs c W (.ite t a b) := by
  refine ⟨fun X M G as vs F0 H0 st h => ?_, fun X M G as vs F0 H0 sts h => absurd h (by cases sts <;> simp [mSs])⟩
  cases st <;> first | (exfalso; simp [mS] at h; done) | skip
  simp only [mS, Bool.and_eq_true] at h
  obtain ⟨⟨h1, h2⟩, h3⟩ := h
  obtain ⟨ta, a1, a2⟩ := Pa.many X M G as vs F0 H0 _ h2
  obtain ⟨tb, b1, b2⟩ := Pb.many X M G as vs F0 H0 _ h3
  simp only [evS]
  exact s_ite ((pt_all (c := c) t).Te X M G _ h1).1 tOf_s a1 a2 b1 b2
theorem q_whl {t : T} {b : S} (Pb : Qs c W b) : Qs c W (.whl t b) := by
  refine ⟨fun X M G as vs F0 H0 st h => ?_, fun X M G as vs F0 H0 sts h => absurd h (by cases sts <;> simp [mSs])⟩
  cases st <;> first | (exfalso; simp [mS] at h; done) | skip
  rename_i c' b' el pos
  cases el <;> first | (exfalso; simp [mS] at h; done) | skip
  simp only [mS, Bool.and_eq_true] at h
  obtain ⟨tb, b1, b2⟩ := Pb.many X M G as vs F0 H0 _ h.2
  simp only [evS]
  exact s_whl (by rw [G.xe]; exact PassesOwn.never) ((pt_all (c := c) t).Te X M G _ h.1).1 tOf_s b1 b2
theorem q_for {p : Tg} {it : T} {b : S} (Pb : Qs c W b) : Qs c W (.for p it b) := by
  refine ⟨fun X M G as vs F0 H0 st h => ?_, fun X M G as vs F0 H0 sts h => absurd h (by cases sts <;> simp [mSs])⟩
  cases st <;> first | (exfalso; simp [mS] at h; done) | skip
  rename_i tg iter b' el pos
  cases el <;> first | (exfalso; simp [mS] at h; done) | skip
  simp only [mS, Bool.and_eq_true] at h
  obtain ⟨⟨⟨h1, h2⟩, h3⟩, h4⟩ := h
  obtain ⟨tb, b1, b2⟩ := Pb.many X M G as vs F0 H0 _ h4
  simp only [evS]
  exact s_for (by rw [G.xe]; exact PassesOwn.never) G.calm ((pt_all (c := c) it).I X M G tg iter h3) iOf_s (cG (g_ok G p tg h2)) gOf_s b1 b2 (fold_plain h1)
theorem q_ret {e : T} : Qs c W (.ret e) := by
  refine ⟨fun X M G as vs F0 H0 st h => ?_, fun X M G as vs F0 H0 sts h => absurd h (by cases sts <;> simp [mSs])⟩
  cases st <;> first | (exfalso; simp [mS] at h; done) | skip
  rename_i ex pos
  cases ex <;> first | (exfalso; simp [mS] at h; done) | skip
  simp only [evS]
  exact s_ret ((pt_all (c := c) e).E X M G _ (by simpa [mS] using h)) eOf_s
theorem q_retN : Qs c W .retN := by
  refine ⟨fun X M G as vs F0 H0 st h => ?_, fun X M G as vs F0 H0 sts h => absurd h (by cases sts <;> simp [mSs])⟩
  cases st <;> first | (exfalso; simp [mS] at h; done) | skip
  rename_i ex pos
  cases ex <;> first | (exfalso; simp [mS] at h; done) | skip
  simp only [evS]
  exact s_retN
theorem q_brk : Qs c W .brk := by
  refine ⟨fun X M G as vs F0 H0 st h => ?_, fun X M G as vs F0 H0 sts h => absurd h (by cases sts <;> simp [mSs])⟩
  cases st <;> first | (exfalso; simp [mS] at h; done) | skip
  simp only [evS]
  exact s_brk
theorem q_cnt : Qs c W .cnt := by
  refine ⟨fun X M G as vs F0 H0 st h => ?_, fun X M G as vs F0 H0 sts h => absurd h (by cases sts <;> simp [mSs])⟩
  cases st <;> first | (exfalso; simp [mS] at h; done) | skip
  simp only [evS]
  exact s_cnt
theorem q_pss : Qs c W .pss := by
  refine ⟨fun X M G as vs F0 H0 st h => ?_, fun X M G as vs F0 H0 sts h => absurd h (by cases sts <;> simp [mSs])⟩
  cases st <;> first | (exfalso; simp [mS] at h; done) | skip
  simp only [evS]
  exact s_pss
theorem q_rai : Qs c W .rai := by
  refine ⟨fun X M G as vs F0 H0 st h => ?_, fun X M G as vs F0 H0 sts h => absurd h (by cases sts <;> simp [mSs])⟩
  simp only [evS]
  exact s_rai
theorem q_nil : Qs c W .nil := by
  refine ⟨fun X M G as vs F0 H0 st h => absurd h (by cases st <;> simp [mS]), fun X M G as vs F0 H0 sts h => ?_⟩
  cases sts <;> first | (exfalso; simp [mSs] at h; done) | skip
  simp only [evS]
  exact ss_nil
theorem q_cons {s ss : S} (P1 : Qs c W s) (P2 : Qs c W ss) : Qs c W (.cons s ss) := by
  refine ⟨fun X M G as vs F0 H0 st h => absurd h (by cases st <;> simp [mS]), fun X M G as vs F0 H0 sts h => ?_⟩
  cases sts <;> first | (exfalso; simp [mSs] at h; done) | skip
  simp only [mSs, Bool.and_eq_true] at h
  obtain ⟨t, a1, a2⟩ := P1.one X M G as vs F0 H0 _ h.1
  obtain ⟨u, b1, b2⟩ := P2.many X M G as vs F0 H0 _ h.2
  simp only [evS]
  exact ss_cons a1 a2 b1 b2
theorem qs_all (s : S) : Qs c W s := by
  induction s with
  | asg i e => exact q_asg
  | asgP p e => exact q_asgP
  | asgM is es => exact q_asgM
  | sti i ix e => exact q_sti
  | exp e => exact q_exp
  | ite t a b Pa Pb => exact q_ite Pa Pb
  | whl t b Pb => exact q_whl Pb
  | «for» p it b Pb => exact q_for Pb
  | ret e => exact q_ret
  | retN => exact q_retN
  | brk => exact q_brk
  | cnt => exact q_cnt
  | pss => exact q_pss
  | rai => exact q_rai
  | nil => exact q_nil
  | cons s ss P1 P2 => exact q_cons P1 P2
end
end TW
end

section
/-! All defs of a program at once. -/
namespace TW
open PySem PySem.Spec PyProof.Rows L2
structure Row where
  x : Str
  i : Nat
  fd : Fd
  ps : List Str
  N : List Str
  params : Arguments
  body : List Stmt
  scope : Scope
def fsOf : List Row → Str → Option (Nat × Nat)
  | [], _ => none
  | r :: rs, x => if r.x = x then some (r.i, r.ps.length) else fsOf rs x
theorem fsOf_some : ∀ {rs : List Row} {x : Str} {p : Nat × Nat}, fsOf rs x = some p → ∃ r ∈ rs, r.x = x ∧ p = (r.i, r.ps.length)
  | r :: rs, x, p, h => by
    unfold fsOf at h
    split at h
    · rename_i hx
      cases h
      exact ⟨r, List.mem_cons_self .., hx, rfl⟩
    · obtain ⟨r', h1, h2⟩ := fsOf_some h
      exact ⟨r', List.mem_cons_of_mem _ h1, h2⟩
def conOf : List (Str × D) → Str → Option D
  | [], _ => none
  | p :: ps, x => if p.1 = x then some p.2 else conOf ps x
theorem conOf_some : ∀ {cs : List (Str × D)} {x : Str} {d : D}, conOf cs x = some d → (x, d) ∈ cs
  | p :: ps, x, d, h => by
    unfold conOf at h
    split at h
    · rename_i hx
      cases h
      rw [← hx]
      exact List.mem_cons_self ..
    · exact List.mem_cons_of_mem _ (conOf_some h)
def scB (N P : List Str) (sc : Scope) : Bool := decide (sc.kind = .function) && !sc.isCoroutine && !sc.isGenerator && decide N.Nodup && decide (N.take P.length = P) &&
  (P.all fun x => decide (sc.names.lookup x = some .local) || decide (sc.names.lookup x = some .cell)) && sc.names.all fun y => decide (y.2 ≠ .free)
theorem scB_ok {N P : List Str} {sc : Scope} (h : scB N P sc = true) : FnScope N P sc := by
  unfold scB at h
  simp only [Bool.and_eq_true, decide_eq_true_eq, Bool.not_eq_true', List.all_eq_true, Bool.or_eq_true] at h
  obtain ⟨⟨⟨⟨⟨⟨h1, h2⟩, h3⟩, h4⟩, h5⟩, h6⟩, h7⟩ := h
  exact ⟨h1, h2, h3, h4, h5, h6, h7⟩
def mcOf (rs : List Row) (cs : List (Str × D)) (r : Row) : Mc := ⟨r.N, r.scope, fun _ => true, fsOf rs, conOf cs⟩
def rowOk (rs : List Row) (cs : List (Str × D)) (r : Row) : Bool := scB r.N r.ps r.scope && decide (r.fd.np = r.ps.length) && decide (r.fd.n = r.N.length) && mSs (mcOf rs cs r) r.fd.body r.body
structure Facts (K : PySem.W.Frag) (mg : Str → Option Value) (rs : List Row) (cs : List (Str × D)) : Prop where
  fn : ∀ r ∈ rs, ∃ (a : Addr) (fd : FuncData), mg r.x = some (.ref a) ∧ FunD K r.x r.x r.params r.body r.scope [] [] a fd
  bind : ∀ r ∈ rs, ∀ (kV doc pm : Value) (an : Option Addr) (cdv ct : Value) (us : List Value), us.length = r.ps.length → bindArgs (PySem.W.fnOf r.x r.x r.params r.body r.scope .none kV doc pm an cdv ct) ⟨us, []⟩ = pure (r.ps.zip us)
  con : ∀ p ∈ cs, ∃ u w, mg p.1 = some w ∧ RelV u w ∧ ∀ F, Rep F u p.2
  blt : ∀ x ∈ bltNames, mg x = none
theorem fns_ok {P : Program} {w : World} {K : PySem.W.Frag} {mg : Str → Option Value} {base : Heap} {rs : List Row} {cs : List (Str × D)} {Fs : Nat → Option Fd} {W : Nat} (f : Facts K mg rs cs) (hok : ∀ r ∈ rs, rowOk rs cs r = true) (hFs : ∀ r ∈ rs, Fs r.i = some r.fd) :
    ∀ (k : Nat) (r : Row), r ∈ rs → ∀ (a : Addr) (fd : FuncData), mg r.x = some (.ref a) → FunD K r.x r.x r.params r.body r.scope [] [] a fd → FnG P w K mg base CX0 k a fd r.ps (SpK K (callK Fs W k) r.i r.ps.length) := by
  intro k
  induction k with
  | zero =>
    intro r hr a fd hm F
    refine ⟨fun vs H Q E h => h.1, fun A outer s H args us vs Q E _ _ _ _ _ h => ?_⟩
    obtain ⟨_, _, _, _, _, _, _, h, _⟩ := h
    cases h
  | succ k ih =>
    intro r hr a fd hm F
    have hb := hok r hr
    unfold rowOk at hb
    simp only [Bool.and_eq_true, decide_eq_true_eq] at hb
    obtain ⟨⟨⟨h1, h2⟩, h3⟩, h4⟩ := hb
    have S := scB_ok h1
    refine fn_ok F S (hFs r hr) h2 h3 fun cdv A outer s H E room gu as vs F0 H0 => ?_
    have G : Gx (cxOf CX0 P w K mg base r.N r.x r.scope a cdv A outer s H E).nox (callK Fs W k) (mcOf rs cs r) := by
      refine ⟨rfl, S.kind, rfl, S.nd, fun _ _ => rfl, rfl, rfl, ?_, gu, fun x i np hx => ?_, fun x v hx => ?_, f.blt⟩
      · have := room.un
        show (A.deeper _).units + 200 < cLine
        omega
      · obtain ⟨r', hr', rfl, e⟩ := fsOf_some (show fsOf rs x = some (i, np) from hx)
        cases e
        obtain ⟨a', fd', m', F'⟩ := f.fn r' hr'
        exact ⟨k, a', fd', r'.ps, m', F'.kp, ih r' hr' a' fd' m' F', room, F'.bindsN (f.bind r' hr')⟩
      · exact f.con (x, v) (conOf_some (show conOf cs x = some v from hx))
    obtain ⟨t, t1, t2⟩ := (qs_all (c := callK Fs W k) (W := W) r.fd.body).many _ _ G as vs F0 H0 r.body h4
    exact ⟨t, PSs.nox t1, t2⟩
/-- the law's own call -/
theorem law_sp {K : PySem.W.Frag} {c : Cl} {i : Nat} (h : ∀ ns : List Int, ns.length ≤ 63 → ∃ os, c i [.sc ns] = some (.d (.bool true), os)) (H : Hp) (a : Addr) (ns : List Int) (hl : ns.length ≤ 63) (hS : SqL K H a (ns.map V.int)) :
    SpK K c i 1 [.ref a] H (fun v _ => v = .bl true) fun _ _ _ => False := by
  obtain ⟨os, e⟩ := h ns hl
  have sc : ScOk K H a ns := fun H' sm => by
    rcases hS with (h | ⟨o, h⟩) | h
    · exact .inl (.inl (sm _ _ h))
    · exact .inl (.inr ⟨o, sm _ _ h⟩)
    · exact .inr h
  refine ⟨rfl, H, [.sc ns], _, os, ⟨rfl, fun j r e => ?_, fun j l r s b e1 e2 o1 o2 p1 p2 => ?_, Same.refl _⟩, fun b hb o => ?_, e, fun v F1 H1 _ _ _ ok _ => ?_⟩
  · cases j with
    | zero => cases e; exact ⟨_, rfl, a, rfl, sc⟩
    | succ j => simp at e
  · cases j with
    | zero => cases e1; cases o1
    | succ j => simp at e1
  · simp at hb
    subst hb
    cases o
  · have ok : Rep F1 v (.bool true) := ok
    cases ok
    rfl
/-! facts from the head -/
theorem con_int {mg : Str → Option Value} {x : Str} {i : Int} (h : ∃ t, mg x = some (.int i t)) : ∃ u w, mg x = some w ∧ RelV u w ∧ ∀ F, Rep F u (.int i) := by
  obtain ⟨t, h⟩ := h
  exact ⟨.int i, _, h, ⟨t, rfl⟩, fun F => .int i⟩
theorem con_str {mg : Str → Option Value} {x z : Str} (h : ∃ t, mg x = some (.str z t)) (hz : PyData.strOk z = true) : ∃ u w, mg x = some w ∧ RelV u w ∧ ∀ F, Rep F u (.str z) := by
  obtain ⟨t, h⟩ := h
  exact ⟨.str z, _, h, ⟨t, rfl⟩, fun F => .str z hz⟩
end TW
end

section
namespace TW
open PySem
/-- _law_cup -/
def b0 : S := (S.cons (S.asg 1 (T.blt .abs (T.cons (T.idx (T.bin .Add (T.scl 0) (T.lst (T.cons (T.lit (.int 0)) T.nil))) (T.lit (.int 0))) T.nil))) (S.cons (S.ret (T.lst (T.cons (T.ife (T.cmp .GtE (T.var 1) (T.bin .Pow (T.lit (.int 10)) (T.lit (.int 18)))) (T.bin .FloorDiv (T.var 1) (T.lit (.int 41))) (T.lit (.int 0))) (T.cons (T.bin .Add (T.bin .Mod (T.blt .int (T.cons (T.bin .Add (T.bin .Mult (T.var 1) (T.lit (.int 241))) (T.lit (.int 2017))) T.nil)) (T.lit (.int 2077503403))) (T.lit (.int 131))) T.nil)))) (S.nil)))
def f0 : Fd := ⟨1, 2, b0⟩
/-- _law_roll -/
def b1 : S := (S.cons (S.ite (T.cmp .Gt (T.idx (T.var 0) (T.lit (.int 0))) (T.lit (.int 0))) (S.cons (S.asg 3 (T.bin .Mod (T.blt .int (T.cons (T.idx (T.var 0) (T.lit (.int 0))) T.nil)) (T.var 1))) (S.cons (S.sti 0 (T.lit (.int 0)) (T.bin .FloorDiv (T.idx (T.var 0) (T.lit (.int 0))) (T.var 1))) (S.cons (S.ret (T.var 3)) (S.nil)))) (S.nil)) (S.cons (S.sti 0 (T.lit (.int 1)) (T.bin .Mod (T.blt .int (T.cons (T.bin .Add (T.bin .Mult (T.idx (T.var 0) (T.lit (.int 1))) (T.lit (.int 30971))) (T.lit (.int 7927))) T.nil)) (T.lit (.int 2147483549)))) (S.cons (S.asg 2 (T.bin .Mod (T.blt .int (T.cons (T.bin .Mult (T.idx (T.var 0) (T.lit (.int 1))) (T.bin .Add (T.idx (T.var 0) (T.lit (.int 1))) (T.lit (.int 193)))) T.nil)) (T.lit (.int 2147483587)))) (S.cons (S.ret (T.bin .Mod (T.blt .int (T.cons (T.bin .FloorDiv (T.var 2) (T.lit (.int 769))) T.nil)) (T.var 1))) (S.nil)))))
def f1 : Fd := ⟨2, 4, b1⟩
/-- _law_parts -/
def b20 : S := (S.cons (S.asgM [1, 2] (T.cons (T.dic true) (T.cons (T.lst (T.cons (T.tup (T.cons (T.tup T.nil) (T.cons (T.var 0) T.nil))) T.nil)) T.nil))) (S.cons (S.whl (T.cmp .NotEq (T.var 2) (T.lst T.nil)) (S.cons (S.asgP (Tg.tp (Tg.cons (Tg.nm 4) (Tg.cons (Tg.nm 5) Tg.nil))) (T.mtw .pop 2 T.nil)) (S.cons (S.sti 1 (T.var 4) (T.var 5)) (S.cons (S.for (Tg.nm 3) (T.rng (T.cons (T.bin .Sub (T.blt .len (T.cons (T.var 5) T.nil)) (T.lit (.int 1))) T.nil)) (S.cons (S.exp (T.mtw .app 2 (T.cons (T.tup (T.cons (T.bin .Add (T.var 4) (T.tup (T.cons (T.var 3) T.nil))) (T.cons (T.idx (T.var 5) (T.bin .Add (T.var 3) (T.lit (.int 1)))) T.nil))) T.nil))) (S.nil))) (S.nil))))) (S.cons (S.ret (T.var 1)) (S.nil))))
def f20 : Fd := ⟨1, 6, b20⟩
/-- _law_tips -/
def b24 : S := (S.cons (S.asg 1 (T.cal 20 [false] (T.cons (T.var 0) T.nil))) (S.cons (S.ret (T.lc (Tg.nm 2) (T.sq (T.blt .srt (T.cons (T.var 1) T.nil))) [2] (T.cmp .Eq (T.idx (T.var 1) (T.var 2)) (T.tup T.nil)) (T.var 2))) (S.nil)))
def f24 : Fd := ⟨1, 3, b24⟩
/-- _law_depths -/
def b39 : S := (S.cons (S.ret (T.lc (Tg.nm 1) (T.sq (T.cal 24 [false] (T.cons (T.var 0) T.nil))) [1] (T.lit (.bool true)) (T.blt .len (T.cons (T.var 1) T.nil)))) (S.nil))
def f39 : Fd := ⟨1, 2, b39⟩
/-- _law_knots -/
def b40 : S := (S.cons (S.ret (T.blt .len (T.cons (T.lc (Tg.nm 1) (T.sq (T.blt .vals (T.cons (T.cal 20 [false] (T.cons (T.var 0) T.nil)) T.nil))) [1] (T.cmp .NotEq (T.var 1) (T.tup T.nil)) (T.var 1)) T.nil))) (S.nil))
def f40 : Fd := ⟨1, 2, b40⟩
/-- _law_sizes -/
def b41 : S := (S.cons (S.asgP (Tg.tp (Tg.cons (Tg.nm 2) (Tg.cons (Tg.nm 3) (Tg.cons (Tg.nm 4) (Tg.cons (Tg.nm 5) Tg.nil))))) (T.tup (T.cons (T.lit (.int 0)) (T.cons (T.lit (.int 1)) (T.cons (T.lit (.int 0)) (T.cons (T.lit (.int 0)) T.nil)))))) (S.cons (S.for (Tg.nm 1) (T.sq (T.var 0)) (S.cons (S.asg 6 (T.cal 39 [false] (T.cons (T.var 1) T.nil))) (S.cons (S.asgM [2, 3] (T.cons (T.bin .Add (T.var 2) (T.bin .Mult (T.var 3) (T.cal 40 [false] (T.cons (T.var 1) T.nil)))) (T.cons (T.bin .Mult (T.var 3) (T.blt .len (T.cons (T.var 6) T.nil))) T.nil))) (S.cons (S.asgM [4, 5] (T.cons (T.bin .Add (T.var 4) (T.blt .min (T.cons (T.var 6) T.nil))) (T.cons (T.bin .Add (T.var 5) (T.blt .max (T.cons (T.var 6) T.nil))) T.nil))) (S.nil))))) (S.cons (S.ret (T.tup (T.cons (T.var 2) (T.cons (T.var 3) (T.cons (T.var 4) (T.cons (T.var 5) T.nil)))))) (S.nil))))
def f41 : Fd := ⟨1, 7, b41⟩
/-- _law_some -/
def b2 : S := (S.cons (S.ret (T.idx (T.var 1) (T.cal 1 [true, false] (T.cons (T.var 0) (T.cons (T.blt .len (T.cons (T.var 1) T.nil)) T.nil))))) (S.nil))
def f2 : Fd := ⟨2, 2, b2⟩
/-- _law_known -/
def b5 : S := (S.cons (S.asgP (Tg.tp (Tg.cons (Tg.nm 2) (Tg.cons (Tg.nm 3) Tg.nil))) (T.tup (T.cons (T.tup (T.cons (T.lit (.str "a")) (T.cons (T.tup T.nil) T.nil))) (T.cons (T.tup (T.cons (T.lit (.str "f")) (T.cons (T.tup T.nil) (T.cons (T.tup T.nil) T.nil)))) T.nil)))) (S.cons (S.asg 1 (T.lst (T.cons (T.var 2) (T.cons (T.var 3) (T.cons (T.tup (T.cons (T.lit (.str "b")) (T.cons (T.tup T.nil) T.nil))) (T.cons (T.tup (T.cons (T.lit (.str "f")) (T.cons (T.var 2) (T.cons (T.tup T.nil) T.nil)))) (T.cons (T.tup (T.cons (T.lit (.str "f")) (T.cons (T.tup T.nil) (T.cons (T.var 2) T.nil)))) (T.cons (T.tup (T.cons (T.lit (.str "f")) (T.cons (T.var 3) (T.cons (T.tup T.nil) T.nil)))) (T.cons (T.tup (T.cons (T.lit (.str "g")) (T.cons (T.tup T.nil) (T.cons (T.tup T.nil) (T.cons (T.tup T.nil) T.nil))))) (T.cons (T.tup (T.cons (T.lit (.str "f")) (T.cons (T.var 2) (T.cons (T.var 2) T.nil)))) (T.cons (T.tup (T.cons (T.lit (.str "f")) (T.cons (T.tup (T.cons (T.lit (.str "b")) (T.cons (T.tup T.nil) T.nil))) (T.cons (T.var 2) T.nil)))) (T.cons (T.tup (T.cons (T.lit (.str "a")) (T.cons (T.var 3) T.nil))) T.nil)))))))))))) (S.cons (S.ret (T.cal 2 [true, false] (T.cons (T.var 0) (T.cons (T.var 1) T.nil)))) (S.nil))))
def f5 : Fd := ⟨1, 4, b5⟩
/-- _law_bush -/
def b4 : S := (S.cons (S.ite (T.or (T.cmp .Eq (T.var 1) (T.lit (.int 0))) (T.cmp .Eq (T.cal 1 [true, false] (T.cons (T.var 0) (T.cons (T.lit (.int 7)) T.nil))) (T.lit (.int 0)))) (S.cons (S.ret (T.tup T.nil)) (S.nil)) (S.nil)) (S.cons (S.asgM [3, 4] (T.cons (T.cal 2 [true, false] (T.cons (T.var 0) (T.cons (T.lst (T.cons (T.lit (.str "a")) (T.cons (T.lit (.str "a")) (T.cons (T.lit (.str "b")) (T.cons (T.lit (.str "c")) (T.cons (T.lit (.str "f")) (T.cons (T.lit (.str "z")) T.nil))))))) T.nil))) (T.cons (T.cal 2 [true, false] (T.cons (T.var 0) (T.cons (T.lst (T.cons (T.lit (.int 1)) (T.cons (T.lit (.int 1)) (T.cons (T.lit (.int 2)) (T.cons (T.lit (.int 2)) (T.cons (T.lit (.int 2)) (T.cons (T.lit (.int 3)) (T.cons (T.lit (.int 4)) T.nil)))))))) T.nil))) T.nil))) (S.cons (S.asgM [5, 6, 7] (T.cons (T.tup T.nil) (T.cons (T.bin .Sub (T.var 1) (T.lit (.int 1))) (T.cons (T.cmp .Eq (T.cal 1 [true, false] (T.cons (T.var 0) (T.cons (T.lit (.int 3)) T.nil))) (T.lit (.int 0))) T.nil)))) (S.cons (S.for (Tg.nm 2) (T.rng (T.cons (T.var 4) T.nil)) (S.cons (S.asg 8 (T.ife (T.and (T.tst (T.var 7)) (T.cmp .NotEq (T.var 5) (T.tup T.nil))) (T.idx (T.var 5) (T.lit (.int 0))) (T.cal 4 [true, false] (T.cons (T.var 0) (T.cons (T.bin .FloorDiv (T.var 6) (T.var 4)) T.nil))))) (S.cons (S.asg 5 (T.bin .Add (T.var 5) (T.tup (T.cons (T.var 8) T.nil)))) (S.nil)))) (S.cons (S.ret (T.bin .Add (T.tup (T.cons (T.var 3) T.nil)) (T.var 5))) (S.nil))))))
def f4 : Fd := ⟨2, 9, b4⟩
/-- _law_growth -/
def b42 : S := (S.cons (S.asg 2 (T.cal 4 [true, false] (T.cons (T.var 0) (T.cons (T.var 1) T.nil)))) (S.cons (S.ret (T.ife (T.cmp .NotEq (T.var 2) (T.tup T.nil)) (T.var 2) (T.bin .Add (T.tup (T.cons (T.cal 2 [true, false] (T.cons (T.var 0) (T.cons (T.lst (T.cons (T.lit (.str "a")) (T.cons (T.lit (.str "b")) T.nil))) T.nil))) T.nil)) (T.bin .Mult (T.tup (T.cons (T.tup T.nil) T.nil)) (T.bin .Add (T.lit (.int 1)) (T.cal 1 [true, false] (T.cons (T.var 0) (T.cons (T.lit (.int 3)) T.nil)))))))) (S.nil)))
def f42 : Fd := ⟨2, 3, b42⟩
/-- _law_row -/
def b157 : S := (S.cons (S.asg 3 (T.tup T.nil)) (S.cons (S.for (Tg.nm 4) (T.rng (T.cons (T.cal 1 [true, false] (T.cons (T.var 0) (T.cons (T.bin .Add (T.var 1) (T.lit (.int 1))) T.nil))) T.nil)) (S.cons (S.asg 5 (T.cal 1 [true, false] (T.cons (T.var 0) (T.cons (T.lit (.int 9)) T.nil)))) (S.cons (S.asg 6 (T.ife (T.cmp .Eq (T.var 5) (T.lit (.int 0))) (T.tup T.nil) (T.ife (T.cmp .Lt (T.var 5) (T.lit (.int 5))) (T.cal 5 [true] (T.cons (T.var 0) T.nil)) (T.cal 42 [true, false] (T.cons (T.var 0) (T.cons (T.lit (.int 4)) T.nil)))))) (S.cons (S.asgP (Tg.tp (Tg.cons (Tg.nm 7) (Tg.cons (Tg.nm 8) (Tg.cons (Tg.nm 9) (Tg.cons (Tg.nm 10) Tg.nil))))) (T.cal 41 [false] (T.cons (T.bin .Add (T.var 3) (T.tup (T.cons (T.var 6) T.nil))) T.nil))) (S.cons (S.ite (T.and (T.cmp .LtE (T.bin .Add (T.var 7) (T.var 8)) (T.var 2)) (T.cmp .LtE (T.var 10) (T.lit (.int 60)))) (S.cons (S.asg 3 (T.bin .Add (T.var 3) (T.tup (T.cons (T.var 6) T.nil)))) (S.nil)) (S.nil)) (S.nil)))))) (S.cons (S.ret (T.var 3)) (S.nil))))
def f157 : Fd := ⟨3, 11, b157⟩
/-- _law_put -/
def b34 : S := (S.cons (S.ite (T.cmp .Eq (T.var 1) (T.tup T.nil)) (S.cons (S.ret (T.var 2)) (S.nil)) (S.nil)) (S.cons (S.asg 3 (T.bin .Add (T.idx (T.var 1) (T.lit (.int 0))) (T.lit (.int 1)))) (S.cons (S.ret (T.bin .Add (T.bin .Add (T.slc (T.var 0) T.nil (T.sm (T.var 3))) (T.tup (T.cons (T.cal 34 [false, false, false] (T.cons (T.idx (T.var 0) (T.var 3)) (T.cons (T.slc (T.var 1) (T.sm (T.lit (.int 1))) T.nil) (T.cons (T.var 2) T.nil)))) T.nil))) (T.slc (T.var 0) (T.sm (T.bin .Add (T.var 3) (T.lit (.int 1)))) T.nil))) (S.nil))))
def f34 : Fd := ⟨3, 4, b34⟩
/-- _law_grown -/
def b128 : S := (S.cons (S.for (Tg.nm 2) (T.sq (T.cal 24 [false] (T.cons (T.var 0) T.nil))) (S.cons (S.asg 0 (T.cal 34 [false, false, false] (T.cons (T.var 0) (T.cons (T.var 2) (T.cons (T.var 1) T.nil))))) (S.nil))) (S.cons (S.ret (T.var 0)) (S.nil)))
def f128 : Fd := ⟨2, 3, b128⟩
/-- _law_years -/
def b158 : S := (S.cons (S.asg 2 (T.lst (T.cons (T.var 0) T.nil))) (S.cons (S.for (Tg.nm 3) (T.sq (T.var 1)) (S.cons (S.exp (T.mtw .app 2 (T.cons (T.cal 128 [false, false] (T.cons (T.idx (T.var 2) (T.neg (T.lit (.int 1)))) (T.cons (T.var 3) T.nil))) T.nil))) (S.nil))) (S.cons (S.ret (T.var 2)) (S.nil))))
def f158 : Fd := ⟨2, 4, b158⟩
/-- is_tuple_of -/
def b6 : S := (S.cons (S.ret (T.and (T.blt (.isi "tuple") (T.cons (T.var 0) T.nil)) (T.cmp2 .LtE .LtE (T.var 1) (T.blt .len (T.cons (T.var 0) T.nil)) (T.var 2)))) (S.nil))
def f6 : Fd := ⟨3, 3, b6⟩
/-- is_letter -/
def b7 : S := (S.cons (S.ret (T.and (T.blt (.isi "str") (T.cons (T.var 0) T.nil)) (T.and (T.cmp .Eq (T.blt .len (T.cons (T.var 0) T.nil)) (T.lit (.int 1))) (T.cmp .In (T.var 0) (T.glb "LETTERS" (.str "abcdefghijklmnopqrstuvwxyz")))))) (S.nil))
def f7 : Fd := ⟨1, 1, b7⟩
/-- fits_part -/
def b8 : S := (S.cons (S.ret (T.or (T.cal 6 [false, false, false] (T.cons (T.var 0) (T.cons (T.lit (.int 0)) (T.cons (T.lit (.int 0)) T.nil)))) (T.and (T.cal 6 [false, false, false] (T.cons (T.var 0) (T.cons (T.lit (.int 2)) (T.cons (T.bin .Add (T.glb "BRANCHES" (.int 6)) (T.lit (.int 1))) T.nil)))) (T.cal 7 [false] (T.cons (T.idx (T.var 0) (T.lit (.int 0))) T.nil))))) (S.nil))
def f8 : Fd := ⟨1, 1, b8⟩
/-- fits_bush -/
def b9 : S := (S.cons (S.asgM [1, 2] (T.cons (T.lst (T.cons (T.tup (T.cons (T.var 0) (T.cons (T.lit (.int 0)) T.nil))) T.nil)) (T.cons (T.lit (.int 0)) T.nil))) (S.cons (S.whl (T.cmp .NotEq (T.var 1) (T.lst T.nil)) (S.cons (S.asgP (Tg.tp (Tg.cons (Tg.tp (Tg.cons (Tg.nm 3) (Tg.cons (Tg.nm 4) Tg.nil))) (Tg.cons (Tg.nm 1) (Tg.cons (Tg.nm 2) Tg.nil)))) (T.tup (T.cons (T.idx (T.var 1) (T.lit (.int 0))) (T.cons (T.slc (T.var 1) (T.sm (T.lit (.int 1))) T.nil) (T.cons (T.bin .Add (T.var 2) (T.lit (.int 1))) T.nil))))) (S.cons (S.ite (T.or (T.cmp .Gt (T.var 2) (T.glb "PARTS" (.int 400))) (T.or (T.cmp .Gt (T.var 4) (T.glb "DEEPEST" (.int 60))) (T.not (T.tst (T.cal 8 [false] (T.cons (T.var 3) T.nil)))))) (S.cons (S.ret (T.lit (.bool false))) (S.nil)) (S.nil)) (S.cons (S.asg 1 (T.bin .Add (T.lc (Tg.nm 5) (T.sq (T.slc (T.var 3) (T.sm (T.lit (.int 1))) T.nil)) [5] (T.lit (.bool true)) (T.tup (T.cons (T.var 5) (T.cons (T.bin .Add (T.var 4) (T.lit (.int 1))) T.nil)))) (T.var 1))) (S.nil))))) (S.cons (S.ret (T.lit (.bool true))) (S.nil))))
def f9 : Fd := ⟨1, 6, b9⟩
/-- need_bush -/
def b10 : S := (S.cons (S.ite (T.not (T.tst (T.cal 9 [false] (T.cons (T.var 0) T.nil)))) (S.cons S.rai (S.nil)) (S.nil)) (S.nil))
def f10 : Fd := ⟨1, 1, b10⟩
/-- fits_growths -/
def b46 : S := (S.cons (S.ret (T.and (T.cal 6 [false, false, false] (T.cons (T.var 0) (T.cons (T.lit (.int 0)) (T.cons (T.glb "GROWTHS" (.int 12)) T.nil)))) (T.blt .all (T.cons (T.lc (Tg.nm 1) (T.sq (T.var 0)) [1] (T.lit (.bool true)) (T.cal 9 [false] (T.cons (T.var 1) T.nil))) T.nil)))) (S.nil))
def f46 : Fd := ⟨1, 2, b46⟩
/-- need_growths -/
def b47 : S := (S.cons (S.ite (T.not (T.tst (T.cal 46 [false] (T.cons (T.var 0) T.nil)))) (S.cons S.rai (S.nil)) (S.nil)) (S.nil))
def f47 : Fd := ⟨1, 1, b47⟩
/-- knots_in -/
def b25 : S := (S.cons (S.ret (T.ife (T.cmp .Eq (T.var 0) (T.tup T.nil)) (T.lit (.int 0)) (T.bin .Add (T.lit (.int 1)) (T.blt .sum (T.cons (T.lc (Tg.nm 1) (T.sq (T.slc (T.var 0) (T.sm (T.lit (.int 1))) T.nil)) [1] (T.lit (.bool true)) (T.cal 25 [false] (T.cons (T.var 1) T.nil))) T.nil))))) (S.nil))
def f25 : Fd := ⟨1, 2, b25⟩
/-- tips_in -/
def b26 : S := (S.cons (S.ret (T.ife (T.cmp .Eq (T.var 0) (T.tup T.nil)) (T.lit (.int 1)) (T.blt .sum (T.cons (T.lc (Tg.nm 1) (T.sq (T.slc (T.var 0) (T.sm (T.lit (.int 1))) T.nil)) [1] (T.lit (.bool true)) (T.cal 26 [false] (T.cons (T.var 1) T.nil))) T.nil)))) (S.nil))
def f26 : Fd := ⟨1, 2, b26⟩
/-- height_in -/
def b27 : S := (S.cons (S.ret (T.ife (T.cmp .Eq (T.var 0) (T.tup T.nil)) (T.lit (.int 0)) (T.bin .Add (T.lit (.int 1)) (T.blt .max (T.cons (T.lc (Tg.nm 1) (T.sq (T.slc (T.var 0) (T.sm (T.lit (.int 1))) T.nil)) [1] (T.lit (.bool true)) (T.cal 27 [false] (T.cons (T.var 1) T.nil))) T.nil))))) (S.nil))
def f27 : Fd := ⟨1, 2, b27⟩
/-- measures_of -/
def b28 : S := (S.cons (S.ret (T.tup (T.cons (T.cal 25 [false] (T.cons (T.var 0) T.nil)) (T.cons (T.cal 26 [false] (T.cons (T.var 0) T.nil)) (T.cons (T.cal 27 [false] (T.cons (T.var 0) T.nil)) T.nil))))) (S.nil))
def f28 : Fd := ⟨1, 1, b28⟩
/-- measures_on -/
def b29 : S := (S.cons (S.asgP (Tg.tp (Tg.cons (Tg.nm 2) (Tg.cons (Tg.nm 3) (Tg.cons (Tg.nm 4) Tg.nil)))) (T.var 0)) (S.cons (S.asgP (Tg.tp (Tg.cons (Tg.nm 5) (Tg.cons (Tg.nm 6) (Tg.cons (Tg.nm 7) Tg.nil)))) (T.cal 28 [false] (T.cons (T.var 1) T.nil))) (S.cons (S.ret (T.tup (T.cons (T.bin .Add (T.var 2) (T.bin .Mult (T.var 3) (T.var 5))) (T.cons (T.bin .Mult (T.var 3) (T.var 6)) (T.cons (T.bin .Add (T.var 4) (T.var 7)) T.nil))))) (S.nil))))
def f29 : Fd := ⟨2, 8, b29⟩
/-- need_drawn -/
def b30 : S := (S.cons (S.asg 2 (T.cal 28 [false] (T.cons (T.var 0) T.nil))) (S.cons (S.for (Tg.nm 3) (T.sq (T.var 1)) (S.cons (S.asg 2 (T.cal 29 [false, false] (T.cons (T.var 2) (T.cons (T.var 3) T.nil)))) (S.nil))) (S.cons (S.ite (T.cmp .Gt (T.bin .Add (T.idx (T.var 2) (T.lit (.int 0))) (T.idx (T.var 2) (T.lit (.int 1)))) (T.glb "PARTS" (.int 400))) (S.cons S.rai (S.nil)) (S.nil)) (S.cons (S.ite (T.cmp .Gt (T.idx (T.var 2) (T.lit (.int 2))) (T.glb "DEEPEST" (.int 60))) (S.cons S.rai (S.nil)) (S.nil)) (S.nil)))))
def f30 : Fd := ⟨2, 4, b30⟩
/-- grown_at -/
def b31 : S := (S.cons (S.ret (T.ife (T.cmp .Eq (T.var 0) (T.tup T.nil)) (T.var 1) (T.bin .Add (T.slc (T.var 0) T.nil (T.sm (T.lit (.int 1)))) (T.blt .tupl (T.cons (T.lc (Tg.nm 2) (T.sq (T.slc (T.var 0) (T.sm (T.lit (.int 1))) T.nil)) [2] (T.lit (.bool true)) (T.cal 31 [false, false] (T.cons (T.var 2) (T.cons (T.var 1) T.nil)))) T.nil))))) (S.nil))
def f31 : Fd := ⟨2, 3, b31⟩
/-- years_of -/
def b48 : S := (S.cons (S.asg 2 (T.lst (T.cons (T.var 0) T.nil))) (S.cons (S.for (Tg.nm 3) (T.sq (T.var 1)) (S.cons (S.asg 2 (T.bin .Add (T.var 2) (T.lst (T.cons (T.cal 31 [false, false] (T.cons (T.idx (T.var 2) (T.neg (T.lit (.int 1)))) (T.cons (T.var 3) T.nil))) T.nil)))) (S.nil))) (S.cons (S.ret (T.var 2)) (S.nil))))
def f48 : Fd := ⟨2, 4, b48⟩
/-- grown_on -/
def b159 : S := (S.cons (S.exp (T.cal 10 [false] (T.cons (T.var 0) T.nil))) (S.cons (S.exp (T.cal 47 [false] (T.cons (T.var 1) T.nil))) (S.cons (S.exp (T.cal 30 [false, false] (T.cons (T.var 0) (T.cons (T.var 1) T.nil)))) (S.cons (S.ret (T.cal 48 [false, false] (T.cons (T.var 0) (T.cons (T.var 1) T.nil)))) (S.nil)))))
def f159 : Fd := ⟨2, 2, b159⟩
/-- grown_by -/
def b49 : S := (S.cons (S.exp (T.cal 10 [false] (T.cons (T.var 0) T.nil))) (S.cons (S.exp (T.cal 47 [false] (T.cons (T.var 1) T.nil))) (S.cons (S.exp (T.cal 30 [false, false] (T.cons (T.var 0) (T.cons (T.var 1) T.nil)))) (S.cons (S.ret (T.idx (T.cal 48 [false, false] (T.cons (T.var 0) (T.cons (T.var 1) T.nil))) (T.neg (T.lit (.int 1))))) (S.nil)))))
def f49 : Fd := ⟨2, 2, b49⟩
/-- grown -/
def b32 : S := (S.cons (S.exp (T.cal 10 [false] (T.cons (T.var 0) T.nil))) (S.cons (S.exp (T.cal 10 [false] (T.cons (T.var 1) T.nil))) (S.cons (S.exp (T.cal 30 [false, false] (T.cons (T.var 0) (T.cons (T.tup (T.cons (T.var 1) T.nil)) T.nil)))) (S.cons (S.ret (T.cal 31 [false, false] (T.cons (T.var 0) (T.cons (T.var 1) T.nil)))) (S.nil)))))
def f32 : Fd := ⟨2, 2, b32⟩
/-- _law_right -/
def b160 : S := (S.cons (S.asg 2 (T.cal 158 [false, false] (T.cons (T.var 0) (T.cons (T.var 1) T.nil)))) (S.cons (S.ite (T.or (T.cmp .NotEq (T.cal 159 [false, false] (T.cons (T.var 0) (T.cons (T.var 1) T.nil))) (T.var 2)) (T.cmp .NotEq (T.cal 49 [false, false] (T.cons (T.var 0) (T.cons (T.var 1) T.nil))) (T.idx (T.var 2) (T.neg (T.lit (.int 1)))))) (S.cons (S.ret (T.lit (.bool false))) (S.nil)) (S.nil)) (S.cons (S.ret (T.or (T.cmp .Eq (T.var 1) (T.tup T.nil)) (T.cmp .Eq (T.cal 32 [false, false] (T.cons (T.var 0) (T.cons (T.idx (T.var 1) (T.lit (.int 0))) T.nil))) (T.idx (T.var 2) (T.lit (.int 1)))))) (S.nil))))
def f160 : Fd := ⟨2, 3, b160⟩
/-- bush_of -/
def b161 : S := (S.cons (S.exp (T.cal 47 [false] (T.cons (T.var 0) T.nil))) (S.cons (S.exp (T.cal 30 [false, false] (T.cons (T.tup T.nil) (T.cons (T.var 0) T.nil)))) (S.cons (S.ret (T.idx (T.cal 48 [false, false] (T.cons (T.tup T.nil) (T.cons (T.var 0) T.nil))) (T.neg (T.lit (.int 1))))) (S.nil))))
def f161 : Fd := ⟨1, 1, b161⟩
/-- _law_bush_of -/
def b129 : S := (S.cons (S.asg 1 (T.tup T.nil)) (S.cons (S.for (Tg.nm 2) (T.sq (T.var 0)) (S.cons (S.asg 1 (T.cal 128 [false, false] (T.cons (T.var 1) (T.cons (T.var 2) T.nil)))) (S.nil))) (S.cons (S.ret (T.var 1)) (S.nil))))
def f129 : Fd := ⟨1, 3, b129⟩
/-- _law_chain -/
def b127 : S := (S.cons (S.asg 1 (T.tup T.nil)) (S.cons (S.for (Tg.nm 2) (T.rng (T.cons (T.var 0) T.nil)) (S.cons (S.asg 1 (T.tup (T.cons (T.lit (.str "s")) (T.cons (T.var 1) T.nil)))) (S.nil))) (S.cons (S.ret (T.var 1)) (S.nil))))
def f127 : Fd := ⟨1, 3, b127⟩
/-- _law_great -/
def b130 : S := (S.cons (S.asg 1 (T.bin .Add (T.tup (T.cons (T.lit (.str "g")) T.nil)) (T.bin .Mult (T.tup (T.cons (T.tup T.nil) T.nil)) (T.lit (.int 6))))) (S.cons (S.asg 2 (T.cal 129 [false] (T.cons (T.tup (T.cons (T.var 1) (T.cons (T.var 1) (T.cons (T.var 1) T.nil)))) T.nil))) (S.cons (S.asg 3 (T.cal 24 [false] (T.cons (T.var 2) T.nil))) (S.cons (S.for (Tg.nm 4) (T.sq (T.slc (T.var 3) T.nil (T.sm (T.lit (.int 23))))) (S.cons (S.asg 2 (T.cal 34 [false, false, false] (T.cons (T.var 2) (T.cons (T.var 4) (T.cons (T.var 1) T.nil))))) (S.nil))) (S.cons (S.ret (T.cal 34 [false, false, false] (T.cons (T.var 2) (T.cons (T.idx (T.var 3) (T.neg (T.lit (.int 1)))) (T.cons (T.cal 127 [false] (T.cons (T.var 0) T.nil)) T.nil))))) (S.nil))))))
def f130 : Fd := ⟨1, 5, b130⟩
/-- law -/
def b162 : S := (S.cons (S.asg 1 (T.cal 0 [false] (T.cons (T.var 0) T.nil))) (S.cons (S.for (Tg.nm 2) (T.rng (T.cons (T.lit (.int 5)) T.nil)) (S.cons (S.asg 3 (T.cal 157 [true, false, false] (T.cons (T.var 1) (T.cons (T.lit (.int 5)) (T.cons (T.lit (.int 90)) T.nil))))) (S.cons (S.ite (T.cmp .NotEq (T.cal 161 [false] (T.cons (T.var 3) T.nil)) (T.cal 129 [false] (T.cons (T.var 3) T.nil))) (S.cons (S.ret (T.lit (.bool false))) (S.nil)) (S.nil)) (S.cons (S.asg 4 (T.cal 4 [true, false] (T.cons (T.var 1) (T.cons (T.lit (.int 3)) T.nil)))) (S.cons (S.asgP (Tg.tp (Tg.cons (Tg.nm 9) (Tg.cons (Tg.nm 10) (Tg.cons (Tg.nm 11) (Tg.cons (Tg.nm 12) Tg.nil))))) (T.cal 41 [false] (T.cons (T.bin .Add (T.tup (T.cons (T.var 4) T.nil)) (T.var 3)) T.nil))) (S.cons (S.ite (T.and (T.cmp .LtE (T.bin .Add (T.var 9) (T.var 10)) (T.lit (.int 200))) (T.not (T.tst (T.cal 160 [false, false] (T.cons (T.var 4) (T.cons (T.var 3) T.nil)))))) (S.cons (S.ret (T.lit (.bool false))) (S.nil)) (S.nil)) (S.nil))))))) (S.cons (S.asgP (Tg.tp (Tg.cons (Tg.nm 5) (Tg.cons (Tg.nm 6) Tg.nil))) (T.tup (T.cons (T.tup (T.cons (T.lit (.str "f")) (T.cons (T.tup T.nil) (T.cons (T.tup T.nil) T.nil)))) (T.cons (T.tup (T.cons (T.lit (.str "s")) (T.cons (T.tup T.nil) T.nil))) T.nil)))) (S.cons (S.ite (T.or (T.cmp .NotEq (T.cal 32 [false, false] (T.cons (T.var 5) (T.cons (T.var 6) T.nil))) (T.tup (T.cons (T.lit (.str "f")) (T.cons (T.var 6) (T.cons (T.var 6) T.nil))))) (T.or (T.cmp .NotEq (T.cal 32 [false, false] (T.cons (T.var 6) (T.cons (T.var 5) T.nil))) (T.tup (T.cons (T.lit (.str "s")) (T.cons (T.var 5) T.nil)))) (T.or (T.cmp .NotEq (T.cal 32 [false, false] (T.cons (T.tup T.nil) (T.cons (T.var 5) T.nil))) (T.var 5)) (T.or (T.cmp .NotEq (T.cal 32 [false, false] (T.cons (T.var 5) (T.cons (T.tup T.nil) T.nil))) (T.var 5)) (T.cmp .NotEq (T.cal 49 [false, false] (T.cons (T.var 6) (T.cons (T.tup (T.cons (T.var 6) (T.cons (T.var 5) T.nil))) T.nil))) (T.tup (T.cons (T.lit (.str "s")) (T.cons (T.tup (T.cons (T.lit (.str "s")) (T.cons (T.var 5) T.nil))) T.nil)))))))) (S.cons (S.ret (T.lit (.bool false))) (S.nil)) (S.nil)) (S.cons (S.ite (T.or (T.cmp .NotEq (T.cal 161 [false] (T.cons (T.tup (T.cons (T.var 6) (T.cons (T.var 6) T.nil))) T.nil)) (T.tup (T.cons (T.lit (.str "s")) (T.cons (T.var 6) T.nil)))) (T.or (T.cmp .NotEq (T.cal 161 [false] (T.cons (T.tup T.nil) T.nil)) (T.tup T.nil)) (T.or (T.cmp .NotEq (T.cal 159 [false, false] (T.cons (T.tup T.nil) (T.cons (T.tup (T.cons (T.var 5) (T.cons (T.var 6) T.nil))) T.nil))) (T.lst (T.cons (T.tup T.nil) (T.cons (T.var 5) (T.cons (T.tup (T.cons (T.lit (.str "f")) (T.cons (T.var 6) (T.cons (T.var 6) T.nil)))) T.nil))))) (T.or (T.cmp .NotEq (T.cal 159 [false, false] (T.cons (T.var 5) (T.cons (T.tup T.nil) T.nil))) (T.lst (T.cons (T.var 5) T.nil))) (T.cmp .NotEq (T.cal 161 [false] (T.cons (T.tup (T.cons (T.tup T.nil) (T.cons (T.var 5) (T.cons (T.tup T.nil) T.nil)))) T.nil)) (T.var 5)))))) (S.cons (S.ret (T.lit (.bool false))) (S.nil)) (S.nil)) (S.cons (S.asgM [7, 8] (T.cons (T.tup (T.cons (T.lit (.str "f")) (T.cons (T.var 6) (T.cons (T.tup T.nil) T.nil)))) (T.cons (T.tup (T.cons (T.lit (.str "g")) (T.cons (T.tup T.nil) (T.cons (T.var 5) (T.cons (T.tup T.nil) T.nil))))) T.nil))) (S.cons (S.ite (T.or (T.cmp .NotEq (T.cal 32 [false, false] (T.cons (T.var 7) (T.cons (T.var 8) T.nil))) (T.tup (T.cons (T.lit (.str "f")) (T.cons (T.tup (T.cons (T.lit (.str "s")) (T.cons (T.var 8) T.nil))) (T.cons (T.var 8) T.nil))))) (T.cmp .NotEq (T.cal 32 [false, false] (T.cons (T.var 8) (T.cons (T.var 7) T.nil))) (T.tup (T.cons (T.lit (.str "g")) (T.cons (T.var 7) (T.cons (T.tup (T.cons (T.lit (.str "f")) (T.cons (T.var 7) (T.cons (T.var 7) T.nil)))) (T.cons (T.var 7) T.nil))))))) (S.cons (S.ret (T.lit (.bool false))) (S.nil)) (S.nil)) (S.cons (S.ret (T.and (T.cal 160 [false, false] (T.cons (T.var 5) (T.cons (T.bin .Mult (T.tup (T.cons (T.var 5) T.nil)) (T.lit (.int 6))) T.nil))) (T.and (T.cmp .Eq (T.cal 161 [false] (T.cons (T.bin .Mult (T.tup (T.cons (T.var 6) T.nil)) (T.lit (.int 12))) T.nil)) (T.cal 127 [false] (T.cons (T.lit (.int 12)) T.nil))) (T.and (T.cal 160 [false, false] (T.cons (T.cal 127 [false] (T.cons (T.lit (.int 50)) T.nil)) (T.cons (T.bin .Mult (T.tup (T.cons (T.var 6) T.nil)) (T.lit (.int 10))) T.nil))) (T.cal 160 [false, false] (T.cons (T.cal 130 [false] (T.cons (T.lit (.int 3)) T.nil)) (T.cons (T.bin .Mult (T.tup (T.cons (T.tup T.nil) T.nil)) (T.lit (.int 2))) T.nil))))))) (S.nil)))))))))
def f162 : Fd := ⟨1, 13, b162⟩
/-- _law_walked -/
def b1001 : S := (S.cons (S.asg 1 (T.dic false)) (S.cons (S.for (Tg.nm 2) (T.sq (T.blt .lst (T.cons (T.cal 20 [false] (T.cons (T.var 0) T.nil)) T.nil))) (S.cons (S.sti 1 (T.blt .len (T.cons (T.var 2) T.nil)) (T.bin .Add (T.gtt (T.var 1) (T.blt .len (T.cons (T.var 2) T.nil)) (T.lit (.int 0))) (T.lit (.int 1)))) (S.nil))) (S.cons (S.ret (T.blt .tupl (T.cons (T.lc (Tg.nm 3) (T.sq (T.blt .srt (T.cons (T.var 1) T.nil))) [3] (T.lit (.bool true)) (T.idx (T.var 1) (T.var 3))) T.nil))) (S.nil))))
def f1001 : Fd := ⟨1, 4, b1001⟩
/-- knots_of -/
def b1002 : S := (S.cons (S.exp (T.cal 10 [false] (T.cons (T.var 0) T.nil))) (S.cons (S.ret (T.cal 25 [false] (T.cons (T.var 0) T.nil))) (S.nil)))
def f1002 : Fd := ⟨1, 1, b1002⟩
/-- tips_of -/
def b1003 : S := (S.cons (S.exp (T.cal 10 [false] (T.cons (T.var 0) T.nil))) (S.cons (S.ret (T.cal 26 [false] (T.cons (T.var 0) T.nil))) (S.nil)))
def f1003 : Fd := ⟨1, 1, b1003⟩
/-- near_in -/
def b1004 : S := (S.cons (S.ret (T.ife (T.cmp .Eq (T.var 0) (T.tup T.nil)) (T.lit (.int 0)) (T.bin .Add (T.lit (.int 1)) (T.blt .min (T.cons (T.lc (Tg.nm 1) (T.sq (T.slc (T.var 0) (T.sm (T.lit (.int 1))) T.nil)) [1] (T.lit (.bool true)) (T.cal 1004 [false] (T.cons (T.var 1) T.nil))) T.nil))))) (S.nil))
def f1004 : Fd := ⟨1, 2, b1004⟩
/-- near_depth -/
def b1005 : S := (S.cons (S.exp (T.cal 10 [false] (T.cons (T.var 0) T.nil))) (S.cons (S.ret (T.cal 1004 [false] (T.cons (T.var 0) T.nil))) (S.nil)))
def f1005 : Fd := ⟨1, 1, b1005⟩
/-- height_of -/
def b1006 : S := (S.cons (S.exp (T.cal 10 [false] (T.cons (T.var 0) T.nil))) (S.cons (S.ret (T.cal 27 [false] (T.cons (T.var 0) T.nil))) (S.nil)))
def f1006 : Fd := ⟨1, 1, b1006⟩
/-- widths_in -/
def b1007 : S := (S.cons (S.asgM [1, 2] (T.cons (T.tup T.nil) (T.cons (T.lst (T.cons (T.var 0) T.nil)) T.nil))) (S.cons (S.whl (T.cmp .NotEq (T.var 2) (T.lst T.nil)) (S.cons (S.asgM [1, 4] (T.cons (T.bin .Add (T.var 1) (T.tup (T.cons (T.blt .len (T.cons (T.var 2) T.nil)) T.nil))) (T.cons (T.lst T.nil) T.nil))) (S.cons (S.for (Tg.nm 3) (T.sq (T.var 2)) (S.cons (S.asg 4 (T.bin .Add (T.var 4) (T.blt .lst (T.cons (T.slc (T.var 3) (T.sm (T.lit (.int 1))) T.nil) T.nil)))) (S.nil))) (S.cons (S.asg 2 (T.var 4)) (S.nil))))) (S.cons (S.ret (T.var 1)) (S.nil))))
def f1007 : Fd := ⟨1, 5, b1007⟩
/-- widths_of -/
def b1008 : S := (S.cons (S.exp (T.cal 10 [false] (T.cons (T.var 0) T.nil))) (S.cons (S.ret (T.cal 1007 [false] (T.cons (T.var 0) T.nil))) (S.nil)))
def f1008 : Fd := ⟨1, 1, b1008⟩
/-- _law_right -/
def b1009 : S := (S.cons (S.asgM [2, 3] (T.cons (T.cal 39 [false] (T.cons (T.var 0) T.nil)) (T.cons (T.cal 1001 [false] (T.cons (T.var 0) T.nil)) T.nil))) (S.cons (S.asg 1 (T.lst (T.cons (T.cal 40 [false] (T.cons (T.var 0) T.nil)) (T.cons (T.blt .len (T.cons (T.var 2) T.nil)) (T.cons (T.blt .min (T.cons (T.var 2) T.nil)) (T.cons (T.blt .max (T.cons (T.var 2) T.nil)) (T.cons (T.var 3) T.nil))))))) (S.cons (S.ite (T.cmp .NotEq (T.blt .rep (T.cons (T.lst (T.cons (T.cal 1002 [false] (T.cons (T.var 0) T.nil)) (T.cons (T.cal 1003 [false] (T.cons (T.var 0) T.nil)) (T.cons (T.cal 1005 [false] (T.cons (T.var 0) T.nil)) (T.cons (T.cal 1006 [false] (T.cons (T.var 0) T.nil)) (T.cons (T.cal 1008 [false] (T.cons (T.var 0) T.nil)) T.nil)))))) T.nil)) (T.blt .rep (T.cons (T.var 1) T.nil))) (S.cons (S.ret (T.lit (.bool false))) (S.nil)) (S.nil)) (S.cons (S.ret (T.and (T.cmp .Eq (T.blt .sum (T.cons (T.var 3) T.nil)) (T.bin .Add (T.idx (T.var 1) (T.lit (.int 0))) (T.idx (T.var 1) (T.lit (.int 1))))) (T.cmp .Eq (T.blt .len (T.cons (T.var 3) T.nil)) (T.bin .Add (T.idx (T.var 1) (T.lit (.int 3))) (T.lit (.int 1)))))) (S.nil)))))
def f1009 : Fd := ⟨1, 4, b1009⟩
/-- _law_near_bush -/
def b1010 : S := (S.cons (S.asg 2 (T.blt .srt (T.cons (T.cal 20 [false] (T.cons (T.var 1) T.nil)) T.nil))) (S.cons (S.asg 3 (T.cal 2 [true, false] (T.cons (T.var 0) (T.cons (T.var 2) T.nil)))) (S.cons (S.asgM [4, 5] (T.cons (T.idx (T.cal 20 [false] (T.cons (T.var 1) T.nil)) (T.var 3)) (T.cons (T.cal 1 [true, false] (T.cons (T.var 0) (T.cons (T.lit (.int 4)) T.nil))) T.nil))) (S.cons (S.ite (T.or (T.cmp .Eq (T.var 5) (T.lit (.int 0))) (T.cmp .Eq (T.var 4) (T.tup T.nil))) (S.cons (S.ret (T.cal 34 [false, false, false] (T.cons (T.var 1) (T.cons (T.var 3) (T.cons (T.cal 4 [true, false] (T.cons (T.var 0) (T.cons (T.lit (.int 2)) T.nil))) T.nil))))) (S.nil)) (S.nil)) (S.cons (S.ite (T.cmp .Eq (T.var 5) (T.lit (.int 1))) (S.cons (S.ret (T.cal 34 [false, false, false] (T.cons (T.var 1) (T.cons (T.var 3) (T.cons (T.bin .Add (T.tup (T.cons (T.cal 2 [true, false] (T.cons (T.var 0) (T.cons (T.lst (T.cons (T.lit (.str "a")) (T.cons (T.lit (.str "b")) (T.cons (T.lit (.str "f")) T.nil)))) T.nil))) T.nil)) (T.slc (T.var 4) (T.sm (T.lit (.int 1))) T.nil)) T.nil))))) (S.nil)) (S.nil)) (S.cons (S.ite (T.cmp .Eq (T.var 5) (T.lit (.int 2))) (S.cons (S.ret (T.cal 34 [false, false, false] (T.cons (T.var 1) (T.cons (T.var 3) (T.cons (T.bin .Add (T.slc (T.var 4) T.nil (T.sm (T.lit (.int 1)))) (T.slm (T.var 4) T.nil (T.sm (T.lit (.int 0))))) T.nil))))) (S.nil)) (S.nil)) (S.cons (S.ret (T.cal 34 [false, false, false] (T.cons (T.var 1) (T.cons (T.var 3) (T.cons (T.slc (T.bin .Add (T.var 4) (T.tup (T.cons (T.tup T.nil) T.nil))) T.nil (T.sm (T.lit (.int 7)))) T.nil))))) (S.nil))))))))
def f1010 : Fd := ⟨2, 6, b1010⟩
/-- law -/
def b1011 : S := (S.cons (S.asg 1 (T.cal 0 [false] (T.cons (T.var 0) T.nil))) (S.cons (S.for (Tg.nm 2) (T.rng (T.cons (T.lit (.int 8)) T.nil)) (S.cons (S.asg 4 (T.cal 4 [true, false] (T.cons (T.var 1) (T.cons (T.lit (.int 20)) T.nil)))) (S.cons (S.ite (T.or (T.not (T.tst (T.cal 1009 [false] (T.cons (T.var 4) T.nil)))) (T.not (T.tst (T.cal 1009 [false] (T.cons (T.cal 1010 [true, false] (T.cons (T.var 1) (T.cons (T.var 4) T.nil))) T.nil))))) (S.cons (S.ret (T.lit (.bool false))) (S.nil)) (S.nil)) (S.nil)))) (S.cons (S.asgP (Tg.tp (Tg.cons (Tg.nm 5) (Tg.cons (Tg.nm 6) Tg.nil))) (T.tup (T.cons (T.tup (T.cons (T.lit (.str "f")) (T.cons (T.tup T.nil) (T.cons (T.tup T.nil) T.nil)))) (T.cons (T.tup (T.cons (T.lit (.str "s")) (T.cons (T.tup T.nil) T.nil))) T.nil)))) (S.cons (S.asg 3 (T.lst (T.cons (T.tup (T.cons (T.tup T.nil) (T.cons (T.tup (T.cons (T.lit (.int 0)) (T.cons (T.lit (.int 1)) (T.cons (T.lit (.int 0)) (T.cons (T.lit (.int 0)) (T.cons (T.tup (T.cons (T.lit (.int 1)) T.nil)) T.nil)))))) T.nil))) (T.cons (T.tup (T.cons (T.tup (T.cons (T.lit (.str "f")) (T.cons (T.var 5) (T.cons (T.tup T.nil) T.nil)))) (T.cons (T.tup (T.cons (T.lit (.int 2)) (T.cons (T.lit (.int 3)) (T.cons (T.lit (.int 1)) (T.cons (T.lit (.int 2)) (T.cons (T.tup (T.cons (T.lit (.int 1)) (T.cons (T.lit (.int 2)) (T.cons (T.lit (.int 2)) T.nil)))) T.nil)))))) T.nil))) (T.cons (T.tup (T.cons (T.var 6) (T.cons (T.tup (T.cons (T.lit (.int 1)) (T.cons (T.lit (.int 1)) (T.cons (T.lit (.int 1)) (T.cons (T.lit (.int 1)) (T.cons (T.tup (T.cons (T.lit (.int 1)) (T.cons (T.lit (.int 1)) T.nil))) T.nil)))))) T.nil))) (T.cons (T.tup (T.cons (T.cal 127 [false] (T.cons (T.lit (.int 60)) T.nil)) (T.cons (T.tup (T.cons (T.lit (.int 60)) (T.cons (T.lit (.int 1)) (T.cons (T.lit (.int 60)) (T.cons (T.lit (.int 60)) (T.cons (T.bin .Mult (T.tup (T.cons (T.lit (.int 1)) T.nil)) (T.lit (.int 61))) T.nil)))))) T.nil))) T.nil)))))) (S.cons (S.asg 3 (T.bin .Add (T.var 3) (T.lst (T.cons (T.tup (T.cons (T.cal 130 [false] (T.cons (T.lit (.int 3)) T.nil)) (T.cons (T.tup (T.cons (T.lit (.int 69)) (T.cons (T.lit (.int 331)) (T.cons (T.lit (.int 3)) (T.cons (T.lit (.int 6)) (T.cons (T.lit .none) T.nil)))))) T.nil))) (T.cons (T.tup (T.cons (T.tup (T.cons (T.lit (.str "f")) (T.cons (T.var 6) (T.cons (T.var 5) (T.cons (T.tup T.nil) T.nil))))) (T.cons (T.tup (T.cons (T.lit (.int 3)) (T.cons (T.lit (.int 4)) (T.cons (T.lit (.int 1)) (T.cons (T.lit (.int 2)) (T.cons (T.tup (T.cons (T.lit (.int 1)) (T.cons (T.lit (.int 3)) (T.cons (T.lit (.int 3)) T.nil)))) T.nil)))))) T.nil))) (T.cons (T.tup (T.cons (T.bin .Add (T.tup (T.cons (T.lit (.str "g")) T.nil)) (T.bin .Mult (T.tup (T.cons (T.var 5) T.nil)) (T.lit (.int 6)))) (T.cons (T.tup (T.cons (T.lit (.int 7)) (T.cons (T.lit (.int 12)) (T.cons (T.lit (.int 2)) (T.cons (T.lit (.int 2)) (T.cons (T.tup (T.cons (T.lit (.int 1)) (T.cons (T.lit (.int 6)) (T.cons (T.lit (.int 12)) T.nil)))) T.nil)))))) T.nil))) T.nil)))))) (S.cons (S.for (Tg.tp (Tg.cons (Tg.nm 4) (Tg.cons (Tg.nm 7) Tg.nil))) (T.sq (T.var 3)) (S.cons (S.ite (T.or (T.cmp .NotEq (T.tup (T.cons (T.cal 1002 [false] (T.cons (T.var 4) T.nil)) (T.cons (T.cal 1003 [false] (T.cons (T.var 4) T.nil)) (T.cons (T.cal 1005 [false] (T.cons (T.var 4) T.nil)) (T.cons (T.cal 1006 [false] (T.cons (T.var 4) T.nil)) T.nil))))) (T.slc (T.var 7) T.nil (T.sm (T.lit (.int 4))))) (T.not (T.tst (T.cal 1009 [false] (T.cons (T.var 4) T.nil))))) (S.cons (S.ret (T.lit (.bool false))) (S.nil)) (S.nil)) (S.cons (S.ite (T.and (T.cmp .IsNot (T.idx (T.var 7) (T.lit (.int 4))) (T.lit .none)) (T.cmp .NotEq (T.cal 1008 [false] (T.cons (T.var 4) T.nil)) (T.idx (T.var 7) (T.lit (.int 4))))) (S.cons (S.ret (T.lit (.bool false))) (S.nil)) (S.nil)) (S.nil)))) (S.cons (S.ret (T.lit (.bool true))) (S.nil))))))))
def f1011 : Fd := ⟨1, 8, b1011⟩
/-- _law_fits -/
def b1012 : S := (S.cons (S.asgP (Tg.tp (Tg.cons (Tg.nm 1) (Tg.cons (Tg.nm 2) (Tg.cons (Tg.nm 3) (Tg.cons (Tg.nm 4) Tg.nil))))) (T.cal 41 [false] (T.cons (T.var 0) T.nil))) (S.cons (S.ret (T.and (T.cmp .LtE (T.bin .Add (T.var 1) (T.var 2)) (T.lit (.int 400))) (T.cmp .LtE (T.var 4) (T.lit (.int 60))))) (S.nil)))
def f1012 : Fd := ⟨1, 5, b1012⟩
/-- _law_grouped -/
def b1013 : S := (S.cons (S.ite (T.cmp .NotEq (T.lc (Tg.nm 3) (T.sq (T.tup (T.cons (T.tup (T.cons (T.var 0) (T.cons (T.var 1) (T.cons (T.var 2) T.nil)))) (T.cons (T.tup (T.cons (T.var 0) (T.cons (T.var 2) T.nil))) (T.cons (T.tup (T.cons (T.var 2) (T.cons (T.var 0) T.nil))) (T.cons (T.tup (T.cons (T.var 2) (T.cons (T.var 1) T.nil))) T.nil)))))) [3] (T.not (T.tst (T.cal 1012 [false] (T.cons (T.var 3) T.nil)))) (T.var 3)) (T.lst T.nil)) (S.cons (S.ret (T.lit (.bool true))) (S.nil)) (S.nil)) (S.cons (S.ite (T.cmp .NotEq (T.cal 32 [false, false] (T.cons (T.cal 32 [false, false] (T.cons (T.var 0) (T.cons (T.var 1) T.nil))) (T.cons (T.var 2) T.nil))) (T.cal 32 [false, false] (T.cons (T.var 0) (T.cons (T.cal 32 [false, false] (T.cons (T.var 1) (T.cons (T.var 2) T.nil))) T.nil)))) (S.cons (S.ret (T.lit (.bool false))) (S.nil)) (S.nil)) (S.cons (S.ite (T.cmp .NotEq (T.cmp .Eq (T.cal 32 [false, false] (T.cons (T.var 0) (T.cons (T.var 2) T.nil))) (T.cal 32 [false, false] (T.cons (T.var 1) (T.cons (T.var 2) T.nil)))) (T.cmp .Eq (T.var 0) (T.var 1))) (S.cons (S.ret (T.lit (.bool false))) (S.nil)) (S.nil)) (S.cons (S.ret (T.cmp .Eq (T.cmp .Eq (T.cal 32 [false, false] (T.cons (T.var 2) (T.cons (T.var 0) T.nil))) (T.cal 32 [false, false] (T.cons (T.var 2) (T.cons (T.var 1) T.nil)))) (T.cmp .Eq (T.var 0) (T.var 1)))) (S.nil)))))
def f1013 : Fd := ⟨3, 4, b1013⟩
/-- measures_by -/
def b1014 : S := (S.cons (S.asg 1 (T.cal 28 [false] (T.cons (T.tup T.nil) T.nil))) (S.cons (S.for (Tg.nm 2) (T.sq (T.var 0)) (S.cons (S.asg 1 (T.cal 29 [false, false] (T.cons (T.var 1) (T.cons (T.var 2) T.nil)))) (S.nil))) (S.cons (S.ret (T.var 1)) (S.nil))))
def f1014 : Fd := ⟨1, 3, b1014⟩
/-- can_be_drawn -/
def b1015 : S := (S.cons (S.exp (T.cal 47 [false] (T.cons (T.var 0) T.nil))) (S.cons (S.asgP (Tg.tp (Tg.cons (Tg.nm 1) (Tg.cons (Tg.nm 2) (Tg.cons (Tg.nm 3) Tg.nil)))) (T.cal 1014 [false] (T.cons (T.var 0) T.nil))) (S.cons (S.ret (T.and (T.cmp .LtE (T.bin .Add (T.var 1) (T.var 2)) (T.glb "PARTS" (.int 400))) (T.cmp .LtE (T.var 3) (T.glb "DEEPEST" (.int 60))))) (S.nil))))
def f1015 : Fd := ⟨1, 4, b1015⟩
/-- row_counts -/
def b1016 : S := (S.cons (S.exp (T.cal 47 [false] (T.cons (T.var 0) T.nil))) (S.cons (S.asgP (Tg.tp (Tg.cons (Tg.nm 1) (Tg.cons (Tg.nm 2) (Tg.cons (Tg.nm 3) Tg.nil)))) (T.cal 1014 [false] (T.cons (T.var 0) T.nil))) (S.cons (S.ret (T.tup (T.cons (T.var 1) (T.cons (T.var 2) (T.cons (T.blt .sum (T.cons (T.lc (Tg.nm 4) (T.sq (T.var 0)) [4] (T.lit (.bool true)) (T.cal 1004 [false] (T.cons (T.var 4) T.nil))) T.nil)) (T.cons (T.var 3) T.nil)))))) (S.nil))))
def f1016 : Fd := ⟨1, 5, b1016⟩
/-- _law_right -/
def b1017 : S := (S.cons (S.asg 1 (T.cal 41 [false] (T.cons (T.var 0) T.nil))) (S.cons (S.ite (T.or (T.cmp .NotEq (T.blt .rep (T.cons (T.cal 1016 [false] (T.cons (T.var 0) T.nil)) T.nil)) (T.blt .rep (T.cons (T.var 1) T.nil))) (T.cmp .NotEq (T.blt .rep (T.cons (T.cal 1015 [false] (T.cons (T.var 0) T.nil)) T.nil)) (T.blt .rep (T.cons (T.and (T.cmp .LtE (T.bin .Add (T.idx (T.var 1) (T.lit (.int 0))) (T.idx (T.var 1) (T.lit (.int 1)))) (T.lit (.int 400))) (T.cmp .LtE (T.idx (T.var 1) (T.lit (.int 3))) (T.lit (.int 60)))) T.nil)))) (S.cons (S.ret (T.lit (.bool false))) (S.nil)) (S.nil)) (S.cons (S.ite (T.or (T.cmp .Gt (T.bin .Add (T.idx (T.var 1) (T.lit (.int 0))) (T.idx (T.var 1) (T.lit (.int 1)))) (T.lit (.int 150))) (T.cmp .Gt (T.idx (T.var 1) (T.lit (.int 3))) (T.lit (.int 60)))) (S.cons (S.ret (T.lit (.bool true))) (S.nil)) (S.nil)) (S.cons (S.asg 2 (T.cal 161 [false] (T.cons (T.var 0) T.nil))) (S.cons (S.ret (T.cmp .Eq (T.tup (T.cons (T.cal 1002 [false] (T.cons (T.var 2) T.nil)) (T.cons (T.cal 1003 [false] (T.cons (T.var 2) T.nil)) (T.cons (T.cal 1005 [false] (T.cons (T.var 2) T.nil)) (T.cons (T.cal 1006 [false] (T.cons (T.var 2) T.nil)) T.nil))))) (T.var 1))) (S.nil))))))
def f1017 : Fd := ⟨1, 3, b1017⟩
/-- law -/
def b1018 : S := (S.cons (S.asg 1 (T.cal 0 [false] (T.cons (T.var 0) T.nil))) (S.cons (S.for (Tg.nm 2) (T.rng (T.cons (T.lit (.int 5)) T.nil)) (S.cons (S.asg 4 (T.cal 157 [true, false, false] (T.cons (T.var 1) (T.cons (T.lit (.int 6)) (T.cons (T.bin .Pow (T.lit (.int 10)) (T.lit (.int 9))) T.nil))))) (S.cons (S.ite (T.or (T.not (T.tst (T.cal 1017 [false] (T.cons (T.var 4) T.nil)))) (T.not (T.tst (T.cal 1017 [false] (T.cons (T.slc (T.var 4) T.nil (T.sm (T.lit (.int 3)))) T.nil))))) (S.cons (S.ret (T.lit (.bool false))) (S.nil)) (S.nil)) (S.cons (S.asgM [9, 10] (T.cons (T.cal 4 [true, false] (T.cons (T.var 1) (T.cons (T.lit (.int 4)) T.nil))) (T.cons (T.cal 4 [true, false] (T.cons (T.var 1) (T.cons (T.lit (.int 3)) T.nil))) T.nil))) (S.cons (S.ite (T.not (T.tst (T.cal 1013 [false, false, false] (T.cons (T.var 9) (T.cons (T.cal 5 [true] (T.cons (T.var 1) T.nil)) (T.cons (T.var 10) T.nil)))))) (S.cons (S.ret (T.lit (.bool false))) (S.nil)) (S.nil)) (S.cons (S.asg 5 (T.cal 1010 [true, false] (T.cons (T.var 1) (T.cons (T.var 9) T.nil)))) (S.cons (S.ite (T.and (T.cmp .Lt (T.cal 40 [false] (T.cons (T.var 5) T.nil)) (T.lit (.int 12))) (T.and (T.cmp .Lt (T.blt .len (T.cons (T.cal 24 [false] (T.cons (T.var 5) T.nil)) T.nil)) (T.lit (.int 12))) (T.not (T.tst (T.cal 1013 [false, false, false] (T.cons (T.var 9) (T.cons (T.var 5) (T.cons (T.cal 5 [true] (T.cons (T.var 1) T.nil)) T.nil)))))))) (S.cons (S.ret (T.lit (.bool false))) (S.nil)) (S.nil)) (S.nil)))))))) (S.cons (S.asgP (Tg.tp (Tg.cons (Tg.nm 6) (Tg.cons (Tg.nm 7) Tg.nil))) (T.tup (T.cons (T.tup (T.cons (T.lit (.str "f")) (T.cons (T.tup T.nil) (T.cons (T.tup T.nil) T.nil)))) (T.cons (T.tup (T.cons (T.lit (.str "s")) (T.cons (T.tup T.nil) T.nil))) T.nil)))) (S.cons (S.asg 3 (T.lst (T.cons (T.tup (T.cons (T.tup (T.cons (T.var 6) (T.cons (T.var 6) (T.cons (T.var 7) T.nil)))) (T.cons (T.tup (T.cons (T.lit (.int 7)) (T.cons (T.lit (.int 4)) (T.cons (T.lit (.int 3)) (T.cons (T.lit (.int 3)) T.nil))))) T.nil))) (T.cons (T.tup (T.cons (T.tup T.nil) (T.cons (T.tup (T.cons (T.lit (.int 0)) (T.cons (T.lit (.int 1)) (T.cons (T.lit (.int 0)) (T.cons (T.lit (.int 0)) T.nil))))) T.nil))) (T.cons (T.tup (T.cons (T.bin .Mult (T.tup (T.cons (T.tup (T.cons (T.lit (.str "f")) (T.cons (T.var 6) (T.cons (T.tup T.nil) T.nil)))) T.nil)) (T.lit (.int 12))) (T.cons (T.tup (T.cons (T.lit (.int 531440)) (T.cons (T.lit (.int 531441)) (T.cons (T.lit (.int 12)) (T.cons (T.lit (.int 24)) T.nil))))) T.nil))) (T.cons (T.tup (T.cons (T.bin .Mult (T.tup (T.cons (T.var 6) T.nil)) (T.lit (.int 12))) (T.cons (T.tup (T.cons (T.lit (.int 4095)) (T.cons (T.lit (.int 4096)) (T.cons (T.lit (.int 12)) (T.cons (T.lit (.int 12)) T.nil))))) T.nil))) (T.cons (T.tup (T.cons (T.bin .Mult (T.tup (T.cons (T.var 7) T.nil)) (T.lit (.int 12))) (T.cons (T.tup (T.cons (T.lit (.int 12)) (T.cons (T.lit (.int 1)) (T.cons (T.lit (.int 12)) (T.cons (T.lit (.int 12)) T.nil))))) T.nil))) T.nil))))))) (S.cons (S.asg 3 (T.bin .Add (T.var 3) (T.lst (T.cons (T.tup (T.cons (T.tup (T.cons (T.cal 127 [false] (T.cons (T.lit (.int 60)) T.nil)) (T.cons (T.var 7) T.nil))) (T.cons (T.tup (T.cons (T.lit (.int 61)) (T.cons (T.lit (.int 1)) (T.cons (T.lit (.int 61)) (T.cons (T.lit (.int 61)) T.nil))))) T.nil))) (T.cons (T.tup (T.cons (T.tup (T.cons (T.cal 127 [false] (T.cons (T.lit (.int 60)) T.nil)) (T.cons (T.cal 127 [false] (T.cons (T.lit (.int 60)) T.nil)) T.nil))) (T.cons (T.tup (T.cons (T.lit (.int 120)) (T.cons (T.lit (.int 1)) (T.cons (T.lit (.int 120)) (T.cons (T.lit (.int 120)) T.nil))))) T.nil))) (T.cons (T.tup (T.cons (T.tup (T.cons (T.tup T.nil) (T.cons (T.tup T.nil) (T.cons (T.var 6) T.nil)))) (T.cons (T.tup (T.cons (T.lit (.int 1)) (T.cons (T.lit (.int 2)) (T.cons (T.lit (.int 1)) (T.cons (T.lit (.int 1)) T.nil))))) T.nil))) T.nil)))))) (S.cons (S.for (Tg.tp (Tg.cons (Tg.nm 4) (Tg.cons (Tg.nm 8) Tg.nil))) (T.sq (T.var 3)) (S.cons (S.ite (T.or (T.cmp .NotEq (T.cal 1016 [false] (T.cons (T.var 4) T.nil)) (T.var 8)) (T.not (T.tst (T.cal 1017 [false] (T.cons (T.var 4) T.nil))))) (S.cons (S.ret (T.lit (.bool false))) (S.nil)) (S.nil)) (S.nil))) (S.cons (S.ite (T.cmp .NotEq (T.lst (T.cons (T.cal 1015 [false] (T.cons (T.bin .Mult (T.tup (T.cons (T.var 6) T.nil)) (T.lit (.int 7))) T.nil)) (T.cons (T.cal 1015 [false] (T.cons (T.bin .Mult (T.tup (T.cons (T.var 6) T.nil)) (T.lit (.int 8))) T.nil)) (T.cons (T.cal 1015 [false] (T.cons (T.tup (T.cons (T.cal 127 [false] (T.cons (T.lit (.int 60)) T.nil)) (T.cons (T.var 7) T.nil))) T.nil)) (T.cons (T.cal 1015 [false] (T.cons (T.tup (T.cons (T.cal 127 [false] (T.cons (T.lit (.int 59)) T.nil)) (T.cons (T.var 7) T.nil))) T.nil)) T.nil))))) (T.lst (T.cons (T.lit (.bool true)) (T.cons (T.lit (.bool false)) (T.cons (T.lit (.bool false)) (T.cons (T.lit (.bool true)) T.nil)))))) (S.cons (S.ret (T.lit (.bool false))) (S.nil)) (S.nil)) (S.cons (S.ret (T.and (T.cmp .Is (T.cal 1015 [false] (T.cons (T.tup (T.cons (T.cal 130 [false] (T.cons (T.lit (.int 3)) T.nil)) T.nil)) T.nil)) (T.lit (.bool true))) (T.cmp .Is (T.cal 1015 [false] (T.cons (T.tup (T.cons (T.cal 130 [false] (T.cons (T.lit (.int 2)) T.nil)) (T.cons (T.var 7) T.nil))) T.nil)) (T.lit (.bool false))))) (S.nil)))))))))
def f1018 : Fd := ⟨1, 11, b1018⟩
/-- _law_odd -/
def b1025 : S := (S.cons (S.asg 1 (T.bin .Mult (T.tup (T.cons (T.tup T.nil) T.nil)) (T.lit (.int 7)))) (S.cons (S.asg 2 (T.lst (T.cons (T.lit .none) (T.cons (T.lst T.nil) (T.cons (T.lit (.str "a")) (T.cons (T.tup (T.cons (T.lit (.str "a")) T.nil)) (T.cons (T.tup (T.cons (T.lit (.str "A")) (T.cons (T.tup T.nil) T.nil))) (T.cons (T.tup (T.cons (T.tup (T.cons (T.lit (.str "a")) T.nil)) (T.cons (T.tup T.nil) T.nil))) (T.cons (T.lit (.int 0)) (T.cons (T.lit (.bool true)) (T.cons (T.tup (T.cons (T.lit (.str "ab")) (T.cons (T.tup T.nil) T.nil))) (T.cons (T.tup (T.cons (T.lit (.str "")) (T.cons (T.tup T.nil) T.nil))) (T.cons (T.bin .Add (T.tup (T.cons (T.lit (.str "a")) T.nil)) (T.var 1)) (T.cons (T.tup (T.cons (T.lit (.str "a")) (T.cons (T.lst T.nil) (T.cons (T.tup T.nil) T.nil)))) (T.cons (T.tup (T.cons (T.lit (.int 1)) (T.cons (T.tup T.nil) T.nil))) (T.cons (T.tup (T.cons (T.lit (.str "a")) (T.cons (T.lit .none) T.nil))) (T.cons (T.lst (T.cons (T.lit (.str "a")) (T.cons (T.tup T.nil) T.nil))) T.nil))))))))))))))))) (S.cons (S.ret (T.cal 2 [true, false] (T.cons (T.var 0) (T.cons (T.bin .Add (T.var 2) (T.lst (T.cons (T.bin .Add (T.tup (T.cons (T.lit (.str "z")) T.nil)) (T.slc (T.var 1) T.nil (T.sm (T.lit (.int 6))))) (T.cons (T.tup (T.cons (T.lit (.str "{")) (T.cons (T.tup T.nil) T.nil))) (T.cons (T.tup (T.cons (T.lit .none) (T.cons (T.tup T.nil) T.nil))) (T.cons (T.tup (T.cons (T.lit (.str "a")) (T.cons (T.lit (.str "b")) T.nil))) (T.cons (T.tup (T.cons (T.tup T.nil) (T.cons (T.tup T.nil) T.nil))) (T.cons (T.tup (T.cons (T.tup T.nil) T.nil)) (T.cons (T.tup (T.cons (T.lit (.str " ")) (T.cons (T.tup T.nil) T.nil))) T.nil))))))))) T.nil)))) (S.nil))))
def f1025 : Fd := ⟨1, 3, b1025⟩
/-- is_bush -/
def b1026 : S := (S.cons (S.ret (T.cal 9 [false] (T.cons (T.var 0) T.nil))) (S.nil))
def f1026 : Fd := ⟨1, 1, b1026⟩
/-- _law_is_bush -/
def b1027 : S := (S.cons (S.ite (T.or (T.not (T.tst (T.blt (.isi "tuple") (T.cons (T.var 0) T.nil)))) (T.cmp .Gt (T.var 1) (T.lit (.int 60)))) (S.cons (S.ret (T.lit (.int 1000))) (S.nil)) (S.nil)) (S.cons (S.ite (T.cmp .Eq (T.blt .len (T.cons (T.var 0) T.nil)) (T.lit (.int 0))) (S.cons (S.ret (T.lit (.int 1))) (S.nil)) (S.nil)) (S.cons (S.ite (T.or (T.not (T.cmp2 .LtE .LtE (T.lit (.int 2)) (T.blt .len (T.cons (T.var 0) T.nil)) (T.lit (.int 7)))) (T.not (T.tst (T.blt (.isi "str") (T.cons (T.idx (T.var 0) (T.lit (.int 0))) T.nil))))) (S.cons (S.ret (T.lit (.int 1000))) (S.nil)) (S.nil)) (S.cons (S.ite (T.or (T.cmp .NotEq (T.blt .len (T.cons (T.idx (T.var 0) (T.lit (.int 0))) T.nil)) (T.lit (.int 1))) (T.not (T.cmp2 .LtE .LtE (T.lit (.str "a")) (T.idx (T.var 0) (T.lit (.int 0))) (T.lit (.str "z"))))) (S.cons (S.ret (T.lit (.int 1000))) (S.nil)) (S.nil)) (S.cons (S.ret (T.blt .min (T.cons (T.lit (.int 1000)) (T.cons (T.bin .Add (T.lit (.int 1)) (T.blt .sum (T.cons (T.lc (Tg.nm 2) (T.sq (T.slc (T.var 0) (T.sm (T.lit (.int 1))) T.nil)) [2] (T.lit (.bool true)) (T.cal 1027 [false, false] (T.cons (T.var 2) (T.cons (T.bin .Add (T.var 1) (T.lit (.int 1))) T.nil)))) T.nil))) T.nil)))) (S.nil))))))
def f1027 : Fd := ⟨2, 3, b1027⟩
/-- _law_right -/
def b1028 : S := (S.cons (S.ret (T.cmp .Eq (T.blt .rep (T.cons (T.cal 1026 [false] (T.cons (T.var 0) T.nil)) T.nil)) (T.blt .rep (T.cons (T.cmp .LtE (T.cal 1027 [false, false] (T.cons (T.var 0) (T.cons (T.lit (.int 0)) T.nil))) (T.lit (.int 400))) T.nil)))) (S.nil))
def f1028 : Fd := ⟨1, 1, b1028⟩
/-- are_growths -/
def b1029 : S := (S.cons (S.ret (T.cal 46 [false] (T.cons (T.var 0) T.nil))) (S.nil))
def f1029 : Fd := ⟨1, 1, b1029⟩
/-- law -/
def b1030 : S := (S.cons (S.asg 1 (T.cal 0 [false] (T.cons (T.var 0) T.nil))) (S.cons (S.for (Tg.nm 2) (T.rng (T.cons (T.lit (.int 6)) T.nil)) (S.cons (S.asg 5 (T.cal 4 [true, false] (T.cons (T.var 1) (T.cons (T.lit (.int 8)) T.nil)))) (S.cons (S.ite (T.or (T.cmp .IsNot (T.cal 1026 [false] (T.cons (T.var 5) T.nil)) (T.lit (.bool true))) (T.not (T.tst (T.cal 1028 [false] (T.cons (T.cal 1010 [true, false] (T.cons (T.var 1) (T.cons (T.var 5) T.nil))) T.nil))))) (S.cons (S.ret (T.lit (.bool false))) (S.nil)) (S.nil)) (S.cons (S.asg 6 (T.cal 1025 [true] (T.cons (T.var 1) T.nil))) (S.cons (S.ite (T.or (T.not (T.tst (T.cal 1028 [false] (T.cons (T.var 6) T.nil)))) (T.not (T.tst (T.cal 1028 [false] (T.cons (T.cal 34 [false, false, false] (T.cons (T.var 5) (T.cons (T.cal 2 [true, false] (T.cons (T.var 1) (T.cons (T.blt .srt (T.cons (T.cal 20 [false] (T.cons (T.var 5) T.nil)) T.nil)) T.nil))) (T.cons (T.var 6) T.nil)))) T.nil))))) (S.cons (S.ret (T.lit (.bool false))) (S.nil)) (S.nil)) (S.cons (S.asg 7 (T.cal 157 [true, false, false] (T.cons (T.var 1) (T.cons (T.lit (.int 4)) (T.cons (T.lit (.int 60)) T.nil))))) (S.cons (S.ite (T.or (T.cmp .IsNot (T.cal 1029 [false] (T.cons (T.var 7) T.nil)) (T.lit (.bool true))) (T.cmp .IsNot (T.cal 1029 [false] (T.cons (T.blt .lst (T.cons (T.var 7) T.nil)) T.nil)) (T.lit (.bool false)))) (S.cons (S.ret (T.lit (.bool false))) (S.nil)) (S.nil)) (S.cons (S.ite (T.cmp .NotEq (T.blt .rep (T.cons (T.cal 1029 [false] (T.cons (T.bin .Add (T.var 7) (T.tup (T.cons (T.var 6) T.nil))) T.nil)) T.nil)) (T.blt .rep (T.cons (T.cmp .LtE (T.cal 1027 [false, false] (T.cons (T.var 6) (T.cons (T.lit (.int 0)) T.nil))) (T.lit (.int 400))) T.nil))) (S.cons (S.ret (T.lit (.bool false))) (S.nil)) (S.nil)) (S.nil))))))))) (S.cons (S.asg 3 (T.lst (T.cons (T.tup (T.cons (T.tup T.nil) (T.cons (T.lit (.bool true)) T.nil))) (T.cons (T.tup (T.cons (T.tup (T.cons (T.lit (.str "ab")) (T.cons (T.tup T.nil) T.nil))) (T.cons (T.lit (.bool false)) T.nil))) (T.cons (T.tup (T.cons (T.tup (T.cons (T.lit (.str "")) (T.cons (T.tup T.nil) T.nil))) (T.cons (T.lit (.bool false)) T.nil))) T.nil))))) (S.cons (S.asg 3 (T.bin .Add (T.var 3) (T.lst (T.cons (T.tup (T.cons (T.tup (T.cons (T.lit (.str "f")) T.nil)) (T.cons (T.lit (.bool false)) T.nil))) (T.cons (T.tup (T.cons (T.tup (T.cons (T.lit (.str "f")) (T.cons (T.tup T.nil) (T.cons (T.lit (.str "s")) T.nil)))) (T.cons (T.lit (.bool false)) T.nil))) (T.cons (T.tup (T.cons (T.tup (T.cons (T.lit (.str "F")) (T.cons (T.tup T.nil) T.nil))) (T.cons (T.lit (.bool false)) T.nil))) (T.cons (T.tup (T.cons (T.cal 127 [false] (T.cons (T.lit (.int 60)) T.nil)) (T.cons (T.lit (.bool true)) T.nil))) (T.cons (T.tup (T.cons (T.cal 127 [false] (T.cons (T.lit (.int 61)) T.nil)) (T.cons (T.lit (.bool false)) T.nil))) (T.cons (T.tup (T.cons (T.tup (T.cons (T.lit (.str "f")) (T.cons (T.tup T.nil) (T.cons (T.cal 127 [false] (T.cons (T.lit (.int 60)) T.nil)) T.nil)))) (T.cons (T.lit (.bool false)) T.nil))) T.nil))))))))) (S.cons (S.asg 3 (T.bin .Add (T.var 3) (T.lst (T.cons (T.tup (T.cons (T.cal 130 [false] (T.cons (T.lit (.int 3)) T.nil)) (T.cons (T.lit (.bool true)) T.nil))) (T.cons (T.tup (T.cons (T.cal 130 [false] (T.cons (T.lit (.int 4)) T.nil)) (T.cons (T.lit (.bool false)) T.nil))) (T.cons (T.tup (T.cons (T.bin .Add (T.tup (T.cons (T.lit (.str "f")) T.nil)) (T.bin .Mult (T.tup (T.cons (T.tup T.nil) T.nil)) (T.lit (.int 6)))) (T.cons (T.lit (.bool true)) T.nil))) (T.cons (T.tup (T.cons (T.bin .Add (T.tup (T.cons (T.lit (.str "f")) T.nil)) (T.bin .Mult (T.tup (T.cons (T.tup T.nil) T.nil)) (T.lit (.int 7)))) (T.cons (T.lit (.bool false)) T.nil))) (T.cons (T.tup (T.cons (T.tup (T.cons (T.lit (.str "f")) (T.cons (T.tup (T.cons (T.lit (.str "f")) (T.cons (T.tup T.nil) T.nil))) (T.cons (T.tup (T.cons (T.tup (T.cons (T.lit (.str "f")) T.nil)) (T.cons (T.tup T.nil) T.nil))) T.nil)))) (T.cons (T.lit (.bool false)) T.nil))) T.nil)))))))) (S.cons (S.ite (T.cmp .NotEq (T.lc (Tg.tp (Tg.cons (Tg.nm 8) (Tg.cons (Tg.nm 9) Tg.nil))) (T.sq (T.var 3)) [8, 9] (T.or (T.cmp .NotEq (T.blt .rep (T.cons (T.cal 1026 [false] (T.cons (T.var 8) T.nil)) T.nil)) (T.blt .rep (T.cons (T.var 9) T.nil))) (T.not (T.tst (T.cal 1028 [false] (T.cons (T.var 8) T.nil))))) (T.var 8)) (T.lst T.nil)) (S.cons (S.ret (T.lit (.bool false))) (S.nil)) (S.nil)) (S.cons (S.asg 4 (T.tup (T.cons (T.lit (.str "f")) (T.cons (T.tup T.nil) (T.cons (T.tup T.nil) T.nil))))) (S.cons (S.asg 3 (T.lst (T.cons (T.tup (T.cons (T.tup T.nil) (T.cons (T.lit (.bool true)) T.nil))) (T.cons (T.tup (T.cons (T.tup (T.cons (T.var 4) (T.cons (T.tup T.nil) T.nil))) (T.cons (T.lit (.bool true)) T.nil))) (T.cons (T.tup (T.cons (T.lst (T.cons (T.var 4) T.nil)) (T.cons (T.lit (.bool false)) T.nil))) (T.cons (T.tup (T.cons (T.bin .Mult (T.tup (T.cons (T.var 4) T.nil)) (T.lit (.int 12))) (T.cons (T.lit (.bool true)) T.nil))) (T.cons (T.tup (T.cons (T.bin .Mult (T.tup (T.cons (T.var 4) T.nil)) (T.lit (.int 13))) (T.cons (T.lit (.bool false)) T.nil))) (T.cons (T.tup (T.cons (T.lit .none) (T.cons (T.lit (.bool false)) T.nil))) (T.cons (T.tup (T.cons (T.var 4) (T.cons (T.lit (.bool false)) T.nil))) (T.cons (T.tup (T.cons (T.tup (T.cons (T.var 4) (T.cons (T.lit .none) T.nil))) (T.cons (T.lit (.bool false)) T.nil))) (T.cons (T.tup (T.cons (T.bin .Mult (T.tup (T.cons (T.cal 130 [false] (T.cons (T.lit (.int 3)) T.nil)) T.nil)) (T.lit (.int 3))) (T.cons (T.lit (.bool true)) T.nil))) T.nil))))))))))) (S.cons (S.ret (T.cmp .Eq (T.lc (Tg.tp (Tg.cons (Tg.nm 8) (Tg.cons (Tg.nm 9) Tg.nil))) (T.sq (T.var 3)) [8, 9] (T.cmp .NotEq (T.blt .rep (T.cons (T.cal 1029 [false] (T.cons (T.var 8) T.nil)) T.nil)) (T.blt .rep (T.cons (T.var 9) T.nil))) (T.var 8)) (T.lst T.nil))) (S.nil))))))))))
def f1030 : Fd := ⟨1, 10, b1030⟩
def FsT : Nat → Option Fd
  | 0 => some f0
  | 1 => some f1
  | 20 => some f20
  | 24 => some f24
  | 39 => some f39
  | 40 => some f40
  | 41 => some f41
  | 2 => some f2
  | 5 => some f5
  | 4 => some f4
  | 42 => some f42
  | 157 => some f157
  | 34 => some f34
  | 128 => some f128
  | 158 => some f158
  | 6 => some f6
  | 7 => some f7
  | 8 => some f8
  | 9 => some f9
  | 10 => some f10
  | 46 => some f46
  | 47 => some f47
  | 25 => some f25
  | 26 => some f26
  | 27 => some f27
  | 28 => some f28
  | 29 => some f29
  | 30 => some f30
  | 31 => some f31
  | 48 => some f48
  | 159 => some f159
  | 49 => some f49
  | 32 => some f32
  | 160 => some f160
  | 161 => some f161
  | 129 => some f129
  | 127 => some f127
  | 130 => some f130
  | 162 => some f162
  | 1001 => some f1001
  | 1002 => some f1002
  | 1003 => some f1003
  | 1004 => some f1004
  | 1005 => some f1005
  | 1006 => some f1006
  | 1007 => some f1007
  | 1008 => some f1008
  | 1009 => some f1009
  | 1010 => some f1010
  | 1011 => some f1011
  | 1012 => some f1012
  | 1013 => some f1013
  | 1014 => some f1014
  | 1015 => some f1015
  | 1016 => some f1016
  | 1017 => some f1017
  | 1018 => some f1018
  | 1025 => some f1025
  | 1026 => some f1026
  | 1027 => some f1027
  | 1028 => some f1028
  | 1029 => some f1029
  | 1030 => some f1030
  | _ => none
def WW : Nat := 1000000
end TW
end

section
namespace TW
open PySem
/-! ### comprehensions over data, no state -/
theorem set_wipe {σ : En} {i : Nat} {x y : Option Rv} : (TW.wipe (σ.set i x) [i]).set i y = σ.set i y := by
  simp [TW.wipe, List.set_set]
theorem set_wipe0 {σ : En} {i : Nat} {y : Option Rv} : (TW.wipe σ [i]).set i y = σ.set i y := by
  simp [TW.wipe, List.set_set]
theorem restore_set {σ : En} {i : Nat} {x : Option Rv} : restore σ [i] (σ.set i x) = σ := by
  unfold restore
  apply List.ext_getElem?
  intro j
  rw [List.getElem?_mapIdx]
  by_cases h : j = i
  · subst h
    by_cases hl : j < σ.length
    · rw [List.getElem?_set_self hl]; simp [hl]
    · rw [List.getElem?_eq_none (by simpa using hl), List.getElem?_eq_none (by simpa using hl)]; rfl
  · rw [List.getElem?_set_ne (Ne.symm h)]
    cases σ[j]? <;> simp [h]
theorem restore_wipe {σ : En} {i : Nat} : restore σ [i] σ = σ := by
  have h : σ = σ.set i (σ[i]?.getD none) ∨ True := .inr trivial
  unfold restore
  apply List.ext_getElem?
  intro j
  rw [List.getElem?_mapIdx]
  cases e : σ[j]? with
  | none => rfl
  | some r =>
    by_cases h : j = i <;> simp [h, e]
/-- one name bound to data -/
theorem bind_nm {σ : En} {i : Nat} {x : D} (hi : i < σ.length) : bindT (.nm i) x (TW.wipe σ [i]) = some (σ.set i (some (.d x))) := by
  unfold bindT put
  have : (TW.wipe σ [i])[i]? = some none := by simp [TW.wipe, hi]
  rw [this]
  simp [TW.wipe, List.set_set]
theorem lcL_pure {α : Type} {e : α → D} {t : α → Bool} {g : α → D} {ft fe : Fe} {i : Nat} {σ : En} (hi : i < σ.length) :
    ∀ (l : List α) (σ' : En), (σ' = σ ∨ ∃ x, σ' = σ.set i (some (.d x))) → (∀ a ∈ l, ft (σ.set i (some (.d (e a)))) = some (.d (.bool (t a)), σ.set i (some (.d (e a))))) → (∀ a ∈ l, t a = true → fe (σ.set i (some (.d (e a)))) = some (.d (g a), σ.set i (some (.d (e a))))) →
      ∃ σ'', lcL (fun s => toB (ft s)) fe (.nm i) [i] (l.map e) σ' = some ((l.filter t).map g, σ'') ∧ (σ'' = σ ∨ ∃ x, σ'' = σ.set i (some (.d x)))
  | [], σ', h, _, _ => ⟨σ', rfl, h⟩
  | a :: l, σ', h, ht, he => by
    have hb : bindT (.nm i) (e a) (TW.wipe σ' [i]) = some (σ.set i (some (.d (e a)))) := by
      rcases h with rfl | ⟨x, rfl⟩
      · exact bind_nm hi
      · rw [bind_nm (by simpa using hi), List.set_set]
    have ha : toB (ft (σ.set i (some (.d (e a))))) = some (t a, σ.set i (some (.d (e a)))) := by rw [ht a (List.mem_cons_self ..)]; rfl
    obtain ⟨σ'', k1, k2⟩ := lcL_pure hi l (σ.set i (some (.d (e a)))) (.inr ⟨_, rfl⟩) (fun b hb => ht b (List.mem_cons_of_mem _ hb)) (fun b hb => he b (List.mem_cons_of_mem _ hb))
    refine ⟨σ'', ?_, k2⟩
    simp only [List.map_cons, lcL, hb, ha]
    cases q : t a with
    | true =>
      simp only [he a (List.mem_cons_self ..) q, frz, k1]
      simp [List.filter_cons, q]
    | false =>
      simp only [k1]
      simp [List.filter_cons, q]
theorem lc_pure {α : Type} {e : α → D} {t : α → Bool} {g : α → D} {it : Fi} {ft fe : Fe} {i : Nat} {σ : En} {l : List α} (hi : i < σ.length) (ho : isOwn ((σ[i]?).getD none) = false) (hit : it σ = some (l.map e, σ)) (hl : l.length ≤ LIM)
    (ht : ∀ a ∈ l, ft (σ.set i (some (.d (e a)))) = some (.d (.bool (t a)), σ.set i (some (.d (e a))))) (he : ∀ a ∈ l, t a = true → fe (σ.set i (some (.d (e a)))) = some (.d (g a), σ.set i (some (.d (e a))))) :
    lcF (.nm i) it [i] ft fe σ = some (.fl ((l.filter t).map g), σ) := by
  obtain ⟨σ'', k1, k2⟩ := lcL_pure hi l σ (.inl rfl) ht he
  have hlen : ((l.filter t).map g).length ≤ LIM := by
    rw [List.length_map]
    exact Nat.le_trans (List.length_filter_le _ _) hl
  unfold lcF
  simp only [hit, List.any_cons, List.any_nil, Bool.or_false, ho, Bool.false_eq_true, if_false, k1, hlen, if_true]
  rcases k2 with rfl | ⟨x, rfl⟩
  · rw [restore_wipe]
  · rw [restore_set]
theorem lc_map {α : Type} {e : α → D} {g : α → D} {it : Fi} {fe : Fe} {i : Nat} {σ : En} {l : List α} (hi : i < σ.length) (ho : isOwn ((σ[i]?).getD none) = false) (hit : it σ = some (l.map e, σ)) (hl : l.length ≤ LIM)
    (he : ∀ a ∈ l, fe (σ.set i (some (.d (e a)))) = some (.d (g a), σ.set i (some (.d (e a))))) :
    lcF (.nm i) it [i] (litF (.bool true)) fe σ = some (.fl (l.map g), σ) := by
  have := lc_pure (ft := litF (.bool true)) (t := fun _ => true) hi ho hit hl (fun a _ => rfl) (fun a h _ => he a h)
  have e : l.filter (fun _ => true) = l := List.filter_eq_self.mpr fun _ _ => rfl
  rwa [e] at this
/-! ### bushes -/
mutual
inductive Bu where
  | tip
  | knot (s : Str) (bs : Bus)
inductive Bus where
  | nil
  | cons (b : Bu) (bs : Bus)
end
def Bus.l : Bus → List Bu
  | .nil => []
  | .cons b bs => b :: bs.l
def Bus.of : List Bu → Bus
  | [] => .nil
  | b :: bs => .cons b (Bus.of bs)
theorem Bus.l_of : ∀ bs : List Bu, (Bus.of bs).l = bs
  | [] => rfl
  | b :: bs => by simp [Bus.of, Bus.l, Bus.l_of bs]
mutual
def enc : Bu → D
  | .tip => .tuple []
  | .knot s bs => .tuple (.str s :: encs bs)
def encs : Bus → List D
  | .nil => []
  | .cons b bs => enc b :: encs bs
end
mutual
def kn : Bu → Nat
  | .tip => 0
  | .knot _ bs => 1 + kns bs
def kns : Bus → Nat
  | .nil => 0
  | .cons b bs => kn b + kns bs
end
mutual
def tp : Bu → Nat
  | .tip => 1
  | .knot _ bs => tps bs
def tps : Bus → Nat
  | .nil => 0
  | .cons b bs => tp b + tps bs
end
mutual
def ht : Bu → Nat
  | .tip => 0
  | .knot _ bs => 1 + hts bs
def hts : Bus → Nat
  | .nil => 0
  | .cons b bs => max (ht b) (hts bs)
end
mutual
def gr (g : Bu) : Bu → Bu
  | .tip => g
  | .knot s bs => .knot s (grs g bs)
def grs (g : Bu) : Bus → Bus
  | .nil => .nil
  | .cons b bs => .cons (gr g b) (grs g bs)
end
def letB (s : Str) : Bool := decide (s ∈ ([("a" : Str), "b", "c", "f", "g", "s", "z"] : List Str))
mutual
def wf : Bu → Bool
  | .tip => true
  | .knot s bs => letB s && decide (1 ≤ bs.l.length ∧ bs.l.length ≤ 6) && wfs bs
def wfs : Bus → Bool
  | .nil => true
  | .cons b bs => wf b && wfs bs
end
theorem encs_map : ∀ bs : Bus, encs bs = bs.l.map enc
  | .nil => rfl
  | .cons b bs => by simp [encs, Bus.l, encs_map bs]
theorem enc_ne {s : Str} {bs : Bus} : PyData.eqv (enc (.knot s bs)) (.tuple []) = false := by
  simp [enc, PyData.eqv, PyData.eqvAll]
theorem enc_tip : PyData.eqv (enc .tip) (.tuple []) = true := by
  simp [enc, PyData.eqv, PyData.eqvAll]
theorem dpt_nil {x : D} : dpt x (.tuple []) = true := by
  unfold dpt
  simp [PyData.depth, PyData.depthAll]
  omega
end TW
end

section
namespace TW
open PySem
theorem hts_mem {j : Nat} : ∀ {bs : Bus}, hts bs < j → ∀ b ∈ bs.l, ht b < j
  | .nil, _, b, h => by cases h
  | .cons c bs, h, b, hb => by
    simp only [hts] at h
    rcases List.mem_cons.mp (show b ∈ c :: bs.l from hb) with rfl | hb
    · omega
    · exact hts_mem (by omega) b hb
theorem wfs_mem : ∀ {bs : Bus}, wfs bs = true → ∀ b ∈ bs.l, wf b = true
  | .nil, _, b, h => by cases h
  | .cons c bs, h, b, hb => by
    simp only [wfs, Bool.and_eq_true] at h
    rcases List.mem_cons.mp (show b ∈ c :: bs.l from hb) with rfl | hb
    · exact h.1
    · exact wfs_mem h.2 b hb
theorem intL_map {α : Type} (f : α → Int) : ∀ l : List α, intL (l.map fun a => .int (f a)) = some (l.map f)
  | [] => rfl
  | a :: l => by simp [intL, intL_map f l]
theorem kns_sum : ∀ bs : Bus, (bs.l.map fun b => ((kn b : Nat) : Int)).sum = (kns bs : Nat)
  | .nil => rfl
  | .cons b bs => by simp [Bus.l, kns, kns_sum bs]
theorem lim6 {n : Nat} (h : n ≤ 6) : n ≤ LIM := Nat.le_trans h (by decide)
theorem cut_tail {x : D} {xs : List D} : cut (x :: xs) (some 1) none = xs := by
  unfold cut HT.sIx
  simp
/-- one def that calls itself on each branch -/
theorem it_tail (s : Str) (bs : Bus) (σ : En) (h : σ[0]? = some (some (.d (enc (.knot s bs))))) : seqF (slcF slcR (varF 0) (someO (litF (.int 1))) noO) σ = some (bs.l.map enc, σ) := by
  have e : enc (.knot s bs) = .tuple (.str s :: bs.l.map enc) := by simp [enc, encs_map]
  rw [e] at h
  simp [callK, evS, evE, evA, evO, evI, seqS, retF, asgF, asgPF, asgMF, stiF, expF, iteF, forF, andF, orF, notF, ifeF, bltF, consA, nilA, varF, litF, tupF, lstF, dicF, binF, negF, cmpF, cmp2F, idxF, slcF, calF, mtwF, sclF, noO, someO, rngF, seqF, toB, toI, vws, vw, view, dview, frz, frzs, keep1, keeps, put, puts, prep1, prep, lend, giveBack, updR, isAl, isOl, isOwn, bindT, bindTs, fin, outs, outs1, bltR, isiR, tyN, lenR, absR, intR, lstR, valsR, tuplR, cmpR, idxR, slcR, binR, isNoneD, h, cut_tail]
mutual
theorem kn_ok : ∀ (b : Bu), wf b = true → ∀ (W k : Nat), ht b < k → callK FsT W k 25 [.d (enc b)] = some (.d (.int (kn b)), [.d (enc b)])
  | .tip, _, W, k, hk => by
    obtain ⟨j, rfl⟩ : ∃ j, k = j + 1 := ⟨k - 1, by omega⟩
    simp [FsT, f25, b25, callK, evS, evE, evA, evO, evI, seqS, retF, asgF, asgPF, asgMF, stiF, expF, iteF, forF, andF, orF, notF, ifeF, bltF, consA, nilA, varF, litF, tupF, lstF, dicF, binF, negF, cmpF, cmp2F, idxF, slcF, calF, mtwF, sclF, noO, someO, rngF, seqF, toB, toI, vws, vw, view, dview, frz, frzs, keep1, keeps, put, puts, prep1, prep, lend, giveBack, updR, isAl, isOl, isOwn, bindT, bindTs, fin, outs, outs1, bltR, isiR, tyN, lenR, absR, intR, lstR, valsR, tuplR, cmpR, idxR, slcR, binR, isNoneD, enc_tip, dpt_nil, kn]
  | .knot s bs, hw, W, k, hk => by
    obtain ⟨j, rfl⟩ : ∃ j, k = j + 1 := ⟨k - 1, by omega⟩
    simp only [wf, Bool.and_eq_true, decide_eq_true_eq] at hw
    have ih := kns_ok bs hw.2 W j (by simp only [ht] at hk; omega)
    have hlc := lc_map (σ := [some (.d (enc (.knot s bs))), none]) (i := 1) (l := bs.l) (e := enc) (g := fun b => .int (kn b)) (fe := calF (callK FsT W j) 25 [false] (consA (varF 1) nilA)) (it := seqF (slcF slcR (varF 0) (someO (litF (.int 1))) noO))
      (by simp) (by simp [isOwn]) (it_tail s bs _ rfl) (lim6 hw.1.2.2) fun b hb => by
        have := ih b hb
        simp [callK, evS, evE, evA, evO, evI, seqS, retF, asgF, asgPF, asgMF, stiF, expF, iteF, forF, andF, orF, notF, ifeF, bltF, consA, nilA, varF, litF, tupF, lstF, dicF, binF, negF, cmpF, cmp2F, idxF, slcF, calF, mtwF, sclF, noO, someO, rngF, seqF, toB, toI, vws, vw, view, dview, frz, frzs, keep1, keeps, put, puts, prep1, prep, lend, giveBack, updR, isAl, isOl, isOwn, bindT, bindTs, fin, outs, outs1, bltR, isiR, tyN, lenR, absR, intR, lstR, valsR, tuplR, cmpR, idxR, slcR, binR, isNoneD, this]
    simp [FsT, f25, b25, callK, evS, evE, evA, evO, evI, seqS, retF, asgF, asgPF, asgMF, stiF, expF, iteF, forF, andF, orF, notF, ifeF, bltF, consA, nilA, varF, litF, tupF, lstF, dicF, binF, negF, cmpF, cmp2F, idxF, slcF, calF, mtwF, sclF, noO, someO, rngF, seqF, toB, toI, vws, vw, view, dview, frz, frzs, keep1, keeps, put, puts, prep1, prep, lend, giveBack, updR, isAl, isOl, isOwn, bindT, bindTs, fin, outs, outs1, bltR, isiR, tyN, lenR, absR, intR, lstR, valsR, tuplR, cmpR, idxR, slcR, binR, isNoneD, enc_ne, dpt_nil, hlc, sumR, intL_map, kns_sum, kn]
theorem kns_ok : ∀ (bs : Bus), wfs bs = true → ∀ (W j : Nat), hts bs < j → ∀ b ∈ bs.l, callK FsT W j 25 [.d (enc b)] = some (.d (.int (kn b)), [.d (enc b)])
  | .nil, _, W, j, _, b, hb => by cases hb
  | .cons c bs, h, W, j, hj, b, hb => by
    simp only [wfs, Bool.and_eq_true] at h
    simp only [hts] at hj
    rcases List.mem_cons.mp (show b ∈ c :: bs.l from hb) with e | hb
    · rw [e]; exact kn_ok c h.1 W j (by omega)
    · exact kns_ok bs h.2 W j (by omega) b hb
end
end TW
end

section
namespace TW
open PySem
theorem tps_sum : ∀ bs : Bus, (bs.l.map fun b => ((tp b : Nat) : Int)).sum = (tps bs : Nat)
  | .nil => rfl
  | .cons b bs => by simp [Bus.l, tps, tps_sum bs]
theorem hts_max : ∀ (bs : Bus) (n : Nat), maxI n (bs.l.map fun b => ((ht b : Nat) : Int)) = (max n (hts bs) : Nat)
  | .nil, n => by simp [Bus.l, maxI, hts]
  | .cons b bs, n => by
    have e : (if (n : Int) < (ht b : Nat) then ((ht b : Nat) : Int) else (n : Int)) = ((max n (ht b) : Nat) : Int) := by
      split <;> omega
    simp only [Bus.l, List.map_cons, maxI, e, hts_max bs, hts]
    congr 1
    omega
mutual
theorem tp_ok : ∀ (b : Bu), wf b = true → ∀ (W k : Nat), ht b < k → callK FsT W k 26 [.d (enc b)] = some (.d (.int (tp b)), [.d (enc b)])
  | .tip, _, W, k, hk => by
    obtain ⟨j, rfl⟩ : ∃ j, k = j + 1 := ⟨k - 1, by omega⟩
    simp [FsT, f26, b26, callK, evS, evE, evA, evO, evI, seqS, retF, asgF, asgPF, asgMF, stiF, expF, iteF, forF, andF, orF, notF, ifeF, bltF, consA, nilA, varF, litF, tupF, lstF, dicF, binF, negF, cmpF, cmp2F, idxF, slcF, calF, mtwF, sclF, noO, someO, rngF, seqF, toB, toI, vws, vw, view, dview, frz, frzs, keep1, keeps, put, puts, prep1, prep, lend, giveBack, updR, isAl, isOl, isOwn, bindT, bindTs, fin, outs, outs1, bltR, isiR, tyN, lenR, absR, intR, lstR, valsR, tuplR, cmpR, idxR, slcR, binR, isNoneD, enc_tip, dpt_nil, tp]
  | .knot s bs, hw, W, k, hk => by
    obtain ⟨j, rfl⟩ : ∃ j, k = j + 1 := ⟨k - 1, by omega⟩
    simp only [wf, Bool.and_eq_true, decide_eq_true_eq] at hw
    have ih := tps_ok bs hw.2 W j (by simp only [ht] at hk; omega)
    have hlc := lc_map (σ := [some (.d (enc (.knot s bs))), none]) (i := 1) (l := bs.l) (e := enc) (g := fun b => .int (tp b)) (fe := calF (callK FsT W j) 26 [false] (consA (varF 1) nilA)) (it := seqF (slcF slcR (varF 0) (someO (litF (.int 1))) noO))
      (by simp) (by simp [isOwn]) (it_tail s bs _ rfl) (lim6 hw.1.2.2) fun b hb => by
        have := ih b hb
        simp [callK, evS, evE, evA, evO, evI, seqS, retF, asgF, asgPF, asgMF, stiF, expF, iteF, forF, andF, orF, notF, ifeF, bltF, consA, nilA, varF, litF, tupF, lstF, dicF, binF, negF, cmpF, cmp2F, idxF, slcF, calF, mtwF, sclF, noO, someO, rngF, seqF, toB, toI, vws, vw, view, dview, frz, frzs, keep1, keeps, put, puts, prep1, prep, lend, giveBack, updR, isAl, isOl, isOwn, bindT, bindTs, fin, outs, outs1, bltR, isiR, tyN, lenR, absR, intR, lstR, valsR, tuplR, cmpR, idxR, slcR, binR, isNoneD, this]
    simp [FsT, f26, b26, callK, evS, evE, evA, evO, evI, seqS, retF, asgF, asgPF, asgMF, stiF, expF, iteF, forF, andF, orF, notF, ifeF, bltF, consA, nilA, varF, litF, tupF, lstF, dicF, binF, negF, cmpF, cmp2F, idxF, slcF, calF, mtwF, sclF, noO, someO, rngF, seqF, toB, toI, vws, vw, view, dview, frz, frzs, keep1, keeps, put, puts, prep1, prep, lend, giveBack, updR, isAl, isOl, isOwn, bindT, bindTs, fin, outs, outs1, bltR, isiR, tyN, lenR, absR, intR, lstR, valsR, tuplR, cmpR, idxR, slcR, binR, isNoneD, enc_ne, dpt_nil, hlc, sumR, intL_map, tps_sum, tp]
theorem tps_ok : ∀ (bs : Bus), wfs bs = true → ∀ (W j : Nat), hts bs < j → ∀ b ∈ bs.l, callK FsT W j 26 [.d (enc b)] = some (.d (.int (tp b)), [.d (enc b)])
  | .nil, _, W, j, _, b, hb => by cases hb
  | .cons c bs, h, W, j, hj, b, hb => by
    simp only [wfs, Bool.and_eq_true] at h
    simp only [hts] at hj
    rcases List.mem_cons.mp (show b ∈ c :: bs.l from hb) with e | hb
    · rw [e]; exact tp_ok c h.1 W j (by omega)
    · exact tps_ok bs h.2 W j (by omega) b hb
end
mutual
theorem ht_ok : ∀ (b : Bu), wf b = true → ∀ (W k : Nat), ht b < k → callK FsT W k 27 [.d (enc b)] = some (.d (.int (ht b)), [.d (enc b)])
  | .tip, _, W, k, hk => by
    obtain ⟨j, rfl⟩ : ∃ j, k = j + 1 := ⟨k - 1, by omega⟩
    simp [FsT, f27, b27, callK, evS, evE, evA, evO, evI, seqS, retF, asgF, asgPF, asgMF, stiF, expF, iteF, forF, andF, orF, notF, ifeF, bltF, consA, nilA, varF, litF, tupF, lstF, dicF, binF, negF, cmpF, cmp2F, idxF, slcF, calF, mtwF, sclF, noO, someO, rngF, seqF, toB, toI, vws, vw, view, dview, frz, frzs, keep1, keeps, put, puts, prep1, prep, lend, giveBack, updR, isAl, isOl, isOwn, bindT, bindTs, fin, outs, outs1, bltR, isiR, tyN, lenR, absR, intR, lstR, valsR, tuplR, cmpR, idxR, slcR, binR, isNoneD, enc_tip, dpt_nil, ht]
  | .knot s bs, hw, W, k, hk => by
    obtain ⟨j, rfl⟩ : ∃ j, k = j + 1 := ⟨k - 1, by omega⟩
    simp only [wf, Bool.and_eq_true, decide_eq_true_eq] at hw
    have ih := hts_ok bs hw.2 W j (by simp only [ht] at hk; omega)
    have hlc := lc_map (σ := [some (.d (enc (.knot s bs))), none]) (i := 1) (l := bs.l) (e := enc) (g := fun b => .int (ht b)) (fe := calF (callK FsT W j) 27 [false] (consA (varF 1) nilA)) (it := seqF (slcF slcR (varF 0) (someO (litF (.int 1))) noO))
      (by simp) (by simp [isOwn]) (it_tail s bs _ rfl) (lim6 hw.1.2.2) fun b hb => by
        have := ih b hb
        simp [callK, evS, evE, evA, evO, evI, seqS, retF, asgF, asgPF, asgMF, stiF, expF, iteF, forF, andF, orF, notF, ifeF, bltF, consA, nilA, varF, litF, tupF, lstF, dicF, binF, negF, cmpF, cmp2F, idxF, slcF, calF, mtwF, sclF, noO, someO, rngF, seqF, toB, toI, vws, vw, view, dview, frz, frzs, keep1, keeps, put, puts, prep1, prep, lend, giveBack, updR, isAl, isOl, isOwn, bindT, bindTs, fin, outs, outs1, bltR, isiR, tyN, lenR, absR, intR, lstR, valsR, tuplR, cmpR, idxR, slcR, binR, isNoneD, this]
    cases bs with
    | nil => simp [Bus.l] at hw
    | cons c cs =>
      simp [FsT, f27, b27, callK, evS, evE, evA, evO, evI, seqS, retF, asgF, asgPF, asgMF, stiF, expF, iteF, forF, andF, orF, notF, ifeF, bltF, consA, nilA, varF, litF, tupF, lstF, dicF, binF, negF, cmpF, cmp2F, idxF, slcF, calF, mtwF, sclF, noO, someO, rngF, seqF, toB, toI, vws, vw, view, dview, frz, frzs, keep1, keeps, put, puts, prep1, prep, lend, giveBack, updR, isAl, isOl, isOwn, bindT, bindTs, fin, outs, outs1, bltR, isiR, tyN, lenR, absR, intR, lstR, valsR, tuplR, cmpR, idxR, slcR, binR, isNoneD, enc_ne, dpt_nil, hlc, maxR, intL_map, ht, hts]
      simp [Bus.l, intL, intL_map, hts_max, outs, outs1]
theorem hts_ok : ∀ (bs : Bus), wfs bs = true → ∀ (W j : Nat), hts bs < j → ∀ b ∈ bs.l, callK FsT W j 27 [.d (enc b)] = some (.d (.int (ht b)), [.d (enc b)])
  | .nil, _, W, j, _, b, hb => by cases hb
  | .cons c bs, h, W, j, hj, b, hb => by
    simp only [wfs, Bool.and_eq_true] at h
    simp only [hts] at hj
    rcases List.mem_cons.mp (show b ∈ c :: bs.l from hb) with e | hb
    · rw [e]; exact ht_ok c h.1 W j (by omega)
    · exact hts_ok bs h.2 W j (by omega) b hb
end
theorem grs_l (g : Bu) : ∀ bs : Bus, encs (grs g bs) = bs.l.map fun b => enc (gr g b)
  | .nil => rfl
  | .cons b bs => by simp [grs, encs, Bus.l, grs_l g bs]
theorem cut_head {x : D} {xs : List D} : cut (x :: xs) none (some 1) = [x] := by
  unfold cut HT.sIx
  simp
mutual
theorem gr_ok (g : Bu) : ∀ (b : Bu), wf b = true → ∀ (W k : Nat), ht b < k → callK FsT W k 31 [.d (enc b), .d (enc g)] = some (.d (enc (gr g b)), [.d (enc b), .d (enc g)])
  | .tip, _, W, k, hk => by
    obtain ⟨j, rfl⟩ : ∃ j, k = j + 1 := ⟨k - 1, by omega⟩
    simp [FsT, f31, b31, callK, evS, evE, evA, evO, evI, seqS, retF, asgF, asgPF, asgMF, stiF, expF, iteF, forF, andF, orF, notF, ifeF, bltF, consA, nilA, varF, litF, tupF, lstF, dicF, binF, negF, cmpF, cmp2F, idxF, slcF, calF, mtwF, sclF, noO, someO, rngF, seqF, toB, toI, vws, vw, view, dview, frz, frzs, keep1, keeps, put, puts, prep1, prep, lend, giveBack, updR, isAl, isOl, isOwn, bindT, bindTs, fin, outs, outs1, bltR, isiR, tyN, lenR, absR, intR, lstR, valsR, tuplR, cmpR, idxR, slcR, binR, isNoneD, enc_tip, dpt_nil, gr]
  | .knot s bs, hw, W, k, hk => by
    obtain ⟨j, rfl⟩ : ∃ j, k = j + 1 := ⟨k - 1, by omega⟩
    simp only [wf, Bool.and_eq_true, decide_eq_true_eq] at hw
    have ih := grs_ok g bs hw.2 W j (by simp only [ht] at hk; omega)
    have hlc := lc_map (σ := [some (.d (enc (.knot s bs))), some (.d (enc g)), none]) (i := 2) (l := bs.l) (e := enc) (g := fun b => enc (gr g b)) (fe := calF (callK FsT W j) 31 [false, false] (consA (varF 2) (consA (varF 1) nilA))) (it := seqF (slcF slcR (varF 0) (someO (litF (.int 1))) noO))
      (by simp) (by simp [isOwn]) (it_tail s bs _ rfl) (lim6 hw.1.2.2) fun b hb => by
        have := ih b hb
        simp [callK, evS, evE, evA, evO, evI, seqS, retF, asgF, asgPF, asgMF, stiF, expF, iteF, forF, andF, orF, notF, ifeF, bltF, consA, nilA, varF, litF, tupF, lstF, dicF, binF, negF, cmpF, cmp2F, idxF, slcF, calF, mtwF, sclF, noO, someO, rngF, seqF, toB, toI, vws, vw, view, dview, frz, frzs, keep1, keeps, put, puts, prep1, prep, lend, giveBack, updR, isAl, isOl, isOwn, bindT, bindTs, fin, outs, outs1, bltR, isiR, tyN, lenR, absR, intR, lstR, valsR, tuplR, cmpR, idxR, slcR, binR, isNoneD, this]
    have e : enc (.knot s bs) = .tuple (.str s :: bs.l.map enc) := by simp [enc, encs_map]
    have l7 : bs.l.length + 1 ≤ LIM := Nat.le_trans (Nat.succ_le_succ hw.1.2.2) (by decide)
    have en : PyData.eqv (.tuple (.str s :: bs.l.map enc)) (.tuple []) = false := by rw [← e]; exact enc_ne
    rw [e] at hlc ⊢
    simp [FsT, f31, b31, callK, evS, evE, evA, evO, evI, seqS, retF, asgF, asgPF, asgMF, stiF, expF, iteF, forF, andF, orF, notF, ifeF, bltF, consA, nilA, varF, litF, tupF, lstF, dicF, binF, negF, cmpF, cmp2F, idxF, slcF, calF, mtwF, sclF, noO, someO, rngF, seqF, toB, toI, vws, vw, view, dview, frz, frzs, keep1, keeps, put, puts, prep1, prep, lend, giveBack, updR, isAl, isOl, isOwn, bindT, bindTs, fin, outs, outs1, bltR, isiR, tyN, lenR, absR, intR, lstR, valsR, tuplR, cmpR, idxR, slcR, binR, isNoneD, en, dpt_nil, hlc, cut_head, gr, enc, grs_l, Nat.add_comm 1, l7]
theorem grs_ok (g : Bu) : ∀ (bs : Bus), wfs bs = true → ∀ (W j : Nat), hts bs < j → ∀ b ∈ bs.l, callK FsT W j 31 [.d (enc b), .d (enc g)] = some (.d (enc (gr g b)), [.d (enc b), .d (enc g)])
  | .nil, _, W, j, _, b, hb => by cases hb
  | .cons c bs, h, W, j, hj, b, hb => by
    simp only [wfs, Bool.and_eq_true] at h
    simp only [hts] at hj
    rcases List.mem_cons.mp (show b ∈ c :: bs.l from hb) with e | hb
    · rw [e]; exact gr_ok g c h.1 W j (by omega)
    · exact grs_ok g bs h.2 W j (by omega) b hb
end
end TW
end

section
namespace TW
open PySem
theorem put_free {i : Nat} {v : Rv} {σ : En} {x : Option Rv} (h : σ[i]? = some x) (hx : isOwn x = false) : put i v σ = some (σ.set i (some v)) := by
  unfold put
  rw [h]
  cases x with
  | none => rfl
  | some r => cases r <;> first | rfl | (simp [isOwn] at hx)
/-- a for over data, the state folded -/
theorem for_fold {α β : Type} {e : α → D} {E : β → Option Rv → En} {step : β → α → β} {body : En → Option (Flow × En)} {i : Nat} {P : β → List α → Prop}
    (h : ∀ b a l x, isOwn x = false → P b (a :: l) → (E b x)[i]? = some x ∧ (E b x).set i (some (.d (e a))) = E b (some (.d (e a))) ∧ body (E b (some (.d (e a)))) = some (.nx, E (step b a) (some (.d (e a)))) ∧ P (step b a) l) :
    ∀ (l : List α) (b : β) (x0 : Option Rv), isOwn x0 = false → P b l → ∃ x, forL body (.nm i) (l.map e) (E b x0) = some (.nx, E (l.foldl step b) x) ∧ isOwn x = false
  | [], b, x0, hx, _ => ⟨x0, rfl, hx⟩
  | a :: l, b, x0, hx, hp => by
    obtain ⟨h0, h1, h2, h3⟩ := h b a l x0 hx hp
    obtain ⟨x, h4, h5⟩ := for_fold h l (step b a) (some (.d (e a))) rfl h3
    refine ⟨x, ?_, h5⟩
    simp only [List.map_cons, forL, bindT, put_free h0 hx, h1, h2, List.foldl_cons]
    exact h4
abbrev M3 := Nat × Nat × Nat
def mof (b : Bu) : M3 := (kn b, tp b, ht b)
def mstep (m : M3) (g : Bu) : M3 := (m.1 + m.2.1 * kn g, m.2.1 * tp g, m.2.2 + ht g)
def encM (m : M3) : D := .tuple [.int m.1, .int m.2.1, .int m.2.2]
theorem mof_ok (b : Bu) (hw : wf b = true) (W k : Nat) (hk : ht b + 1 < k) : callK FsT W k 28 [.d (enc b)] = some (.d (encM (mof b)), [.d (enc b)]) := by
  obtain ⟨j, rfl⟩ : ∃ j, k = j + 1 := ⟨k - 1, by omega⟩
  have h1 := kn_ok b hw W j (by omega)
  have h2 := tp_ok b hw W j (by omega)
  have h3 := ht_ok b hw W j (by omega)
  simp [FsT, f28, b28, callK, evS, evE, evA, evO, evI, seqS, retF, asgF, asgPF, asgMF, stiF, expF, iteF, forF, andF, orF, notF, ifeF, bltF, consA, nilA, varF, litF, tupF, lstF, dicF, binF, negF, cmpF, cmp2F, idxF, slcF, calF, mtwF, sclF, noO, someO, rngF, seqF, toB, toI, vws, vw, view, dview, frz, frzs, keep1, keeps, put, puts, prep1, prep, lend, giveBack, updR, isAl, isOl, isOwn, bindT, bindTs, fin, outs, outs1, bltR, isiR, tyN, lenR, absR, intR, lstR, valsR, tuplR, cmpR, idxR, slcR, binR, isNoneD, h1, h2, h3, encM, mof, LIM]
theorem mulOk_nat {a b : Nat} (h : a < 18446744073709551616) : mulOk (a : Int) (b : Int) = true := by
  unfold mulOk
  simp [h]
theorem mon_ok (m : M3) (g : Bu) (hw : wf g = true) (hm : m.2.1 < 18446744073709551616) (W k : Nat) (hk : ht g + 2 < k) : callK FsT W k 29 [.d (encM m), .d (enc g)] = some (.d (encM (mstep m g)), [.d (encM m), .d (enc g)]) := by
  obtain ⟨j, rfl⟩ : ∃ j, k = j + 1 := ⟨k - 1, by omega⟩
  have h1 := mof_ok g hw W j (by omega)
  obtain ⟨a, b, c⟩ := m
  simp only at hm
  have q1 := mulOk_nat (b := kn g) hm
  have q2 := mulOk_nat (b := tp g) hm
  simp [FsT, f29, b29, callK, evS, evE, evA, evO, evI, seqS, retF, asgF, asgPF, asgMF, stiF, expF, iteF, forF, andF, orF, notF, ifeF, bltF, consA, nilA, varF, litF, tupF, lstF, dicF, binF, negF, cmpF, cmp2F, idxF, slcF, calF, mtwF, sclF, noO, someO, rngF, seqF, toB, toI, vws, vw, view, dview, frz, frzs, keep1, keeps, put, puts, prep1, prep, lend, giveBack, updR, isAl, isOl, isOwn, bindT, bindTs, fin, outs, outs1, bltR, isiR, tyN, lenR, absR, intR, lstR, valsR, tuplR, cmpR, idxR, slcR, binR, isNoneD, h1, encM, mof, mstep, LIM, q1, q2]
end TW
end

section
namespace TW
open PySem
mutual
theorem tp_pos : ∀ b : Bu, wf b = true → 1 ≤ tp b
  | .tip, _ => Nat.le_refl _
  | .knot s .nil, h => by simp [wf, Bus.l] at h
  | .knot s (.cons b bs), h => by
    simp only [wf, wfs, Bool.and_eq_true] at h
    have := tp_pos b h.2.1
    simp only [tp, tps]
    omega
theorem gr_wf (g : Bu) (hg : wf g = true) : ∀ b : Bu, wf b = true → wf (gr g b) = true
  | .tip, _ => hg
  | .knot s bs, h => by
    simp only [wf, Bool.and_eq_true, decide_eq_true_eq] at h
    obtain ⟨k1, k2⟩ := grs_wf g hg bs h.2
    simp only [gr, wf, Bool.and_eq_true, decide_eq_true_eq, k2]
    exact ⟨h.1, k1⟩
theorem grs_wf (g : Bu) (hg : wf g = true) : ∀ bs : Bus, wfs bs = true → wfs (grs g bs) = true ∧ (grs g bs).l.length = bs.l.length
  | .nil, _ => ⟨rfl, rfl⟩
  | .cons b bs, h => by
    simp only [wfs, Bool.and_eq_true] at h
    obtain ⟨k1, k2⟩ := grs_wf g hg bs h.2
    simp only [grs, wfs, Bus.l, List.length_cons, Bool.and_eq_true, k2]
    exact ⟨⟨gr_wf g hg b h.1, k1⟩, trivial⟩
end
mutual
theorem gr_ht (g : Bu) : ∀ b : Bu, ht (gr g b) ≤ ht b + ht g
  | .tip => by simp [gr, ht]
  | .knot s bs => by
    have := grs_ht g bs
    simp only [gr, ht]
    omega
theorem grs_ht (g : Bu) : ∀ bs : Bus, hts (grs g bs) ≤ hts bs + ht g
  | .nil => by simp [grs, hts]
  | .cons b bs => by
    have h1 := gr_ht g b
    have h2 := grs_ht g bs
    simp only [grs, hts]
    omega
end
theorem fold_tips : ∀ (l : List Bu) (m : M3), (∀ g ∈ l, wf g = true) → m.2.1 ≤ (l.foldl mstep m).2.1
  | [], m, _ => Nat.le_refl _
  | g :: l, m, h => by
    have h1 := tp_pos g (h g (List.mem_cons_self ..))
    have h2 := fold_tips l (mstep m g) fun x hx => h x (List.mem_cons_of_mem _ hx)
    have h3 : m.2.1 ≤ m.2.1 * tp g := Nat.le_mul_of_pos_right _ h1
    simp only [List.foldl_cons]
    exact Nat.le_trans h3 h2
theorem fold_ht : ∀ (l : List Bu) (m : M3), (l.foldl mstep m).2.2 = m.2.2 + (l.map ht).sum
  | [], m => by simp
  | g :: l, m => by
    simp only [List.foldl_cons, fold_ht l, List.map_cons, List.sum_cons, mstep]
    omega
/-- what a drawing is: wf everywhere, the sizes within the bounds -/
structure Fit (b : Bu) (gs : List Bu) : Prop where
  wb : wf b = true
  wgs : ∀ g ∈ gs, wf g = true
  n : gs.length ≤ 12
  parts : (gs.foldl mstep (mof b)).1 + (gs.foldl mstep (mof b)).2.1 ≤ 400
  deep : ht b + (gs.map ht).sum ≤ 60
theorem mem_sum {l : List Nat} {x : Nat} (h : x ∈ l) : x ≤ l.sum := by
  induction l with
  | nil => cases h
  | cons y l ih =>
    simp only [List.sum_cons]
    rcases List.mem_cons.mp h with rfl | h
    · omega
    · have := ih h; omega
theorem Fit.hts {b : Bu} {gs : List Bu} (f : Fit b gs) : ∀ g ∈ gs, TW.ht g ≤ 60 := fun g hg => by
  have h1 := mem_sum (List.mem_map.mpr ⟨g, hg, rfl⟩ : TW.ht g ∈ gs.map TW.ht)
  have := f.deep
  omega
theorem nd_ok (b : Bu) (gs : List Bu) (f : Fit b gs) (W k : Nat) (hk : 66 ≤ k) : callK FsT W k 30 [.d (enc b), .d (.tuple (gs.map enc))] = some (.d .none, [.d (enc b), .d (.tuple (gs.map enc))]) := by
  obtain ⟨j, rfl⟩ : ∃ j, k = j + 1 := ⟨k - 1, by omega⟩
  have hb : TW.ht b ≤ 60 := by have := f.deep; omega
  have h1 := mof_ok b f.wb W j (by omega)
  have hf := for_fold (e := enc) (E := fun m x => [some (.d (enc b)), some (.d (.tuple (gs.map enc))), some (.d (encM m)), x]) (step := mstep) (body := seqS (asgF 2 (calF (callK FsT W j) 29 [false, false] (consA (varF 2) (consA (varF 3) nilA)))) (fun σ => some (.nx, σ))) (i := 3)
    (P := fun m l => (l.foldl mstep m).2.1 < 18446744073709551616 ∧ ∀ g ∈ l, wf g = true ∧ TW.ht g ≤ 60) (fun m g l x hx hp => by
      obtain ⟨p1, p2⟩ := hp
      obtain ⟨w1, w2⟩ := p2 g (List.mem_cons_self ..)
      have t := fold_tips l (mstep m g) fun x hx => (p2 x (List.mem_cons_of_mem _ hx)).1
      have t0 := fold_tips (g :: l) m fun x hx => (p2 x hx).1
      have c := mon_ok m g w1 (by omega) W j (by omega)
      refine ⟨rfl, rfl, by simp [callK, evS, evE, evA, evO, evI, seqS, retF, asgF, asgPF, asgMF, stiF, expF, iteF, forF, andF, orF, notF, ifeF, bltF, consA, nilA, varF, litF, tupF, lstF, dicF, binF, negF, cmpF, cmp2F, idxF, slcF, calF, mtwF, sclF, noO, someO, rngF, seqF, toB, toI, vws, vw, view, dview, frz, frzs, keep1, keeps, put, puts, prep1, prep, lend, giveBack, updR, isAl, isOl, isOwn, bindT, bindTs, fin, outs, outs1, bltR, isiR, tyN, lenR, absR, intR, lstR, valsR, tuplR, cmpR, idxR, slcR, binR, isNoneD, c], p1, fun x hx => p2 x (List.mem_cons_of_mem _ hx)⟩) gs (mof b) none rfl
    ⟨by have := f.parts; omega, fun g hg => ⟨f.wgs g hg, f.hts g hg⟩⟩
  obtain ⟨x, hx, _⟩ := hf
  have hd := fold_ht gs (mof b)
  generalize hm : gs.foldl mstep (mof b) = m at hx hd
  have p := f.parts
  rw [hm] at p
  have q : m.2.2 ≤ 60 := by have := f.deep; rw [hd]; exact this
  obtain ⟨a, t, d⟩ := m
  have p' : ¬ (400 : Int) < (a : Int) + (t : Int) := by simp only at p; omega
  have q' : ¬ (60 : Int) < (d : Int) := by simp only at q; omega
  simp only [encM] at hx
  simp [FsT, f30, b30, callK, evS, evE, evA, evO, evI, seqS, retF, asgF, asgPF, asgMF, stiF, expF, iteF, forF, andF, orF, notF, ifeF, bltF, consA, nilA, varF, litF, tupF, lstF, dicF, binF, negF, cmpF, cmp2F, idxF, slcF, calF, mtwF, sclF, noO, someO, rngF, seqF, toB, toI, vws, vw, view, dview, frz, frzs, keep1, keeps, put, puts, prep1, prep, lend, giveBack, updR, isAl, isOl, isOwn, bindT, bindTs, fin, outs, outs1, bltR, isiR, tyN, lenR, absR, intR, lstR, valsR, tuplR, cmpR, idxR, slcR, binR, isNoneD, h1, forF, hx, L2.atI, L2.ixN, p', q', encM]
end TW
end

section
namespace TW
open PySem
/-- the years: those before the last, the last -/
def ystep (p : List Bu × Bu) (g : Bu) : List Bu × Bu := (p.1 ++ [p.2], gr g p.2)
def yl (p : List Bu × Bu) : List D := p.1.map enc ++ [enc p.2]
theorem yl_len (p : List Bu × Bu) : (yl p).length = p.1.length + 1 := by simp [yl]
theorem atI_last {xs : List D} {x : D} : L2.atI (xs ++ [x]) (-1) = some x := by
  unfold L2.atI L2.ixN
  have h : ((xs ++ [x]).length : Int) = (xs.length : Int) + 1 := by simp
  rw [if_neg (by omega), if_pos (by rw [h]; omega)]
  have : ((-1 : Int) + ((xs ++ [x]).length : Int)).toNat = xs.length := by rw [h]; omega
  rw [this]
  simp
def years (b : Bu) (gs : List Bu) : List Bu × Bu := gs.foldl ystep ([], b)
theorem years_ok (b : Bu) (gs : List Bu) (f : Fit b gs) (W k : Nat) (hk : 66 ≤ k) : callK FsT W k 48 [.d (enc b), .d (.tuple (gs.map enc))] = some (.fl (yl (years b gs)), [.d (enc b), .d (.tuple (gs.map enc))]) := by
  obtain ⟨j, rfl⟩ : ∃ j, k = j + 1 := ⟨k - 1, by omega⟩
  have hf := for_fold (e := enc) (E := fun p x => [some (.d (enc b)), some (.d (.tuple (gs.map enc))), some (.ol (yl p) false), x]) (step := ystep)
    (body := seqS (asgF 2 (binF .Add (varF 2) (lstF (consA (calF (callK FsT W j) 31 [false, false] (consA (idxF (varF 2) (negF (litF (.int 1)))) (consA (varF 3) nilA))) nilA)))) (fun σ => some (.nx, σ))) (i := 3)
    (P := fun p l => wf p.2 = true ∧ (∀ g ∈ l, wf g = true) ∧ TW.ht p.2 + (l.map TW.ht).sum ≤ 60 ∧ p.1.length + l.length ≤ 12) (fun p g l x hx hp => by
      obtain ⟨p1, p2, p3, p4⟩ := hp
      simp only [List.map_cons, List.sum_cons, List.length_cons] at p3 p4
      have c := gr_ok g p.2 p1 W j (by omega)
      have hh := gr_ht g p.2
      have al : L2.atI (yl p) (-1) = some (enc p.2) := atI_last
      have ll : (yl p).length + 1 ≤ LIM := by rw [yl_len]; unfold LIM; omega
      refine ⟨rfl, rfl, ?_, gr_wf g (p2 g (List.mem_cons_self ..)) p.2 p1, fun y hy => p2 y (List.mem_cons_of_mem _ hy), ?_, ?_⟩
      · simp [callK, evS, evE, evA, evO, evI, seqS, retF, asgF, asgPF, asgMF, stiF, expF, iteF, forF, andF, orF, notF, ifeF, bltF, consA, nilA, varF, litF, tupF, lstF, dicF, binF, negF, cmpF, cmp2F, idxF, slcF, calF, mtwF, sclF, noO, someO, rngF, seqF, toB, toI, vws, vw, view, dview, frz, frzs, keep1, keeps, put, puts, prep1, prep, lend, giveBack, updR, isAl, isOl, isOwn, bindT, bindTs, fin, outs, outs1, bltR, isiR, tyN, lenR, absR, intR, lstR, valsR, tuplR, cmpR, idxR, slcR, binR, isNoneD, c, al, ll, LIM]
        have l2 : p.1.length ≤ 16777214 := by omega
        simp [l2, ystep, yl]
      · simp only [ystep]; omega
      · simp only [ystep, List.length_append, List.length_cons, List.length_nil]; omega) gs ([], b) none rfl
    ⟨f.wb, f.wgs, f.deep, by have := f.n; simp; omega⟩
  obtain ⟨x, hx, _⟩ := hf
  have e0 : yl ([], b) = [enc b] := rfl
  rw [e0] at hx
  simp [FsT, f48, b48, callK, evS, evE, evA, evO, evI, seqS, retF, asgF, asgPF, asgMF, stiF, expF, iteF, forF, andF, orF, notF, ifeF, bltF, consA, nilA, varF, litF, tupF, lstF, dicF, binF, negF, cmpF, cmp2F, idxF, slcF, calF, mtwF, sclF, noO, someO, rngF, seqF, toB, toI, vws, vw, view, dview, frz, frzs, keep1, keeps, put, puts, prep1, prep, lend, giveBack, updR, isAl, isOl, isOwn, bindT, bindTs, fin, outs, outs1, bltR, isiR, tyN, lenR, absR, intR, lstR, valsR, tuplR, cmpR, idxR, slcR, binR, isNoneD, LIM, forF, hx, years]
end TW
end

section
namespace TW
open PySem
def LETS : Str := "abcdefghijklmnopqrstuvwxyz"
theorem lets_ok : (([("a" : Str), "b", "c", "f", "g", "s", "z"] : List Str).all fun s => decide (s.length = 1) && !(Builtin.Str.occurrences LETS s 0 LETS.length 1).isEmpty) = true := by decide +kernel
theorem let_ok {s : Str} (h : letB s = true) : s.length = 1 ∧ (Builtin.Str.occurrences LETS s 0 LETS.length 1).isEmpty = false := by
  unfold letB at h
  have h1 := List.all_eq_true.mp lets_ok s (of_decide_eq_true h)
  simp only [Bool.and_eq_true, decide_eq_true_eq, Bool.not_eq_true'] at h1
  exact h1
theorem ev6 (W k : Nat) (hk : 0 < k) (xs : List D) (lo hi : Int) : callK FsT W k 6 [.d (.tuple xs), .d (.int lo), .d (.int hi)] = some (.d (.bool (decide (lo ≤ xs.length ∧ (xs.length : Int) ≤ hi))), [.d (.tuple xs), .d (.int lo), .d (.int hi)]) := by
  obtain ⟨j, rfl⟩ : ∃ j, k = j + 1 := ⟨k - 1, by omega⟩
  by_cases h1 : lo ≤ (xs.length : Int) <;>
    simp [FsT, f6, b6, h1, callK, evS, evE, evA, evO, evI, seqS, retF, asgF, asgPF, asgMF, stiF, expF, iteF, forF, andF, orF, notF, ifeF, bltF, consA, nilA, varF, litF, tupF, lstF, dicF, binF, negF, cmpF, cmp2F, idxF, slcF, calF, mtwF, sclF, noO, someO, rngF, seqF, toB, toI, vws, vw, view, dview, frz, frzs, keep1, keeps, put, puts, prep1, prep, lend, giveBack, updR, isAl, isOl, isOwn, bindT, bindTs, fin, outs, outs1, bltR, isiR, tyN, lenR, absR, intR, lstR, valsR, tuplR, cmpR, idxR, slcR, binR, isNoneD]
theorem ev7 (W k : Nat) (hk : 0 < k) (s : Str) (h : letB s = true) : callK FsT W k 7 [.d (.str s)] = some (.d (.bool true), [.d (.str s)]) := by
  obtain ⟨j, rfl⟩ : ∃ j, k = j + 1 := ⟨k - 1, by omega⟩
  obtain ⟨h1, h2⟩ := let_ok h
  have h3 : (Builtin.Str.occurrences "abcdefghijklmnopqrstuvwxyz" s 0 (Str.ofString "abcdefghijklmnopqrstuvwxyz").length 1).isEmpty = false := h2
  have h4 : dpt (.int 1) (.int 1) = true := by decide
  simp [FsT, f7, b7, callK, evS, evE, evA, evO, evI, seqS, retF, asgF, asgPF, asgMF, stiF, expF, iteF, forF, andF, orF, notF, ifeF, bltF, consA, nilA, varF, litF, tupF, lstF, dicF, binF, negF, cmpF, cmp2F, idxF, slcF, calF, mtwF, sclF, noO, someO, rngF, seqF, toB, toI, vws, vw, view, dview, frz, frzs, keep1, keeps, put, puts, prep1, prep, lend, giveBack, updR, isAl, isOl, isOwn, bindT, bindTs, fin, outs, outs1, bltR, isiR, tyN, lenR, absR, intR, lstR, valsR, tuplR, cmpR, idxR, slcR, binR, isNoneD, h1, LIM, h4, PyData.eqv]
  simpa using h3
theorem ev8 (W k : Nat) (hk : 1 < k) (b : Bu) (h : wf b = true) : callK FsT W k 8 [.d (enc b)] = some (.d (.bool true), [.d (enc b)]) := by
  obtain ⟨j, rfl⟩ : ∃ j, k = j + 1 := ⟨k - 1, by omega⟩
  cases b with
  | tip =>
    have h1 := ev6 W j (by omega) [] 0 0
    simp at h1
    simp [FsT, f8, b8, callK, evS, evE, evA, evO, evI, seqS, retF, asgF, asgPF, asgMF, stiF, expF, iteF, forF, andF, orF, notF, ifeF, bltF, consA, nilA, varF, litF, tupF, lstF, dicF, binF, negF, cmpF, cmp2F, idxF, slcF, calF, mtwF, sclF, noO, someO, rngF, seqF, toB, toI, vws, vw, view, dview, frz, frzs, keep1, keeps, put, puts, prep1, prep, lend, giveBack, updR, isAl, isOl, isOwn, bindT, bindTs, fin, outs, outs1, bltR, isiR, tyN, lenR, absR, intR, lstR, valsR, tuplR, cmpR, idxR, slcR, binR, isNoneD, enc, h1]
  | knot s bs =>
    simp only [wf, Bool.and_eq_true, decide_eq_true_eq] at h
    have e : enc (.knot s bs) = .tuple (.str s :: bs.l.map enc) := by simp [enc, encs_map]
    have h1 := ev6 W j (by omega) (.str s :: bs.l.map enc) 0 0
    have h2 := ev6 W j (by omega) (.str s :: bs.l.map enc) 2 7
    have h3 := ev7 W j (by omega) s h.1.1
    have d1 : decide ((0 : Int) ≤ ((PyData.str s :: bs.l.map enc).length : Nat) ∧ (((PyData.str s :: bs.l.map enc).length : Nat) : Int) ≤ 0) = false := by
      apply decide_eq_false
      simp
    have d2 : decide ((2 : Int) ≤ ((PyData.str s :: bs.l.map enc).length : Nat) ∧ (((PyData.str s :: bs.l.map enc).length : Nat) : Int) ≤ 7) = true := by
      apply decide_eq_true
      simp
      omega
    rw [d1] at h1
    rw [d2] at h2
    have a0 : L2.atI (PyData.str s :: bs.l.map enc) 0 = some (.str s) := by simp [L2.atI, L2.ixN]
    rw [e]
    simp [FsT, f8, b8, callK, evS, evE, evA, evO, evI, seqS, retF, asgF, asgPF, asgMF, stiF, expF, iteF, forF, andF, orF, notF, ifeF, bltF, consA, nilA, varF, litF, tupF, lstF, dicF, binF, negF, cmpF, cmp2F, idxF, slcF, calF, mtwF, sclF, noO, someO, rngF, seqF, toB, toI, vws, vw, view, dview, frz, frzs, keep1, keeps, put, puts, prep1, prep, lend, giveBack, updR, isAl, isOl, isOwn, bindT, bindTs, fin, outs, outs1, bltR, isiR, tyN, lenR, absR, intR, lstR, valsR, tuplR, cmpR, idxR, slcR, binR, isNoneD, h1, h2, h3, a0]
end TW
end

section
namespace TW
open PySem
def encP (p : Bu × Nat) : D := .tuple [enc p.1, .int p.2]
def cnt (b : Bu) : Nat := kn b + tp b
def tot (st : List (Bu × Nat)) : Nat := (st.map fun p => cnt p.1).sum
theorem cnt_pos (b : Bu) (h : wf b = true) : 1 ≤ cnt b := by have := tp_pos b h; unfold cnt; omega
theorem tot_kids (d : Nat) : ∀ bs : Bus, tot (bs.l.map fun b => (b, d)) = kns bs + tps bs
  | .nil => rfl
  | .cons b bs => by
    have := tot_kids d bs
    simp only [tot, cnt] at this
    simp only [tot, cnt, Bus.l, List.map_cons, List.sum_cons, this, kns, tps]
    omega
theorem tot_app (a b : List (Bu × Nat)) : tot (a ++ b) = tot a + tot b := by simp [tot]
def kids (p : Bu × Nat) : List (Bu × Nat) := match p.1 with
  | .tip => []
  | .knot _ bs => bs.l.map fun b => (b, p.2 + 1)
theorem kids_tot (p : Bu × Nat) : tot (kids p) + 1 = cnt p.1 := by
  obtain ⟨b, d⟩ := p
  cases b with
  | tip => rfl
  | knot s bs =>
    simp only [kids, tot_kids, cnt, kn, tp]
    omega
theorem kids_ok (p : Bu × Nat) (hw : wf p.1 = true) (hd : p.2 + ht p.1 ≤ 60) : ∀ q ∈ kids p, wf q.1 = true ∧ q.2 + ht q.1 ≤ 60 := by
  obtain ⟨b, d⟩ := p
  cases b with
  | tip => intro q hq; cases hq
  | knot s bs =>
    intro q hq
    obtain ⟨b, hb, rfl⟩ := List.mem_map.mp hq
    simp only [wf, Bool.and_eq_true] at hw
    have h1 := wfs_mem hw.2 b hb
    simp only [ht] at hd
    have h2 := hts_mem (j := hts bs + 1) (by omega) b hb
    exact ⟨h1, by simp only; omega⟩
/-- the branches of a part, each with its depth -/
theorem kids_lc (c : Cl) (p : Bu × Nat) (hw : wf p.1 = true) (s0 s1 s2 x5 : Option Rv) (hx : isOwn x5 = false) :
    lcF (.nm 5) (seqF (slcF slcR (varF 3) (someO (litF (.int 1))) noO)) [5] (litF (.bool true)) (tupF (consA (varF 5) (consA (binF .Add (varF 4) (litF (.int 1))) nilA))) [s0, s1, s2, some (.d (enc p.1)), some (.d (.int p.2)), x5] =
      some (.fl ((kids p).map encP), [s0, s1, s2, some (.d (enc p.1)), some (.d (.int p.2)), x5]) := by
  obtain ⟨b, d⟩ := p
  cases b with
  | tip =>
    have := lc_map (σ := [s0, s1, s2, some (.d (enc .tip)), some (.d (.int d)), x5]) (i := 5) (l := ([] : List Bu)) (e := enc) (g := fun b => encP (b, d + 1)) (fe := tupF (consA (varF 5) (consA (binF .Add (varF 4) (litF (.int 1))) nilA))) (it := seqF (slcF slcR (varF 3) (someO (litF (.int 1))) noO))
      (by simp) (by simpa using hx) (by simp [callK, evS, evE, evA, evO, evI, seqS, retF, asgF, asgPF, asgMF, stiF, expF, iteF, forF, andF, orF, notF, ifeF, bltF, consA, nilA, varF, litF, tupF, lstF, dicF, binF, negF, cmpF, cmp2F, idxF, slcF, calF, mtwF, sclF, noO, someO, rngF, seqF, toB, toI, vws, vw, view, dview, frz, frzs, keep1, keeps, put, puts, prep1, prep, lend, giveBack, updR, isAl, isOl, isOwn, bindT, bindTs, fin, outs, outs1, bltR, isiR, tyN, lenR, absR, intR, lstR, valsR, tuplR, cmpR, idxR, slcR, binR, isNoneD, enc, cut, HT.sIx]) (by decide) (fun b hb => by cases hb)
    exact this
  | knot s bs =>
    simp only [wf, Bool.and_eq_true, decide_eq_true_eq] at hw
    have e : enc (.knot s bs) = .tuple (.str s :: bs.l.map enc) := by simp [enc, encs_map]
    have := lc_map (σ := [s0, s1, s2, some (.d (enc (.knot s bs))), some (.d (.int d)), x5]) (i := 5) (l := bs.l) (e := enc) (g := fun b => encP (b, d + 1)) (fe := tupF (consA (varF 5) (consA (binF .Add (varF 4) (litF (.int 1))) nilA))) (it := seqF (slcF slcR (varF 3) (someO (litF (.int 1))) noO))
      (by simp) (by simpa using hx) (by rw [e]; simp [callK, evS, evE, evA, evO, evI, seqS, retF, asgF, asgPF, asgMF, stiF, expF, iteF, forF, andF, orF, notF, ifeF, bltF, consA, nilA, varF, litF, tupF, lstF, dicF, binF, negF, cmpF, cmp2F, idxF, slcF, calF, mtwF, sclF, noO, someO, rngF, seqF, toB, toI, vws, vw, view, dview, frz, frzs, keep1, keeps, put, puts, prep1, prep, lend, giveBack, updR, isAl, isOl, isOwn, bindT, bindTs, fin, outs, outs1, bltR, isiR, tyN, lenR, absR, intR, lstR, valsR, tuplR, cmpR, idxR, slcR, binR, isNoneD, cut_tail]) (lim6 hw.1.2.2) (fun b hb => by simp [callK, evS, evE, evA, evO, evI, seqS, retF, asgF, asgPF, asgMF, stiF, expF, iteF, forF, andF, orF, notF, ifeF, bltF, consA, nilA, varF, litF, tupF, lstF, dicF, binF, negF, cmpF, cmp2F, idxF, slcF, calF, mtwF, sclF, noO, someO, rngF, seqF, toB, toI, vws, vw, view, dview, frz, frzs, keep1, keeps, put, puts, prep1, prep, lend, giveBack, updR, isAl, isOl, isOwn, bindT, bindTs, fin, outs, outs1, bltR, isiR, tyN, lenR, absR, intR, lstR, valsR, tuplR, cmpR, idxR, slcR, binR, isNoneD, encP, LIM])
    rw [this]
    simp [kids, Function.comp_def]
end TW
end

section
namespace TW
open PySem
def fitC : En → Option (Bool × En) := fun s => toB (cmpF .NotEq (varF 1) (lstF nilA) s)
theorem fit_loop (W k : Nat) (hk : 1 < k) (v : D) : ∀ (n : Nat) (st : List (Bu × Nat)) (m : Nat) (x3 x4 x5 : Option Rv), isOwn x3 = false → isOwn x4 = false → isOwn x5 = false → (∀ q ∈ st, wf q.1 = true ∧ q.2 + ht q.1 ≤ 60) → m + tot st ≤ 400 → tot st < n →
    ∃ σ, whlL fitC (evS (callK FsT W k) W (match b9 with
      | .cons _ (.cons (.whl _ b) _) => b
      | _ => .nil)) n [some (.d v), some (.ol (st.map encP) false), some (.d (.int m)), x3, x4, x5] = some (.nx, σ)
  | 0, st, m, x3, x4, x5, _, _, _, _, _, hn => by omega
  | n + 1, [], m, x3, x4, x5, h3, h4, h5, hs, hm, hn => by
    have e : dpt (.list []) (.list []) = true := by decide
    refine ⟨[some (.d v), some (.ol [] false), some (.d (.int m)), x3, x4, x5], ?_⟩
    simp [whlL, fitC, callK, evS, evE, evA, evO, evI, seqS, retF, asgF, asgPF, asgMF, stiF, expF, iteF, forF, andF, orF, notF, ifeF, bltF, consA, nilA, varF, litF, tupF, lstF, dicF, binF, negF, cmpF, cmp2F, idxF, slcF, calF, mtwF, sclF, noO, someO, rngF, seqF, toB, toI, vws, vw, view, dview, frz, frzs, keep1, keeps, put, puts, prep1, prep, lend, giveBack, updR, isAl, isOl, isOwn, bindT, bindTs, fin, outs, outs1, bltR, isiR, tyN, lenR, absR, intR, lstR, valsR, tuplR, cmpR, idxR, slcR, binR, isNoneD, e, PyData.eqv, PyData.eqvAll, LIM]
  | n + 1, p :: st, m, x3, x4, x5, h3, h4, h5, hs, hm, hn => by
    obtain ⟨hw, hd⟩ := hs p (List.mem_cons_self ..)
    have ht0 : tot (p :: st) = cnt p.1 + tot st := by simp [tot]
    have kt := kids_tot p
    obtain ⟨σ, ih⟩ := fit_loop W k hk v n (kids p ++ st) (m + 1) (some (.d (enc p.1))) (some (.d (.int p.2))) x5 rfl rfl h5
      (fun q hq => by
        rcases List.mem_append.mp hq with hq | hq
        · exact kids_ok p hw hd q hq
        · exact hs q (List.mem_cons_of_mem _ hq))
      (by rw [tot_app]; omega) (by rw [tot_app]; omega)
    refine ⟨σ, ?_⟩
    have e : dpt (.list (PyData.tuple [enc p.1, .int p.2] :: st.map encP)) (.list []) = true := by
      unfold dpt
      simp [PyData.depth, PyData.depthAll]
    have e8 := ev8 W k hk p.1 hw
    have m4 : ¬ (400 : Int) < (m : Int) + 1 := by omega
    have d6 : ¬ (60 : Int) < (p.2 : Int) := by omega
    have a0 : L2.atI (PyData.tuple [enc p.1, .int p.2] :: st.map encP) 0 = some (.tuple [enc p.1, .int p.2]) := by simp [L2.atI, L2.ixN]
    have lc := kids_lc (callK FsT W k) p hw (some (.d v)) (some (.d (.list (st.map encP)))) (some (.d (.int ((m : Int) + 1)))) x5 h5
    have p3 : ∀ z : Rv, put 3 z [some (.d v), some (.ol (PyData.tuple [enc p.1, .int p.2] :: st.map encP) false), some (.d (.int m)), x3, x4, x5] = some [some (.d v), some (.ol (PyData.tuple [enc p.1, .int p.2] :: st.map encP) false), some (.d (.int m)), some z, x4, x5] := fun z => put_free rfl h3
    have p4 : ∀ z w : Rv, put 4 z [some (.d v), some (.ol (PyData.tuple [enc p.1, .int p.2] :: st.map encP) false), some (.d (.int m)), some w, x4, x5] = some [some (.d v), some (.ol (PyData.tuple [enc p.1, .int p.2] :: st.map encP) false), some (.d (.int m)), some w, some z, x5] := fun z w => put_free rfl h4
    have p1 : ∀ z w u : Rv, put 1 z [some (.d v), some (.ol (PyData.tuple [enc p.1, .int p.2] :: st.map encP) false), some (.d (.int m)), some w, some u, x5] = some [some (.d v), some z, some (.d (.int m)), some w, some u, x5] := fun z w u => rfl
    have p2 : ∀ (z w u : Rv) (l : D), put 2 z [some (.d v), some (.d l), some (.d (.int m)), some w, some u, x5] = some [some (.d v), some (.d l), some z, some w, some u, x5] := fun z w u l => rfl
    have p5 : ∀ (z w u t : Rv) (l : D), put 1 z [some (.d v), some (.d l), some t, some w, some u, x5] = some [some (.d v), some z, some t, some w, some u, x5] := fun z w u t l => rfl
    have ne : PyData.eqv (.list (PyData.tuple [enc p.1, .int p.2] :: st.map encP)) (.list []) = false := by simp [PyData.eqv, PyData.eqvAll]
    have hc : fitC [some (.d v), some (.ol (PyData.tuple [enc p.1, .int p.2] :: st.map encP) false), some (.d (.int m)), x3, x4, x5] = some (true, [some (.d v), some (.ol (PyData.tuple [enc p.1, .int p.2] :: st.map encP) false), some (.d (.int m)), x3, x4, x5]) := by
      simp [fitC, callK, evS, evE, evA, evO, evI, seqS, retF, asgF, asgPF, asgMF, stiF, expF, iteF, forF, andF, orF, notF, ifeF, bltF, consA, nilA, varF, litF, tupF, lstF, dicF, binF, negF, cmpF, cmp2F, idxF, slcF, calF, mtwF, sclF, noO, someO, rngF, seqF, toB, toI, vws, vw, view, dview, frz, frzs, keep1, keeps, put, puts, prep1, prep, lend, giveBack, updR, isAl, isOl, isOwn, bindT, bindTs, fin, outs, outs1, bltR, isiR, tyN, lenR, absR, intR, lstR, valsR, tuplR, cmpR, idxR, slcR, binR, isNoneD, e, ne, LIM]
    have l1 : ∀ l : List (Bu × Nat), (∀ q ∈ l, wf q.1 = true) → l.length ≤ tot l := fun l h => by
      induction l with
      | nil => exact Nat.zero_le _
      | cons q l ih =>
        have h1 := cnt_pos q.1 (h q (List.mem_cons_self ..))
        have h2 := ih fun x hx => h x (List.mem_cons_of_mem _ hx)
        have h3 : tot (q :: l) = cnt q.1 + tot l := by simp [tot]
        rw [h3, List.length_cons]
        omega
    have l2 := l1 (kids p) fun q hq => (kids_ok p hw hd q hq).1
    have l3 := l1 st fun q hq => (hs q (List.mem_cons_of_mem _ hq)).1
    have ll : (kids p).length + st.length ≤ 16777216 := by omega
    have ih' := ih
    simp only [b9, List.map_append] at ih'
    rw [show ((m + 1 : Nat) : Int) = (m : Int) + 1 from by omega] at ih'
    show whlL fitC _ (n + 1) _ = _
    simp only [whlL, List.map_cons, encP, hc, b9]
    generalize hB : evS (callK FsT W k) W _ = B at ih' ⊢
    have hb : B [some (.d v), some (.ol (PyData.tuple [enc p.1, .int p.2] :: st.map encP) false), some (.d (.int m)), x3, x4, x5] = some (.nx, [some (.d v), some (.ol ((kids p).map encP ++ st.map encP) false), some (.d (.int ((m : Int) + 1))), some (.d (enc p.1)), some (.d (.int p.2)), x5]) := by
      rw [← hB]
      simp [callK, evS, evE, evA, evO, evI, seqS, retF, asgF, asgPF, asgMF, stiF, expF, iteF, forF, andF, orF, notF, ifeF, bltF, consA, nilA, varF, litF, tupF, lstF, dicF, binF, negF, cmpF, cmp2F, idxF, slcF, calF, mtwF, sclF, noO, someO, rngF, seqF, toB, toI, vws, vw, view, dview, frz, frzs, keep1, keeps, puts, prep1, prep, lend, giveBack, updR, isAl, isOl, isOwn, bindT, bindTs, fin, outs, outs1, bltR, isiR, tyN, lenR, absR, intR, lstR, valsR, tuplR, cmpR, idxR, slcR, binR, isNoneD, LIM, a0, cut_tail, p1, p2, p3, p4, p5, encP, e8, m4, d6, lc, ll]
    rw [hb]
    exact ih'
end TW
end

section
namespace TW
open PySem
theorem seq_nx {f g : Fs} {σ σ1 : En} (h : f σ = some (.nx, σ1)) : seqS f g σ = g σ1 := by
  simp only [seqS, h]
theorem call_ret {W j f : Nat} {fd : Fd} {args : List Rv} {r p : Res} {σ σ0 : En} (hf : FsT f = some fd) (hl : args.length = fd.np) (h : evS (callK FsT W j) W fd.body σ0 = some (.ret r, σ)) (hp : fin σ r = some p) (h0 : σ0 = args.map some ++ List.replicate (fd.n - fd.np) none := by rfl) :
    callK FsT W (j + 1) f args = some (p, outs args σ) := by
  subst h0
  simp only [callK, hf, hl, if_true, h, hp, Option.map_some]
theorem outs_d1 (x : D) (σ : En) : outs [.d x] σ = [.d x] := by cases σ <;> simp [outs, outs1]
theorem fits_ok (b : Bu) (hw : wf b = true) (hd : ht b ≤ 60) (hc : cnt b ≤ 400) (W k : Nat) (hW : 500 ≤ W) (hk : 2 < k) : callK FsT W k 9 [.d (enc b)] = some (.d (.bool true), [.d (enc b)]) := by
  obtain ⟨j, rfl⟩ : ∃ j, k = j + 1 := ⟨k - 1, by omega⟩
  have t1 : tot [(b, 0)] = cnt b := by simp [tot]
  obtain ⟨σ, hs⟩ := fit_loop W j (by omega) (enc b) W [(b, 0)] 0 none none none rfl rfl rfl (fun q hq => by
    simp at hq; subst hq; exact ⟨hw, by simpa using hd⟩) (by omega) (by omega)
  simp only [List.map_cons, List.map_nil, encP] at hs
  have e1 : evS (callK FsT W j) W b9 [some (.d (enc b)), none, none, none, none, none] = some (.ret (.d (.bool true)), σ) := by
    refine (seq_nx (σ1 := [some (.d (enc b)), some (.ol [.tuple [enc b, .int (0 : Nat)]] false), some (.d (.int (0 : Nat))), none, none, none]) ?_).trans ?_
    · simp [callK, evS, evE, evA, evO, evI, seqS, retF, asgF, asgPF, asgMF, stiF, expF, iteF, forF, andF, orF, notF, ifeF, bltF, consA, nilA, varF, litF, tupF, lstF, dicF, binF, negF, cmpF, cmp2F, idxF, slcF, calF, mtwF, sclF, noO, someO, rngF, seqF, toB, toI, vws, vw, view, dview, frz, frzs, keep1, keeps, put, puts, prep1, prep, lend, giveBack, updR, isAl, isOl, isOwn, bindT, bindTs, fin, outs, outs1, bltR, isiR, tyN, lenR, absR, intR, lstR, valsR, tuplR, cmpR, idxR, slcR, binR, isNoneD, LIM]
    · refine (seq_nx (σ1 := σ) hs).trans ?_
      rfl
  rw [call_ret (fd := f9) rfl rfl e1 rfl, outs_d1]
theorem need_ok (b : Bu) (hw : wf b = true) (hd : ht b ≤ 60) (hc : cnt b ≤ 400) (W k : Nat) (hW : 500 ≤ W) (hk : 3 < k) : callK FsT W k 10 [.d (enc b)] = some (.d .none, [.d (enc b)]) := by
  obtain ⟨j, rfl⟩ : ∃ j, k = j + 1 := ⟨k - 1, by omega⟩
  have h1 := fits_ok b hw hd hc W j hW (by omega)
  simp [FsT, f10, b10, callK, evS, evE, evA, evO, evI, seqS, retF, asgF, asgPF, asgMF, stiF, expF, iteF, forF, andF, orF, notF, ifeF, bltF, consA, nilA, varF, litF, tupF, lstF, dicF, binF, negF, cmpF, cmp2F, idxF, slcF, calF, mtwF, sclF, noO, someO, rngF, seqF, toB, toI, vws, vw, view, dview, frz, frzs, keep1, keeps, put, puts, prep1, prep, lend, giveBack, updR, isAl, isOl, isOwn, bindT, bindTs, fin, outs, outs1, bltR, isiR, tyN, lenR, absR, intR, lstR, valsR, tuplR, cmpR, idxR, slcR, binR, isNoneD, h1]
theorem fold_kn : ∀ (l : List Bu) (m : M3), m.1 ≤ (l.foldl mstep m).1
  | [], m => Nat.le_refl _
  | g :: l, m => by
    have h2 := fold_kn l (mstep m g)
    simp only [List.foldl_cons]
    exact Nat.le_trans (Nat.le_add_right _ _) h2
theorem fold_mem : ∀ (l : List Bu) (m : M3), (∀ g ∈ l, wf g = true) → 1 ≤ m.2.1 → ∀ g ∈ l, kn g ≤ (l.foldl mstep m).1 ∧ tp g ≤ (l.foldl mstep m).2.1
  | [], m, _, _, g, h => by cases h
  | x :: l, m, hw, hm, g, h => by
    have w := hw x (List.mem_cons_self ..)
    have t := tp_pos x w
    simp only [List.foldl_cons]
    rcases List.mem_cons.mp h with rfl | h
    · have h1 := fold_kn l (mstep m g)
      have h2 := fold_tips l (mstep m g) fun y hy => hw y (List.mem_cons_of_mem _ hy)
      have h3 : kn g ≤ m.2.1 * kn g := Nat.le_mul_of_pos_left _ hm
      have h4 : tp g ≤ m.2.1 * tp g := Nat.le_mul_of_pos_left _ hm
      simp only [mstep] at h1 h2 ⊢
      omega
    · exact fold_mem l (mstep m x) (fun y hy => hw y (List.mem_cons_of_mem _ hy)) (Nat.le_trans hm (Nat.le_mul_of_pos_right _ t)) g h
theorem Fit.bc {b : Bu} {gs : List Bu} (f : Fit b gs) : cnt b ≤ 400 := by
  have h1 := fold_kn gs (mof b)
  have h2 := fold_tips gs (mof b) f.wgs
  have := f.parts
  simp only [mof, cnt] at *
  omega
theorem Fit.gc {b : Bu} {gs : List Bu} (f : Fit b gs) : ∀ g ∈ gs, cnt g ≤ 400 := fun g hg => by
  have h1 := fold_mem gs (mof b) f.wgs (tp_pos b f.wb) g hg
  have := f.parts
  simp only [cnt] at *
  omega
theorem Fit.bh {b : Bu} {gs : List Bu} (f : Fit b gs) : TW.ht b ≤ 60 := by have := f.deep; omega
theorem boolL_true {α : Type} : ∀ l : List α, boolL (l.map fun _ => .bool true) = some (l.map fun _ => true)
  | [] => rfl
  | a :: l => by simp [boolL, boolL_true l]
theorem fitg_ok (b : Bu) (gs : List Bu) (f : Fit b gs) (W k : Nat) (hW : 500 ≤ W) (hk : 5 < k) : callK FsT W k 46 [.d (.tuple (gs.map enc))] = some (.d (.bool true), [.d (.tuple (gs.map enc))]) := by
  obtain ⟨j, rfl⟩ : ∃ j, k = j + 1 := ⟨k - 1, by omega⟩
  have h6 := ev6 W j (by omega) (gs.map enc) 0 12
  have d6 : decide ((0 : Int) ≤ ((gs.map enc).length : Nat) ∧ (((gs.map enc).length : Nat) : Int) ≤ 12) = true := by
    apply decide_eq_true
    have := f.n
    simp
    omega
  rw [d6] at h6
  have hlc := lc_map (σ := [some (.d (.tuple (gs.map enc))), none]) (i := 1) (l := gs) (e := enc) (g := fun _ => .bool true) (fe := calF (callK FsT W j) 9 [false] (consA (varF 1) nilA)) (it := seqF (varF 0))
    (by simp) (by simp [isOwn]) (by simp [callK, evS, evE, evA, evO, evI, seqS, retF, asgF, asgPF, asgMF, stiF, expF, iteF, forF, andF, orF, notF, ifeF, bltF, consA, nilA, varF, litF, tupF, lstF, dicF, binF, negF, cmpF, cmp2F, idxF, slcF, calF, mtwF, sclF, noO, someO, rngF, seqF, toB, toI, vws, vw, view, dview, frz, frzs, keep1, keeps, put, puts, prep1, prep, lend, giveBack, updR, isAl, isOl, isOwn, bindT, bindTs, fin, outs, outs1, bltR, isiR, tyN, lenR, absR, intR, lstR, valsR, tuplR, cmpR, idxR, slcR, binR, isNoneD]) (Nat.le_trans f.n (by decide)) fun b hb => by
      have := fits_ok b (f.wgs b hb) (f.hts b hb) (f.gc b hb) W j hW (by omega)
      simp [callK, evS, evE, evA, evO, evI, seqS, retF, asgF, asgPF, asgMF, stiF, expF, iteF, forF, andF, orF, notF, ifeF, bltF, consA, nilA, varF, litF, tupF, lstF, dicF, binF, negF, cmpF, cmp2F, idxF, slcF, calF, mtwF, sclF, noO, someO, rngF, seqF, toB, toI, vws, vw, view, dview, frz, frzs, keep1, keeps, put, puts, prep1, prep, lend, giveBack, updR, isAl, isOl, isOwn, bindT, bindTs, fin, outs, outs1, bltR, isiR, tyN, lenR, absR, intR, lstR, valsR, tuplR, cmpR, idxR, slcR, binR, isNoneD, this]
  simp only [List.map_const'] at hlc
  have bl := boolL_true gs
  simp only [List.map_const'] at bl
  simp [FsT, f46, b46, callK, evS, evE, evA, evO, evI, seqS, retF, asgF, asgPF, asgMF, stiF, expF, iteF, forF, andF, orF, notF, ifeF, bltF, consA, nilA, varF, litF, tupF, lstF, dicF, binF, negF, cmpF, cmp2F, idxF, slcF, calF, mtwF, sclF, noO, someO, rngF, seqF, toB, toI, vws, vw, view, dview, frz, frzs, keep1, keeps, put, puts, prep1, prep, lend, giveBack, updR, isAl, isOl, isOwn, bindT, bindTs, fin, outs, outs1, bltR, isiR, tyN, lenR, absR, intR, lstR, valsR, tuplR, cmpR, idxR, slcR, binR, isNoneD, h6, hlc, allR, bl]
theorem needg_ok (b : Bu) (gs : List Bu) (f : Fit b gs) (W k : Nat) (hW : 500 ≤ W) (hk : 6 < k) : callK FsT W k 47 [.d (.tuple (gs.map enc))] = some (.d .none, [.d (.tuple (gs.map enc))]) := by
  obtain ⟨j, rfl⟩ : ∃ j, k = j + 1 := ⟨k - 1, by omega⟩
  have h1 := fitg_ok b gs f W j hW (by omega)
  simp [FsT, f47, b47, callK, evS, evE, evA, evO, evI, seqS, retF, asgF, asgPF, asgMF, stiF, expF, iteF, forF, andF, orF, notF, ifeF, bltF, consA, nilA, varF, litF, tupF, lstF, dicF, binF, negF, cmpF, cmp2F, idxF, slcF, calF, mtwF, sclF, noO, someO, rngF, seqF, toB, toI, vws, vw, view, dview, frz, frzs, keep1, keeps, put, puts, prep1, prep, lend, giveBack, updR, isAl, isOl, isOwn, bindT, bindTs, fin, outs, outs1, bltR, isiR, tyN, lenR, absR, intR, lstR, valsR, tuplR, cmpR, idxR, slcR, binR, isNoneD, h1]
theorem grown_on_ok (b : Bu) (gs : List Bu) (f : Fit b gs) (W k : Nat) (hW : 500 ≤ W) (hk : 66 < k) : callK FsT W k 159 [.d (enc b), .d (.tuple (gs.map enc))] = some (.fl (yl (years b gs)), [.d (enc b), .d (.tuple (gs.map enc))]) := by
  obtain ⟨j, rfl⟩ : ∃ j, k = j + 1 := ⟨k - 1, by omega⟩
  have h1 := need_ok b f.wb f.bh f.bc W j hW (by omega)
  have h2 := needg_ok b gs f W j hW (by omega)
  have h3 := nd_ok b gs f W j (by omega)
  have h4 := years_ok b gs f W j (by omega)
  simp [FsT, f159, b159, callK, evS, evE, evA, evO, evI, seqS, retF, asgF, asgPF, asgMF, stiF, expF, iteF, forF, andF, orF, notF, ifeF, bltF, consA, nilA, varF, litF, tupF, lstF, dicF, binF, negF, cmpF, cmp2F, idxF, slcF, calF, mtwF, sclF, noO, someO, rngF, seqF, toB, toI, vws, vw, view, dview, frz, frzs, keep1, keeps, put, puts, prep1, prep, lend, giveBack, updR, isAl, isOl, isOwn, bindT, bindTs, fin, outs, outs1, bltR, isiR, tyN, lenR, absR, intR, lstR, valsR, tuplR, cmpR, idxR, slcR, binR, isNoneD, h1, h2, h3, h4]
theorem grown_by_ok (b : Bu) (gs : List Bu) (f : Fit b gs) (W k : Nat) (hW : 500 ≤ W) (hk : 66 < k) : callK FsT W k 49 [.d (enc b), .d (.tuple (gs.map enc))] = some (.d (enc (years b gs).2), [.d (enc b), .d (.tuple (gs.map enc))]) := by
  obtain ⟨j, rfl⟩ : ∃ j, k = j + 1 := ⟨k - 1, by omega⟩
  have h1 := need_ok b f.wb f.bh f.bc W j hW (by omega)
  have h2 := needg_ok b gs f W j hW (by omega)
  have h3 := nd_ok b gs f W j (by omega)
  have h4 := years_ok b gs f W j (by omega)
  have h5 : L2.atI (yl (years b gs)) (-1) = some (enc (years b gs).2) := atI_last
  simp [FsT, f49, b49, callK, evS, evE, evA, evO, evI, seqS, retF, asgF, asgPF, asgMF, stiF, expF, iteF, forF, andF, orF, notF, ifeF, bltF, consA, nilA, varF, litF, tupF, lstF, dicF, binF, negF, cmpF, cmp2F, idxF, slcF, calF, mtwF, sclF, noO, someO, rngF, seqF, toB, toI, vws, vw, view, dview, frz, frzs, keep1, keeps, put, puts, prep1, prep, lend, giveBack, updR, isAl, isOl, isOwn, bindT, bindTs, fin, outs, outs1, bltR, isiR, tyN, lenR, absR, intR, lstR, valsR, tuplR, cmpR, idxR, slcR, binR, isNoneD, h1, h2, h3, h4, h5]
theorem grown_ok (b g : Bu) (f : Fit b [g]) (W k : Nat) (hW : 500 ≤ W) (hk : 66 < k) : callK FsT W k 32 [.d (enc b), .d (enc g)] = some (.d (enc (gr g b)), [.d (enc b), .d (enc g)]) := by
  obtain ⟨j, rfl⟩ : ∃ j, k = j + 1 := ⟨k - 1, by omega⟩
  have mg : g ∈ [g] := List.mem_cons_self ..
  have h1 := need_ok b f.wb f.bh f.bc W j hW (by omega)
  have h2 := need_ok g (f.wgs g mg) (f.hts g mg) (f.gc g mg) W j hW (by omega)
  have h3 := nd_ok b [g] f W j (by omega)
  have h4 := gr_ok g b f.wb W j (by have := f.bh; omega)
  simp only [List.map_cons, List.map_nil] at h3
  simp [FsT, f32, b32, callK, evS, evE, evA, evO, evI, seqS, retF, asgF, asgPF, asgMF, stiF, expF, iteF, forF, andF, orF, notF, ifeF, bltF, consA, nilA, varF, litF, tupF, lstF, dicF, binF, negF, cmpF, cmp2F, idxF, slcF, calF, mtwF, sclF, noO, someO, rngF, seqF, toB, toI, vws, vw, view, dview, frz, frzs, keep1, keeps, put, puts, prep1, prep, lend, giveBack, updR, isAl, isOl, isOwn, bindT, bindTs, fin, outs, outs1, bltR, isiR, tyN, lenR, absR, intR, lstR, valsR, tuplR, cmpR, idxR, slcR, binR, isNoneD, LIM, h1, h2, h3, h4]
theorem bush_of_ok (gs : List Bu) (f : Fit .tip gs) (W k : Nat) (hW : 500 ≤ W) (hk : 66 < k) : callK FsT W k 161 [.d (.tuple (gs.map enc))] = some (.d (enc (years .tip gs).2), [.d (.tuple (gs.map enc))]) := by
  obtain ⟨j, rfl⟩ : ∃ j, k = j + 1 := ⟨k - 1, by omega⟩
  have h2 := needg_ok .tip gs f W j hW (by omega)
  have h3 := nd_ok .tip gs f W j (by omega)
  have h4 := years_ok .tip gs f W j (by omega)
  have h5 : L2.atI (yl (years .tip gs)) (-1) = some (enc (years .tip gs).2) := atI_last
  simp only [enc] at h3 h4
  simp [FsT, f161, b161, callK, evS, evE, evA, evO, evI, seqS, retF, asgF, asgPF, asgMF, stiF, expF, iteF, forF, andF, orF, notF, ifeF, bltF, consA, nilA, varF, litF, tupF, lstF, dicF, binF, negF, cmpF, cmp2F, idxF, slcF, calF, mtwF, sclF, noO, someO, rngF, seqF, toB, toI, vws, vw, view, dview, frz, frzs, keep1, keeps, put, puts, prep1, prep, lend, giveBack, updR, isAl, isOl, isOwn, bindT, bindTs, fin, outs, outs1, bltR, isiR, tyN, lenR, absR, intR, lstR, valsR, tuplR, cmpR, idxR, slcR, binR, isNoneD, LIM, h2, h3, h4, h5]
end TW
end

section
namespace TW
open PySem
abbrev Rd := List Nat
mutual
/-- the parts in the order in which the stack comes to them -/
def pts : Rd → Bu → List (Rd × Bu)
  | r, .tip => [(r, .tip)]
  | r, .knot s bs => (r, .knot s bs) :: ptsL r 0 bs
def ptsL : Rd → Nat → Bus → List (Rd × Bu)
  | _, _, .nil => []
  | r, i, .cons b bs => ptsL r (i + 1) bs ++ pts (r ++ [i]) b
end
mutual
/-- the parts in the order of the roads -/
def pre : Rd → Bu → List (Rd × Bu)
  | r, .tip => [(r, .tip)]
  | r, .knot s bs => (r, .knot s bs) :: preL r 0 bs
def preL : Rd → Nat → Bus → List (Rd × Bu)
  | _, _, .nil => []
  | r, i, .cons b bs => pre (r ++ [i]) b ++ preL r (i + 1) bs
end
def kidL : Rd → Nat → Bus → List (Rd × Bu)
  | _, _, .nil => []
  | r, i, .cons b bs => (r ++ [i], b) :: kidL r (i + 1) bs
theorem kidL_pts (r : Rd) : ∀ (i : Nat) (bs : Bus), (kidL r i bs).reverse.flatMap (fun q => pts q.1 q.2) = ptsL r i bs
  | _, .nil => rfl
  | i, .cons b bs => by
    simp [kidL, ptsL, List.flatMap_append, kidL_pts r (i + 1) bs]
theorem kidL_zip (r : Rd) : ∀ (i : Nat) (bs : Bus), kidL r i bs = (bs.l.zipIdx i).map fun p => (r ++ [p.2], p.1)
  | _, .nil => rfl
  | i, .cons b bs => by
    simp [kidL, Bus.l, kidL_zip r (i + 1) bs]
mutual
theorem pts_perm : ∀ (r : Rd) (b : Bu), (pts r b).Perm (pre r b)
  | r, .tip => List.Perm.refl _
  | r, .knot s bs => by
    simp only [pts, pre]
    exact (ptsL_perm r 0 bs).cons _
theorem ptsL_perm : ∀ (r : Rd) (i : Nat) (bs : Bus), (ptsL r i bs).Perm (preL r i bs)
  | _, _, .nil => List.Perm.refl _
  | r, i, .cons b bs => by
    simp only [ptsL, preL]
    exact List.perm_append_comm.trans ((pts_perm (r ++ [i]) b).append (ptsL_perm r (i + 1) bs))
end
mutual
theorem pre_ext : ∀ (r : Rd) (b : Bu), ∀ p ∈ pre r b, ∃ t, p.1 = r ++ t
  | r, .tip, p, h => by
    simp only [pre, List.mem_singleton] at h
    exact ⟨[], by rw [h]; simp⟩
  | r, .knot s bs, p, h => by
    simp only [pre, List.mem_cons] at h
    rcases h with h | h
    · exact ⟨[], by rw [h]; simp⟩
    · obtain ⟨j, t, _, h⟩ := preL_ext r 0 bs p h
      exact ⟨_, h⟩
theorem preL_ext : ∀ (r : Rd) (i : Nat) (bs : Bus), ∀ p ∈ preL r i bs, ∃ j t, i ≤ j ∧ p.1 = r ++ j :: t
  | _, _, .nil, p, h => by simp [preL] at h
  | r, i, .cons b bs, p, h => by
    simp only [preL, List.mem_append] at h
    rcases h with h | h
    · obtain ⟨t, e⟩ := pre_ext (r ++ [i]) b p h
      exact ⟨i, t, Nat.le_refl _, by rw [e]; simp⟩
    · obtain ⟨j, t, hj, e⟩ := preL_ext r (i + 1) bs p h
      exact ⟨j, t, by omega, e⟩
end
theorem lt_app (r : Rd) {a b : Rd} (h : a < b) : r ++ a < r ++ b := by
  induction r with
  | nil => exact h
  | cons x r ih => exact List.cons_lt_cons_iff.mpr (.inr ⟨rfl, ih⟩)
theorem lt_ext (r : Rd) (j : Nat) (t : Rd) : r < r ++ j :: t := by
  have := lt_app r (a := []) (b := j :: t) (List.nil_lt_cons ..)
  simpa using this
mutual
theorem pre_sorted : ∀ (r : Rd) (b : Bu), (pre r b).Pairwise fun p q => p.1 < q.1
  | r, .tip => by simp [pre]
  | r, .knot s bs => by
    simp only [pre, List.pairwise_cons]
    refine ⟨fun p h => ?_, preL_sorted r 0 bs⟩
    obtain ⟨j, t, _, e⟩ := preL_ext r 0 bs p h
    rw [e]
    exact lt_ext r j t
theorem preL_sorted : ∀ (r : Rd) (i : Nat) (bs : Bus), (preL r i bs).Pairwise fun p q => p.1 < q.1
  | _, _, .nil => by simp [preL]
  | r, i, .cons b bs => by
    simp only [preL]
    refine List.pairwise_append.mpr ⟨pre_sorted (r ++ [i]) b, preL_sorted r (i + 1) bs, fun p hp q hq => ?_⟩
    obtain ⟨t, e1⟩ := pre_ext (r ++ [i]) b p hp
    obtain ⟨j, u, hj, e2⟩ := preL_ext r (i + 1) bs q hq
    rw [e1, e2, List.append_assoc]
    exact lt_app r (List.cons_lt_cons_iff.mpr (.inl (by omega)))
end
theorem nodup_pre (r : Rd) (b : Bu) : ((pre r b).map (·.1)).Nodup := by
  unfold List.Nodup
  rw [List.pairwise_map]
  exact (pre_sorted r b).imp fun h e => by rw [e] at h; exact absurd h (List.lt_irrefl _)
theorem nodup_pts (r : Rd) (b : Bu) : ((pts r b).map (·.1)).Nodup := ((pts_perm r b).map _).nodup_iff.mpr (nodup_pre r b)
theorem sort_pts (r : Rd) (b : Bu) : ((pts r b).map (·.1)).mergeSort (fun x y => !decide (y < x)) = (pre r b).map (·.1) := by
  have tr : ∀ a b c : Rd, (!decide (b < a)) = true → (!decide (c < b)) = true → (!decide (c < a)) = true := fun a b c h1 h2 => by
    simp only [Bool.not_eq_true', decide_eq_false_iff_not, List.not_lt] at *
    exact List.le_trans h1 h2
  have tt : ∀ a b : Rd, ((!decide (b < a)) || (!decide (a < b))) = true := fun a b => by
    rcases List.le_total a b with h | h
    · simp [List.not_lt.mpr h]
    · simp [List.not_lt.mpr h]
  refine List.Perm.eq_of_pairwise (le := fun a b => (!decide (b < a)) = true) ?_ (List.pairwise_mergeSort tr tt _) ?_ ((List.mergeSort_perm _ _).trans ((pts_perm r b).map _))
  · intro a b _ _ h1 h2
    simp only [Bool.not_eq_true', decide_eq_false_iff_not, List.not_lt] at h1 h2
    exact List.le_antisymm h1 h2
  · rw [List.pairwise_map]
    exact (pre_sorted r b).imp fun h => by
      simp only [Bool.not_eq_true', decide_eq_false_iff_not, List.not_lt]
      exact List.le_of_lt h
def isTip : Bu → Bool
  | .tip => true
  | _ => false
mutual
/-- the roads to the tips -/
def tpR : Bu → List Rd
  | .tip => [[]]
  | .knot _ bs => tpRL 0 bs
def tpRL : Nat → Bus → List Rd
  | _, .nil => []
  | i, .cons b bs => (tpR b).map (i :: ·) ++ tpRL (i + 1) bs
end
mutual
theorem pre_tips : ∀ (r : Rd) (b : Bu), ((pre r b).filter fun p => isTip p.2).map (·.1) = (tpR b).map (r ++ ·)
  | r, .tip => by simp [pre, tpR, isTip]
  | r, .knot s bs => by
    simp only [pre, tpR, List.filter_cons, isTip, Bool.false_eq_true, if_false]
    exact preL_tips r 0 bs
theorem preL_tips : ∀ (r : Rd) (i : Nat) (bs : Bus), ((preL r i bs).filter fun p => isTip p.2).map (·.1) = (tpRL i bs).map (r ++ ·)
  | _, _, .nil => rfl
  | r, i, .cons b bs => by
    simp only [preL, tpRL, List.filter_append, List.map_append, pre_tips (r ++ [i]) b, preL_tips r (i + 1) bs, List.map_map]
    congr 1
    apply List.map_congr_left
    intro t _
    simp
end
mutual
theorem pts_kn : ∀ (r : Rd) (b : Bu), ((pts r b).filter fun p => !isTip p.2).length = kn b
  | r, .tip => by simp [pts, isTip, kn]
  | r, .knot s bs => by
    have h := ptsL_kn r 0 bs
    have e : (!isTip (Bu.knot s bs)) = true := rfl
    simp only [pts, kn, List.filter_cons, e, if_true, List.length_cons, h]
    omega
theorem ptsL_kn : ∀ (r : Rd) (i : Nat) (bs : Bus), ((ptsL r i bs).filter fun p => !isTip p.2).length = kns bs
  | _, _, .nil => rfl
  | r, i, .cons b bs => by
    simp only [ptsL, kns, List.filter_append, List.length_append, pts_kn (r ++ [i]) b, ptsL_kn r (i + 1) bs]
    omega
end
mutual
theorem pts_len : ∀ (r : Rd) (b : Bu), (pts r b).length = cnt b
  | r, .tip => by simp [pts, cnt, tp, kn]
  | r, .knot s bs => by
    simp only [pts, cnt, kn, tp, List.length_cons, ptsL_len r 0 bs]
    omega
theorem ptsL_len : ∀ (r : Rd) (i : Nat) (bs : Bus), (ptsL r i bs).length = kns bs + tps bs
  | _, _, .nil => rfl
  | r, i, .cons b bs => by
    have := pts_len (r ++ [i]) b
    simp only [cnt] at this
    simp only [ptsL, kns, tps, List.length_append, this, ptsL_len r (i + 1) bs]
    omega
end
mutual
theorem tpR_len : ∀ b : Bu, (tpR b).length = tp b
  | .tip => rfl
  | .knot s bs => tpRL_len 0 bs
theorem tpRL_len : ∀ (i : Nat) (bs : Bus), (tpRL i bs).length = tps bs
  | _, .nil => rfl
  | i, .cons b bs => by simp [tpRL, tps, tpR_len b, tpRL_len (i + 1) bs]
end
/-! a growth at one road -/
def Bus.set : Nat → Bu → Bus → Bus
  | _, _, .nil => .nil
  | 0, x, .cons _ bs => .cons x bs
  | i + 1, x, .cons b bs => .cons b (Bus.set i x bs)
theorem Bus.l_set : ∀ (i : Nat) (x : Bu) (bs : Bus), (Bus.set i x bs).l = bs.l.set i x
  | i, _, .nil => by simp [Bus.set, Bus.l]
  | 0, x, .cons _ bs => rfl
  | i + 1, x, .cons b bs => by simp [Bus.set, Bus.l, Bus.l_set i x bs]
def pu (g : Bu) : Rd → Bu → Option Bu
  | [], _ => some g
  | i :: r, .knot s bs => match bs.l[i]? with
    | some b => (pu g r b).map fun b' => .knot s (bs.set i b')
    | none => none
  | _ :: _, .tip => none
def pus (g : Bu) : List Rd → Bu → Option Bu
  | [], b => some b
  | r :: rs, b => match pu g r b with
    | some b' => pus g rs b'
    | none => none
theorem pus_app (g : Bu) : ∀ (l m : List Rd) (b : Bu), pus g (l ++ m) b = match pus g l b with
    | some b' => pus g m b'
    | none => none
  | [], m, b => rfl
  | r :: l, m, b => by
    simp only [List.cons_append, pus]
    cases pu g r b with
    | none => rfl
    | some b' => exact pus_app g l m b'
theorem set_self' : ∀ {bs : Bus} {i : Nat} {b : Bu}, bs.l[i]? = some b → bs.set i b = bs
  | .nil, i, b, h => by simp [Bus.l] at h
  | .cons c bs, 0, b, h => by
    simp [Bus.l] at h
    rw [h]
    rfl
  | .cons c bs, i + 1, b, h => by
    simp [Bus.l] at h
    simp [Bus.set, set_self' h]
theorem set_set' : ∀ {bs : Bus} {i : Nat} {b c : Bu}, (bs.set i b).set i c = bs.set i c
  | .nil, i, b, c => by simp [Bus.set]
  | .cons d bs, 0, b, c => rfl
  | .cons d bs, i + 1, b, c => by simp [Bus.set, set_set' (bs := bs)]
/-- roads within one branch -/
theorem pus_in (g : Bu) (s : Str) (i : Nat) : ∀ (l : List Rd) (bs : Bus) (b b' : Bu), bs.l[i]? = some b → pus g l b = some b' → pus g (l.map (i :: ·)) (.knot s bs) = some (.knot s (bs.set i b'))
  | [], bs, b, b', h, e => by
    simp only [pus, Option.some.injEq] at e
    subst e
    simp [pus, set_self' h]
  | r :: l, bs, b, b', h, e => by
    simp only [pus] at e
    cases q : pu g r b with
    | none => rw [q] at e; cases e
    | some c =>
      rw [q] at e
      have hc : (bs.set i c).l[i]? = some c := by
        rw [Bus.l_set, List.getElem?_set_self]
        exact (List.getElem?_eq_some_iff.mp h).1
      have := pus_in g s i l (bs.set i c) c b' hc e
      simp only [List.map_cons, pus, pu, h, q, Option.map_some]
      rw [this, set_set']
theorem grs_len (g : Bu) : ∀ bs : Bus, (grs g bs).l.length = bs.l.length
  | .nil => rfl
  | .cons b bs => by simp [grs, Bus.l, grs_len g bs]
/-- what stands already, in front -/
def Bus.app : Bus → Bus → Bus
  | .nil, m => m
  | .cons b bs, m => .cons b (Bus.app bs m)
theorem app_l : ∀ a m : Bus, (a.app m).l = a.l ++ m.l
  | .nil, m => rfl
  | .cons b bs, m => by simp [Bus.app, Bus.l, app_l bs m]
theorem app_set : ∀ (a : Bus) (b c : Bu) (m : Bus), (a.app (.cons b m)).set a.l.length c = a.app (.cons c m)
  | .nil, b, c, m => rfl
  | .cons x a, b, c, m => by simp [Bus.app, Bus.l, Bus.set, app_set a b c m]
theorem app_snoc : ∀ (a : Bus) (b : Bu) (m : Bus), a.app (.cons b m) = (a.app (.cons b .nil)).app m
  | .nil, b, m => rfl
  | .cons x a, b, m => by simp [Bus.app, app_snoc a b m]
mutual
theorem pus_gr (g : Bu) : ∀ b : Bu, pus g (tpR b) b = some (gr g b)
  | .tip => rfl
  | .knot s bs => by
    have := pus_grs g s bs .nil
    simpa [tpR, gr, Bus.app, Bus.l] using this
theorem pus_grs (g : Bu) (s : Str) : ∀ (bs a : Bus), pus g (tpRL a.l.length bs) (.knot s (a.app bs)) = some (.knot s (a.app (grs g bs)))
  | .nil, a => rfl
  | .cons b bs, a => by
    simp only [tpRL, pus_app, grs]
    have h : (a.app (.cons b bs)).l[a.l.length]? = some b := by
      rw [app_l]
      simp [Bus.l]
    rw [pus_in g s a.l.length (tpR b) (a.app (.cons b bs)) b _ h (pus_gr g b)]
    simp only [app_set]
    have := pus_grs g s bs (a.app (.cons (gr g b) .nil))
    rw [app_l] at this
    simp only [Bus.l, List.length_append, List.length_cons, List.length_nil] at this
    rw [app_snoc, app_snoc a (gr g b) (grs g bs)]
    exact this
end
/-! depths -/
def mx : List Nat → Nat
  | [] => 0
  | n :: r => max n (mx r)
theorem mx_app : ∀ l m : List Nat, mx (l ++ m) = max (mx l) (mx m)
  | [], m => by simp [mx]
  | n :: l, m => by simp [mx, mx_app l m, Nat.max_assoc]
theorem mx_succ : ∀ l : List Nat, l ≠ [] → mx (l.map (· + 1)) = mx l + 1
  | [], h => absurd rfl h
  | [n], _ => by simp [mx]
  | n :: k :: l, _ => by
    have := mx_succ (k :: l) (by simp)
    simp only [List.map_cons] at this
    simp only [List.map_cons, mx] at this ⊢
    omega
def dl (b : Bu) : List Nat := (tpR b).map List.length
mutual
theorem tpR_ne : ∀ b : Bu, wf b = true → tpR b ≠ []
  | .tip, _ => by simp [tpR]
  | .knot s .nil, h => by simp [wf, Bus.l] at h
  | .knot s (.cons b bs), h => by
    simp only [wf, wfs, Bool.and_eq_true] at h
    have := tpR_ne b h.2.1
    simp only [tpR, tpRL]
    simp [this]
end
mutual
theorem dl_mx : ∀ b : Bu, wf b = true → mx (dl b) = ht b
  | .tip, _ => rfl
  | .knot s bs, h => by
    simp only [wf, Bool.and_eq_true, decide_eq_true_eq] at h
    have := dls_mx bs 0 h.2
    simp only [dl, tpR, ht, this]
    cases bs with
    | nil => simp [Bus.l] at h
    | cons b bs => rfl
theorem dls_mx : ∀ (bs : Bus) (i : Nat), wfs bs = true → mx ((tpRL i bs).map List.length) = match bs with
    | .nil => 0
    | _ => 1 + hts bs
  | .nil, i, _ => rfl
  | .cons b bs, i, h => by
    simp only [wfs, Bool.and_eq_true] at h
    have h1 := dl_mx b h.1
    have h2 := dls_mx bs (i + 1) h.2
    have h3 := tpR_ne b h.1
    have h4 := mx_succ (dl b) (by simpa [dl] using h3)
    have h5 : (List.map List.length ((tpR b).map fun x => i :: x)) = (dl b).map (· + 1) := by
      simp [dl, Function.comp_def]
    simp only [tpRL, List.map_append, mx_app, h5, h4, h1, h2, hts]
    cases bs with
    | nil => simp [hts, Nat.add_comm]
    | cons c cs => simp only; omega
end
/-! sizes of grown ones -/
mutual
theorem gr_kn (g : Bu) : ∀ b : Bu, kn (gr g b) = kn b + tp b * kn g
  | .tip => by simp [gr, kn, tp]
  | .knot s bs => by
    simp only [gr, kn, tp, grs_kn g bs]
    omega
theorem grs_kn (g : Bu) : ∀ bs : Bus, kns (grs g bs) = kns bs + tps bs * kn g
  | .nil => by simp [grs, kns, tps]
  | .cons b bs => by
    simp only [grs, kns, tps, gr_kn g b, grs_kn g bs, Nat.add_mul]
    omega
end
mutual
theorem gr_tp (g : Bu) : ∀ b : Bu, tp (gr g b) = tp b * tp g
  | .tip => by simp [gr, tp]
  | .knot s bs => grs_tp g bs
theorem grs_tp (g : Bu) : ∀ bs : Bus, tps (grs g bs) = tps bs * tp g
  | .nil => by simp [grs, tps]
  | .cons b bs => by
    simp only [grs, tps, gr_tp g b, grs_tp g bs, Nat.add_mul]
end

theorem set_wfs : ∀ (bs : Bus) (i : Nat) (b : Bu), wfs bs = true → wf b = true → wfs (bs.set i b) = true
  | .nil, i, b, h, _ => by simp [Bus.set, wfs]
  | .cons c bs, 0, b, h, hb => by
    simp only [wfs, Bool.and_eq_true] at h
    simp [Bus.set, wfs, h, hb]
  | .cons c bs, i + 1, b, h, hb => by
    simp only [wfs, Bool.and_eq_true] at h
    simp [Bus.set, wfs, h, set_wfs bs i b h.2 hb]
theorem wfs_at : ∀ {bs : Bus} {i : Nat} {b : Bu}, wfs bs = true → bs.l[i]? = some b → wf b = true
  | .nil, i, b, _, h => by simp [Bus.l] at h
  | .cons c bs, 0, b, w, h => by
    simp [Bus.l] at h
    simp only [wfs, Bool.and_eq_true] at w
    rw [← h]
    exact w.1
  | .cons c bs, i + 1, b, w, h => by
    simp [Bus.l] at h
    simp only [wfs, Bool.and_eq_true] at w
    exact wfs_at w.2 h
theorem pu_wf {g : Bu} (hg : wf g = true) : ∀ {r : Rd} {b b' : Bu}, wf b = true → pu g r b = some b' → wf b' = true
  | [], b, b', _, h => by
    cases b <;> (simp only [pu, Option.some.injEq] at h; rw [← h]; exact hg)
  | i :: r, .tip, b', _, h => by simp [pu] at h
  | i :: r, .knot s bs, b', w, h => by
    simp only [wf, Bool.and_eq_true, decide_eq_true_eq] at w
    simp only [pu] at h
    cases e : bs.l[i]? with
    | none => rw [e] at h; cases h
    | some b =>
      rw [e] at h
      cases q : pu g r b with
      | none => simp [q] at h
      | some c =>
        simp only [q, Option.map_some, Option.some.injEq] at h
        rw [← h]
        have := pu_wf hg (wfs_at w.2 e) q
        simp only [wf, Bus.l_set, List.length_set, Bool.and_eq_true, decide_eq_true_eq]
        exact ⟨w.1, set_wfs bs i c w.2 this⟩
theorem pus_wf {g : Bu} (hg : wf g = true) : ∀ {l : List Rd} {b b' : Bu}, wf b = true → pus g l b = some b' → wf b' = true
  | [], b, b', w, h => by
    simp only [pus, Option.some.injEq] at h
    rw [← h]
    exact w
  | r :: l, b, b', w, h => by
    simp only [pus] at h
    cases q : pu g r b with
    | none => rw [q] at h; cases h
    | some c =>
      rw [q] at h
      exact pus_wf hg (pu_wf hg w q) h
theorem mx_mem : ∀ {l : List Nat} {n : Nat}, n ∈ l → n ≤ mx l
  | k :: l, n, h => by
    simp only [mx]
    rcases List.mem_cons.mp h with rfl | h
    · omega
    · have := mx_mem h
      omega
theorem tpR_short {b : Bu} (w : wf b = true) {r : Rd} (h : r ∈ tpR b) : r.length ≤ ht b := by
  rw [← dl_mx b w]
  exact mx_mem (List.mem_map.mpr ⟨r, h, rfl⟩)
theorem pre_short : ∀ (n : Nat), n = n := fun _ => rfl
end TW
end

section
namespace TW
open PySem
def rd (r : Rd) : D := .tuple (r.map fun i => .int (i : Nat))
def encQ (q : Rd × Bu) : D := .tuple [rd q.1, enc q.2]
def kv (q : Rd × Bu) : D × D := (rd q.1, enc q.2)
theorem eqv_ints : ∀ a b : Rd, PyData.eqvAll (a.map fun i => .int (i : Nat)) (b.map fun i => .int (i : Nat)) = decide (a = b)
  | [], [] => by simp [PyData.eqvAll]
  | [], y :: b => by simp [PyData.eqvAll]
  | x :: a, [] => by simp [PyData.eqvAll]
  | x :: a, y :: b => by
    have h : ((x : Int) == (y : Int)) = decide (x = y) := by
      by_cases e : x = y
      · simp [e]
      · have : ¬ (x : Int) = (y : Int) := by omega
        simp [e, this]
    simp only [List.map_cons, PyData.eqvAll, PyData.eqv, eqv_ints a b, h]
    by_cases e : x = y <;> simp [e]
theorem eqv_rd (a b : Rd) : PyData.eqv (rd a) (rd b) = decide (a = b) := by
  simp only [rd, PyData.eqv, eqv_ints]
theorem eqv_enc_tip (b : Bu) : PyData.eqv (enc b) (.tuple []) = isTip b := by
  cases b with
  | tip => exact enc_tip
  | knot s bs => exact enc_ne
theorem kvPut_new {k x : D} {kvs : List (D × D)} (h : ∀ p ∈ kvs, PyData.eqv p.1 k = false) : kvPut k x kvs = kvs ++ [(k, x)] := by
  unfold kvPut
  rw [if_neg]
  intro e
  obtain ⟨p, hp, q⟩ := List.any_eq_true.mp e
  rw [h p hp] at q
  cases q
theorem kvPut_kv {q : Rd × Bu} {acc : List (Rd × Bu)} (h : q.1 ∉ acc.map (·.1)) : kvPut (rd q.1) (enc q.2) (acc.map kv) = (acc ++ [q]).map kv := by
  rw [kvPut_new]
  · simp [kv]
  · intro p hp
    obtain ⟨a, ha, rfl⟩ := List.mem_map.mp hp
    simp only [kv, eqv_rd]
    apply decide_eq_false
    intro e
    exact h (List.mem_map.mpr ⟨a, ha, e⟩)
theorem kvGet_kv : ∀ {l : List (Rd × Bu)} {q : Rd × Bu}, q ∈ l → (l.map (·.1)).Nodup → kvGet (rd q.1) (l.map kv) = some (enc q.2)
  | p :: l, q, h, nd => by
    simp only [List.map_cons, List.nodup_cons] at nd
    simp only [List.map_cons, kvGet, kv, eqv_rd]
    rcases List.mem_cons.mp h with rfl | h
    · simp
    · have : ¬ p.1 = q.1 := fun e => nd.1 (by rw [e]; exact List.mem_map.mpr ⟨q, h, rfl⟩)
      simp only [this, decide_false, Bool.false_eq_true, if_false]
      exact kvGet_kv h nd.2
theorem keyOk_rd (r : Rd) : keyOk true (rd r) = true := by
  simp [keyOk, rd, flatK]
theorem atI_succ {xs : List D} {y x : D} {i : Nat} (h : xs[i]? = some x) : L2.atI (y :: xs) ((i : Int) + 1) = some x := by
  have hl := (List.getElem?_eq_some_iff.mp h).1
  unfold L2.atI L2.ixN
  have e : ((i : Int) + 1).toNat = i + 1 := by omega
  rw [if_pos (by omega), e, if_pos (by simp; omega)]
  simp [h]
theorem b62_small {n : Int} (h : -1 ≤ n) (h2 : n ≤ 100000) : b62 n = true := by
  unfold b62
  apply decide_eq_true
  omega
def kidQ (r : Rd) : Bu → List (Rd × Bu)
  | .tip => []
  | .knot _ bs => kidL r 0 bs
theorem kids_for (c : Cl) (r : Rd) (b : Bu) (hw : wf b = true) (hr : r.length ≤ 100000) (v : Option Rv) (kvs : List (D × D)) (L : List D) (hL : L.length ≤ 100000) (x3 : Option Rv) (h3 : isOwn x3 = false) :
    ∃ x, forF (.nm 3) (rngF (consA (binF .Sub (bltF .len (consA (varF 5) nilA)) (litF (.int 1))) nilA)) (seqS (expF (mtwF .app 2 (consA (tupF (consA (binF .Add (varF 4) (tupF (consA (varF 3) nilA))) (consA (idxF (varF 5) (binF .Add (varF 3) (litF (.int 1)))) nilA))) nilA))) (fun σ => some (.nx, σ)))
      [v, some (.od true kvs false), some (.ol L false), x3, some (.d (rd r)), some (.d (enc b))] = some (.nx, [v, some (.od true kvs false), some (.ol (L ++ (kidQ r b).map encQ) false), x, some (.d (rd r)), some (.d (enc b))]) ∧ isOwn x = false := by
  cases b with
  | tip =>
    refine ⟨x3, ?_, h3⟩
    have b1 : b62 (-1) = true := by decide
    have e0 : rngI 0 (-1) = [] := rfl
    simp [forF, callK, evS, evE, evA, evO, evI, seqS, retF, asgF, asgPF, asgMF, stiF, expF, iteF, forF, andF, orF, notF, ifeF, bltF, consA, nilA, varF, litF, tupF, lstF, dicF, binF, negF, cmpF, cmp2F, idxF, slcF, calF, mtwF, sclF, noO, someO, rngF, seqF, toB, toI, vws, vw, view, dview, frz, frzs, keep1, keeps, put, puts, prep1, prep, lend, giveBack, updR, isAl, isOl, isOwn, bindT, bindTs, fin, outs, outs1, bltR, isiR, tyN, lenR, absR, intR, lstR, valsR, tuplR, cmpR, idxR, slcR, binR, isNoneD, enc, b1, e0, forL, kidQ]
  | knot s bs =>
    simp only [wf, Bool.and_eq_true, decide_eq_true_eq] at hw
    have e : enc (.knot s bs) = .tuple (.str s :: bs.l.map enc) := by simp [enc, encs_map]
    have hf := for_fold (e := fun p : Bu × Nat => .int (p.2 : Nat)) (E := fun L x => [v, some (.od true kvs false), some (.ol L false), x, some (.d (rd r)), some (.d (enc (.knot s bs)))])
      (step := fun L p => L ++ [encQ (r ++ [p.2], p.1)]) (i := 3)
      (body := seqS (expF (mtwF .app 2 (consA (tupF (consA (binF .Add (varF 4) (tupF (consA (varF 3) nilA))) (consA (idxF (varF 5) (binF .Add (varF 3) (litF (.int 1)))) nilA))) nilA))) (fun σ => some (.nx, σ)))
      (P := fun L l => L.length + l.length ≤ 200000 ∧ ∀ p ∈ l, bs.l[p.2]? = some p.1) (fun L p l x hx hp => by
        obtain ⟨p1, p2⟩ := hp
        simp only [List.length_cons] at p1
        have a1 : L2.atI (.str s :: bs.l.map enc) ((p.2 : Int) + 1) = some (enc p.1) := atI_succ (by
          rw [List.getElem?_map, p2 p (List.mem_cons_self ..)]
          rfl)
        have l1 : L.length < LIM := by unfold LIM; omega
        have l2 : r.length + 1 ≤ LIM := by unfold LIM; omega
        have l3 : 2 ≤ LIM := by decide
        have l4 : 1 ≤ LIM := by decide
        refine ⟨rfl, rfl, ?_, ?_, fun q hq => p2 q (List.mem_cons_of_mem _ hq)⟩
        · rw [e]
          simp [callK, evS, evE, evA, evO, evI, seqS, retF, asgF, asgPF, asgMF, stiF, expF, iteF, forF, andF, orF, notF, ifeF, bltF, consA, nilA, varF, litF, tupF, lstF, dicF, binF, negF, cmpF, cmp2F, idxF, slcF, calF, mtwF, sclF, noO, someO, rngF, seqF, toB, toI, vws, vw, view, dview, frz, frzs, keep1, keeps, put, puts, prep1, prep, lend, giveBack, updR, isAl, isOl, isOwn, bindT, bindTs, fin, outs, outs1, bltR, isiR, tyN, lenR, absR, intR, lstR, valsR, tuplR, cmpR, idxR, slcR, binR, isNoneD, mthW, rd, a1, l1, l2, l3, l4, encQ]
        · simp only [List.length_append, List.length_cons, List.length_nil]; omega) bs.l.zipIdx L x3 h3 ⟨by simp; omega, fun p hp => by
          have := List.mem_zipIdx_iff_getElem?.mp hp
          exact this⟩
    obtain ⟨x, hx, hx2⟩ := hf
    refine ⟨x, ?_, hx2⟩
    have fe : ∀ (l : List (Bu × Nat)) (L : List D), l.foldl (fun L p => L ++ [encQ (r ++ [p.2], p.1)]) L = L ++ l.map fun p => encQ (r ++ [p.2], p.1) := by
      intro l
      induction l with
      | nil => intro L; simp
      | cons p l ih => intro L; simp [ih]
    rw [fe] at hx
    have e2 : (kidQ r (.knot s bs)).map encQ = bs.l.zipIdx.map fun p => encQ (r ++ [p.2], p.1) := by
      simp [kidQ, kidL_zip, Function.comp_def]
    have e3 : (bs.l.zipIdx.map fun p : Bu × Nat => PyData.int (p.2 : Nat)) = rngI 0 ((bs.l.length : Int)) := by
      have h := List.zipIdx_map_snd 0 bs.l
      have : (bs.l.zipIdx.map fun p : Bu × Nat => PyData.int (p.2 : Nat)) = (bs.l.zipIdx.map Prod.snd).map fun i : Nat => PyData.int (i : Nat) := by rw [List.map_map]; rfl
      rw [this, h]
      simp [rngI, List.range_eq_range']
    rw [e3] at hx
    rw [e2]
    have b1 : b62 (bs.l.length : Int) = true := b62_small (by omega) (by omega)
    have hi : rngF (consA (binF .Sub (bltF .len (consA (varF 5) nilA)) (litF (.int 1))) nilA) [v, some (.od true kvs false), some (.ol L false), x3, some (.d (rd r)), some (.d (enc (.knot s bs)))] = some (rngI 0 (bs.l.length : Int), [v, some (.od true kvs false), some (.ol L false), x3, some (.d (rd r)), some (.d (enc (.knot s bs)))]) := by
      rw [e]
      simp [callK, evS, evE, evA, evO, evI, seqS, retF, asgF, asgPF, asgMF, stiF, expF, iteF, forF, andF, orF, notF, ifeF, bltF, consA, nilA, varF, litF, tupF, lstF, dicF, binF, negF, cmpF, cmp2F, idxF, slcF, calF, mtwF, sclF, noO, someO, rngF, seqF, toB, toI, vws, vw, view, dview, frz, frzs, keep1, keeps, put, puts, prep1, prep, lend, giveBack, updR, isAl, isOl, isOwn, bindT, bindTs, fin, outs, outs1, bltR, isiR, tyN, lenR, absR, intR, lstR, valsR, tuplR, cmpR, idxR, slcR, binR, isNoneD, b1]
    simp only [forF, hi]
    exact hx
end TW
end

section
namespace TW
open PySem
def partC : En → Option (Bool × En) := fun s => toB (cmpF .NotEq (varF 2) (lstF nilA) s)
def EP (v : Option Rv) (acc st : List (Rd × Bu)) (x3 x4 x5 : Option Rv) : En := [v, some (.od true (acc.map kv) false), some (.ol (st.reverse.map encQ) false), x3, x4, x5]
theorem kidQ_pts (r : Rd) (b : Bu) : pts r b = (r, b) :: (kidQ r b).reverse.flatMap fun q => pts q.1 q.2 := by
  cases b with
  | tip => rfl
  | knot s bs => simp only [pts, kidQ, kidL_pts]
theorem kidL_mem (r : Rd) : ∀ (i : Nat) (bs : Bus), wfs bs = true → ∀ q ∈ kidL r i bs, wf q.2 = true ∧ q.1.length = r.length + 1 ∧ ht q.2 ≤ hts bs
  | _, .nil, _, q, h => by cases h
  | i, .cons b bs, w, q, h => by
    simp only [wfs, Bool.and_eq_true] at w
    simp only [kidL, List.mem_cons] at h
    simp only [hts]
    rcases h with rfl | h
    · exact ⟨w.1, by simp, by simp only; omega⟩
    · obtain ⟨h1, h2, h3⟩ := kidL_mem r (i + 1) bs w.2 q h
      exact ⟨h1, h2, by omega⟩
theorem kidQ_mem (r : Rd) (b : Bu) (w : wf b = true) : ∀ q ∈ kidQ r b, wf q.2 = true ∧ q.1.length + ht q.2 ≤ r.length + ht b := by
  cases b with
  | tip => intro q h; cases h
  | knot s bs =>
    intro q h
    simp only [wf, Bool.and_eq_true] at w
    obtain ⟨h1, h2, h3⟩ := kidL_mem r 0 bs w.2 q h
    simp only [ht]
    exact ⟨h1, by omega⟩
def flt (st : List (Rd × Bu)) : List (Rd × Bu) := st.flatMap fun q => pts q.1 q.2
theorem flt_len : ∀ st : List (Rd × Bu), st.length ≤ (flt st).length
  | [] => Nat.le_refl _
  | q :: st => by
    have h1 := flt_len st
    have h2 := kidQ_pts q.1 q.2
    simp only [flt, List.flatMap_cons, List.length_append, List.length_cons] at *
    rw [h2]
    simp only [List.length_cons]
    omega
theorem parts_body (c : Cl) (W : Nat) (v : Option Rv) (q : Rd × Bu) (st acc : List (Rd × Bu)) (x3 x4 x5 : Option Rv) (h3 : isOwn x3 = false) (h4 : isOwn x4 = false) (h5 : isOwn x5 = false)
    (hw : wf q.2 = true) (hr : q.1.length ≤ 100000) (ha : acc.length ≤ 100000) (hs : st.length ≤ 99990) (hn : q.1 ∉ acc.map (·.1)) :
    ∃ x, evS c W (match b20 with
      | .cons _ (.cons (.whl _ b) _) => b
      | _ => .nil) (EP v acc (q :: st) x3 x4 x5) = some (.nx, EP v (acc ++ [q]) ((kidQ q.1 q.2).reverse ++ st) x (some (.d (rd q.1))) (some (.d (enc q.2)))) ∧ isOwn x = false := by
  obtain ⟨x, hf, hx⟩ := kids_for c q.1 q.2 hw hr v ((acc ++ [q]).map kv) (st.reverse.map encQ) (by simp; omega) x3 h3
  refine ⟨x, ?_, hx⟩
  have p4 : ∀ z (l : List D), put 4 z [v, some (.od true (acc.map kv) false), some (.ol l false), x3, x4, x5] = some [v, some (.od true (acc.map kv) false), some (.ol l false), x3, some z, x5] := fun z l => put_free rfl h4
  have p5 : ∀ z w (l : List D), put 5 z [v, some (.od true (acc.map kv) false), some (.ol l false), x3, some w, x5] = some [v, some (.od true (acc.map kv) false), some (.ol l false), x3, some w, some z] := fun z w l => put_free rfl h5
  simp only [b20]
  refine (seq_nx (σ1 := [v, some (.od true (acc.map kv) false), some (.ol (st.reverse.map encQ) false), x3, some (.d (rd q.1)), some (.d (enc q.2))]) ?_).trans ?_
  · simp [EP, callK, evS, evE, evA, evO, evI, seqS, retF, asgF, asgPF, asgMF, stiF, expF, iteF, forF, andF, orF, notF, ifeF, bltF, consA, nilA, varF, litF, tupF, lstF, dicF, binF, negF, cmpF, cmp2F, idxF, slcF, calF, mtwF, sclF, noO, someO, rngF, seqF, toB, toI, vws, vw, view, dview, frz, frzs, keep1, keeps, puts, prep1, prep, lend, giveBack, updR, isAl, isOl, isOwn, bindT, bindTs, fin, outs, outs1, bltR, isiR, tyN, lenR, absR, intR, lstR, valsR, tuplR, cmpR, idxR, slcR, binR, isNoneD, mthW, encQ, p4, p5]
  refine (seq_nx (σ1 := [v, some (.od true ((acc ++ [q]).map kv) false), some (.ol (st.reverse.map encQ) false), x3, some (.d (rd q.1)), some (.d (enc q.2))]) ?_).trans ?_
  · have l1 : acc.length < LIM := by unfold LIM; omega
    have kp := kvPut_kv hn
    simp only [List.map_append, List.map_cons, List.map_nil] at kp
    simp [callK, evS, evE, evA, evO, evI, seqS, retF, asgF, asgPF, asgMF, stiF, expF, iteF, forF, andF, orF, notF, ifeF, bltF, consA, nilA, varF, litF, tupF, lstF, dicF, binF, negF, cmpF, cmp2F, idxF, slcF, calF, mtwF, sclF, noO, someO, rngF, seqF, toB, toI, vws, vw, view, dview, frz, frzs, keep1, keeps, puts, prep1, prep, lend, giveBack, updR, isAl, isOl, isOwn, bindT, bindTs, fin, outs, outs1, bltR, isiR, tyN, lenR, absR, intR, lstR, valsR, tuplR, cmpR, idxR, slcR, binR, isNoneD, isOwn, keyOk_rd, l1, kp]
  refine (seq_nx (σ1 := EP v (acc ++ [q]) ((kidQ q.1 q.2).reverse ++ st) x (some (.d (rd q.1))) (some (.d (enc q.2)))) ?_).trans rfl
  refine hf.trans ?_
  simp [EP]
theorem parts_loop (c : Cl) (W : Nat) (v : Option Rv) : ∀ (n : Nat) (st acc : List (Rd × Bu)) (x3 x4 x5 : Option Rv), isOwn x3 = false → isOwn x4 = false → isOwn x5 = false → (∀ q ∈ st, wf q.2 = true ∧ q.1.length + ht q.2 ≤ 10000) → acc.length + (flt st).length ≤ 10000 → ((acc ++ flt st).map (·.1)).Nodup → (flt st).length < n →
    ∃ y3 y4 y5, whlL partC (evS c W (match b20 with
      | .cons _ (.cons (.whl _ b) _) => b
      | _ => .nil)) n (EP v acc st x3 x4 x5) = some (.nx, EP v (acc ++ flt st) [] y3 y4 y5)
  | 0, st, acc, x3, x4, x5, _, _, _, _, _, _, hn => by omega
  | n + 1, [], acc, x3, x4, x5, h3, h4, h5, hs, hm, nd, hn => by
    have e : dpt (.list []) (.list []) = true := by decide
    refine ⟨x3, x4, x5, ?_⟩
    simp [whlL, partC, EP, flt, callK, evS, evE, evA, evO, evI, seqS, retF, asgF, asgPF, asgMF, stiF, expF, iteF, forF, andF, orF, notF, ifeF, bltF, consA, nilA, varF, litF, tupF, lstF, dicF, binF, negF, cmpF, cmp2F, idxF, slcF, calF, mtwF, sclF, noO, someO, rngF, seqF, toB, toI, vws, vw, view, dview, frz, frzs, keep1, keeps, put, puts, prep1, prep, lend, giveBack, updR, isAl, isOl, isOwn, bindT, bindTs, fin, outs, outs1, bltR, isiR, tyN, lenR, absR, intR, lstR, valsR, tuplR, cmpR, idxR, slcR, binR, isNoneD, e, PyData.eqv, PyData.eqvAll, LIM]
  | n + 1, q :: st, acc, x3, x4, x5, h3, h4, h5, hs, hm, nd, hn => by
    obtain ⟨hw, hd⟩ := hs q (List.mem_cons_self ..)
    have f0 : flt (q :: st) = q :: flt ((kidQ q.1 q.2).reverse ++ st) := by
      simp only [flt, List.flatMap_cons, List.flatMap_append]
      rw [kidQ_pts]
      rfl
    have fl := flt_len st
    have f1 : (flt st).length ≤ (flt ((kidQ q.1 q.2).reverse ++ st)).length := by
      simp only [flt, List.flatMap_append, List.length_append]
      omega
    rw [f0] at hm nd hn ⊢
    simp only [List.length_cons] at hm hn
    have hq : q.1 ∉ acc.map (·.1) := by
      simp only [List.map_append, List.map_cons] at nd
      have := (List.nodup_append.mp nd).2.2
      intro h
      exact this _ h _ (List.mem_cons_self ..) rfl
    obtain ⟨x, hb, hx⟩ := parts_body c W v q st acc x3 x4 x5 h3 h4 h5 hw (by omega) (by omega) (by omega) hq
    obtain ⟨y3, y4, y5, ih⟩ := parts_loop c W v n ((kidQ q.1 q.2).reverse ++ st) (acc ++ [q]) x (some (.d (rd q.1))) (some (.d (enc q.2))) hx rfl rfl (fun p hp => by
        rcases List.mem_append.mp hp with hp | hp
        · have := kidQ_mem q.1 q.2 hw p (List.mem_reverse.mp hp)
          exact ⟨this.1, by omega⟩
        · exact hs p (List.mem_cons_of_mem _ hp))
      (by simp only [List.length_append, List.length_cons, List.length_nil]; omega) (by simpa using nd) (by omega)
    refine ⟨y3, y4, y5, ?_⟩
    have hc : partC (EP v acc (q :: st) x3 x4 x5) = some (true, EP v acc (q :: st) x3 x4 x5) := by
      simp only [EP, List.reverse_cons, List.map_append, List.map_cons, List.map_nil]
      generalize st.reverse.map encQ = L
      have e : dpt (.list (L ++ [encQ q])) (.list []) = true := by
        unfold dpt
        simp [PyData.depth, PyData.depthAll]
      have ne : PyData.eqv (.list (L ++ [encQ q])) (.list []) = false := by
        cases L <;> simp [PyData.eqv, PyData.eqvAll]
      simp [partC, callK, evS, evE, evA, evO, evI, seqS, retF, asgF, asgPF, asgMF, stiF, expF, iteF, forF, andF, orF, notF, ifeF, bltF, consA, nilA, varF, litF, tupF, lstF, dicF, binF, negF, cmpF, cmp2F, idxF, slcF, calF, mtwF, sclF, noO, someO, rngF, seqF, toB, toI, vws, vw, view, dview, frz, frzs, keep1, keeps, put, puts, prep1, prep, lend, giveBack, updR, isAl, isOl, isOwn, bindT, bindTs, fin, outs, outs1, bltR, isiR, tyN, lenR, absR, intR, lstR, valsR, tuplR, cmpR, idxR, slcR, binR, isNoneD, e, ne, LIM]
    simp only [whlL, hc]
    rw [hb]
    simp only
    rw [ih]
    simp
theorem parts_ok (b : Bu) (hw : wf b = true) (hd : ht b ≤ 1000) (hc : cnt b ≤ 5000) (W k : Nat) (hW : 6000 ≤ W) (hk : 0 < k) : callK FsT W k 20 [.d (enc b)] = some (.fd true ((pts [] b).map kv), [.d (enc b)]) := by
  obtain ⟨j, rfl⟩ : ∃ j, k = j + 1 := ⟨k - 1, by omega⟩
  have f1 : flt [([], b)] = pts [] b := by simp [flt]
  have pl := pts_len [] b
  obtain ⟨x3, x4, x5, hs⟩ := parts_loop (callK FsT W j) W (some (.d (enc b))) W [([], b)] [] none none none rfl rfl rfl (fun q hq => by
    simp at hq; subst hq; exact ⟨hw, by simp; omega⟩) (by rw [f1, pl]; simp; omega) (by rw [f1]; simpa using nodup_pts [] b) (by rw [f1, pl]; omega)
  rw [f1] at hs
  have e1 : evS (callK FsT W j) W b20 [some (.d (enc b)), none, none, none, none, none] = some (.ret (.al 1), EP (some (.d (enc b))) (pts [] b) [] x3 x4 x5) := by
    refine (seq_nx (σ1 := EP (some (.d (enc b))) [] [([], b)] none none none) ?_).trans ?_
    · simp [callK, evS, evE, evA, evO, evI, seqS, retF, asgF, asgPF, asgMF, stiF, expF, iteF, forF, andF, orF, notF, ifeF, bltF, consA, nilA, varF, litF, tupF, lstF, dicF, binF, negF, cmpF, cmp2F, idxF, slcF, calF, mtwF, sclF, noO, someO, rngF, seqF, toB, toI, vws, vw, view, dview, frz, frzs, keep1, keeps, put, puts, prep1, prep, lend, giveBack, updR, isAl, isOl, isOwn, bindT, bindTs, fin, outs, outs1, bltR, isiR, tyN, lenR, absR, intR, lstR, valsR, tuplR, cmpR, idxR, slcR, binR, isNoneD, LIM, EP, encQ, rd]
    · refine (seq_nx (σ1 := EP (some (.d (enc b))) (pts [] b) [] x3 x4 x5) hs).trans ?_
      simp [callK, evS, evE, evA, evO, evI, seqS, retF, asgF, asgPF, asgMF, stiF, expF, iteF, forF, andF, orF, notF, ifeF, bltF, consA, nilA, varF, litF, tupF, lstF, dicF, binF, negF, cmpF, cmp2F, idxF, slcF, calF, mtwF, sclF, noO, someO, rngF, seqF, toB, toI, vws, vw, view, dview, frz, frzs, keep1, keeps, put, puts, prep1, prep, lend, giveBack, updR, isAl, isOl, isOwn, bindT, bindTs, fin, outs, outs1, bltR, isiR, tyN, lenR, absR, intR, lstR, valsR, tuplR, cmpR, idxR, slcR, binR, isNoneD, EP]
  rw [call_ret (fd := f20) rfl rfl e1 rfl, outs_d1]
end TW
end

section
namespace TW
open PySem
open PySem.W
/-! ### tips in order -/
theorem alike_ints : ∀ a b : Rd, alikeAll (a.map fun i => .int (i : Nat)) (b.map fun i => .int (i : Nat)) = true
  | [], [] => by simp [alikeAll]
  | [], y :: b => by simp [alikeAll]
  | x :: a, [] => by simp [alikeAll]
  | x :: a, y :: b => by simp [alikeAll, alike, alike_ints a b]
theorem alike_rd (a b : Rd) : alike (rd a) (rd b) = true := by simp [rd, alike, alike_ints]
theorem depth_ints : ∀ a : Rd, PyData.depthAll (a.map fun i => .int (i : Nat)) ≤ 10
  | [] => by simp [PyData.depthAll]
  | x :: a => by
    have := depth_ints a
    simp only [List.map_cons, PyData.depthAll, PyData.depth]
    omega
theorem depth_rd (a : Rd) : (rd a).depth ≤ 150 := by
  have := depth_ints a
  simp only [rd, PyData.depth]
  omega
theorem lt_cast : ∀ a b : Rd, ((a.map fun i : Nat => (i : Int)) < (b.map fun i : Nat => (i : Int))) ↔ a < b
  | [], [] => by simp
  | [], y :: b => by simp
  | x :: a, [] => by simp
  | x :: a, y :: b => by
    simp only [List.map_cons, List.cons_lt_cons_iff, lt_cast a b, Int.ofNat_lt, Int.ofNat_inj]
theorem dataB_rd (a b : Rd) : dataB (rd a) (rd b) = !decide (b < a) := by
  have h := dataLt_ints (b.map fun i : Nat => (i : Int)) (a.map fun i : Nat => (i : Int))
  simp only [List.map_map] at h
  have e : ∀ r : Rd, r.map ((PyData.int) ∘ fun i : Nat => (i : Int)) = r.map fun i => .int (i : Nat) := fun r => rfl
  rw [e, e] at h
  simp only [dataB, rd, dataLt_tuple]
  unfold rowLt at h
  rw [h]
  simp only [lt_cast]
theorem srtOk_rd (l : List Rd) : srtOk (l.map rd) = true := by
  have h1 : alikeAny (l.map rd) = true := by
    unfold alikeAny
    rw [List.all_eq_true]
    intro x hx
    obtain ⟨a, _, rfl⟩ := List.mem_map.mp hx
    rw [List.all_eq_true]
    intro y hy
    obtain ⟨b, _, rfl⟩ := List.mem_map.mp hy
    exact alike_rd a b
  have h2 : (l.map rd).all (fun x => decide (x.depth ≤ 150)) = true := by
    rw [List.all_eq_true]
    intro x hx
    obtain ⟨a, _, rfl⟩ := List.mem_map.mp hx
    exact decide_eq_true (depth_rd a)
  have h3 : (l.map rd).all (fun x => match x with
  | .tuple _ => true
  | _ => false) = true := by
    rw [List.all_eq_true]
    intro x hx
    obtain ⟨a, _, rfl⟩ := List.mem_map.mp hx
    rfl
  unfold srtOk
  rw [h1, h2]
  simp only [Bool.true_and, Bool.or_eq_true]
  exact .inl h3
theorem sort_kv (b : Bu) : (((pts [] b).map kv).map (·.1)).mergeSort dataB = (pre [] b).map fun q => rd q.1 := by
  have e : ((pts [] b).map kv).map (·.1) = ((pts [] b).map (·.1)).map rd := by
    simp [kv, Function.comp_def]
  rw [e, ← List.map_mergeSort (r := fun x y => !decide (y < x)) (fun a _ b _ => (dataB_rd a b).symm), sort_pts, List.map_map]
  rfl
theorem srt_kv (b : Bu) : srtR [.di true ((pts [] b).map kv)] = some (.fl ((pre [] b).map fun q => rd q.1)) := by
  have e : ((pts [] b).map kv).map (·.1) = ((pts [] b).map (·.1)).map rd := by
    simp [kv, Function.comp_def]
  simp only [srtR, sort_kv]
  rw [e, srtOk_rd]
  rfl
theorem tipsr_ok (b : Bu) (hw : wf b = true) (hd : ht b ≤ 1000) (hc : cnt b ≤ 5000) (W k : Nat) (hW : 6000 ≤ W) (hk : 1 < k) : callK FsT W k 24 [.d (enc b)] = some (.fl ((tpR b).map rd), [.d (enc b)]) := by
  obtain ⟨j, rfl⟩ : ∃ j, k = j + 1 := ⟨k - 1, by omega⟩
  have h1 := parts_ok b hw hd hc W j hW (by omega)
  have hs := srt_kv b
  generalize hkv : (pts [] b).map kv = K at h1 hs
  have pl : (pre [] b).length ≤ LIM := by
    rw [← (pts_perm [] b).length_eq, pts_len]
    unfold LIM
    omega
  have lc := lc_pure (σ := [some (.d (enc b)), some (.od true K false), none]) (i := 2) (l := pre [] b) (e := fun q => rd q.1) (t := fun q => isTip q.2) (g := fun q => rd q.1)
    (it := seqF (bltF .srt (consA (varF 1) nilA))) (ft := cmpF .Eq (idxF (varF 1) (varF 2)) (tupF nilA)) (fe := varF 2) (by simp) (by simp [isOwn]) (by simp [callK, evS, evE, evA, evO, evI, seqS, retF, asgF, asgPF, asgMF, stiF, expF, iteF, forF, andF, orF, notF, ifeF, bltF, consA, nilA, varF, litF, tupF, lstF, dicF, binF, negF, cmpF, cmp2F, idxF, slcF, calF, mtwF, sclF, noO, someO, rngF, seqF, toB, toI, vws, vw, view, dview, frz, frzs, keep1, keeps, put, puts, prep1, prep, lend, giveBack, updR, isAl, isOl, isOwn, bindT, bindTs, fin, outs, outs1, bltR, isiR, tyN, lenR, absR, intR, lstR, valsR, tuplR, cmpR, idxR, slcR, binR, isNoneD, hs]) pl (fun q hq => by
      have hm : q ∈ pts [] b := (pts_perm [] b).mem_iff.mpr hq
      have hg := kvGet_kv hm (nodup_pts [] b)
      rw [hkv] at hg
      simp [callK, evS, evE, evA, evO, evI, seqS, retF, asgF, asgPF, asgMF, stiF, expF, iteF, forF, andF, orF, notF, ifeF, bltF, consA, nilA, varF, litF, tupF, lstF, dicF, binF, negF, cmpF, cmp2F, idxF, slcF, calF, mtwF, sclF, noO, someO, rngF, seqF, toB, toI, vws, vw, view, dview, frz, frzs, keep1, keeps, put, puts, prep1, prep, lend, giveBack, updR, isAl, isOl, isOwn, bindT, bindTs, fin, outs, outs1, bltR, isiR, tyN, lenR, absR, intR, lstR, valsR, tuplR, cmpR, idxR, slcR, binR, isNoneD, keyOk_rd, hg, dpt_nil, eqv_enc_tip, LIM]) (fun q hq _ => by simp [callK, evS, evE, evA, evO, evI, seqS, retF, asgF, asgPF, asgMF, stiF, expF, iteF, forF, andF, orF, notF, ifeF, bltF, consA, nilA, varF, litF, tupF, lstF, dicF, binF, negF, cmpF, cmp2F, idxF, slcF, calF, mtwF, sclF, noO, someO, rngF, seqF, toB, toI, vws, vw, view, dview, frz, frzs, keep1, keeps, put, puts, prep1, prep, lend, giveBack, updR, isAl, isOl, isOwn, bindT, bindTs, fin, outs, outs1, bltR, isiR, tyN, lenR, absR, intR, lstR, valsR, tuplR, cmpR, idxR, slcR, binR, isNoneD])
  have e : ((pre [] b).filter fun q => isTip q.2).map (fun q => rd q.1) = (tpR b).map rd := by
    have := congrArg (List.map rd) (pre_tips [] b)
    simpa [Function.comp_def] using this
  rw [e] at lc
  simp [FsT, f24, b24, callK, evS, evE, evA, evO, evI, seqS, retF, asgF, asgPF, asgMF, stiF, expF, iteF, forF, andF, orF, notF, ifeF, bltF, consA, nilA, varF, litF, tupF, lstF, dicF, binF, negF, cmpF, cmp2F, idxF, slcF, calF, mtwF, sclF, noO, someO, rngF, seqF, toB, toI, vws, vw, view, dview, frz, frzs, keep1, keeps, put, puts, prep1, prep, lend, giveBack, updR, isAl, isOl, isOwn, bindT, bindTs, fin, outs, outs1, bltR, isiR, tyN, lenR, absR, intR, lstR, valsR, tuplR, cmpR, idxR, slcR, binR, isNoneD, h1, lc]
theorem knots_ok (b : Bu) (hw : wf b = true) (hd : ht b ≤ 1000) (hc : cnt b ≤ 5000) (W k : Nat) (hW : 6000 ≤ W) (hk : 1 < k) : callK FsT W k 40 [.d (enc b)] = some (.d (.int (kn b)), [.d (enc b)]) := by
  obtain ⟨j, rfl⟩ : ∃ j, k = j + 1 := ⟨k - 1, by omega⟩
  have h1 := parts_ok b hw hd hc W j hW (by omega)
  have pl : (pts [] b).length ≤ LIM := by
    rw [pts_len]
    unfold LIM
    omega
  have lc := lc_pure (σ := [some (.d (enc b)), none]) (i := 1) (l := pts [] b) (e := fun q => enc q.2) (t := fun q => !isTip q.2) (g := fun q => enc q.2)
    (it := seqF (bltF .vals (consA (calF (callK FsT W j) 20 [false] (consA (varF 0) nilA)) nilA))) (ft := cmpF .NotEq (varF 1) (tupF nilA)) (fe := varF 1) (by simp) (by simp [isOwn]) (by simp [callK, evS, evE, evA, evO, evI, seqS, retF, asgF, asgPF, asgMF, stiF, expF, iteF, forF, andF, orF, notF, ifeF, bltF, consA, nilA, varF, litF, tupF, lstF, dicF, binF, negF, cmpF, cmp2F, idxF, slcF, calF, mtwF, sclF, noO, someO, rngF, seqF, toB, toI, vws, vw, view, dview, frz, frzs, keep1, keeps, put, puts, prep1, prep, lend, giveBack, updR, isAl, isOl, isOwn, bindT, bindTs, fin, outs, outs1, bltR, isiR, tyN, lenR, absR, intR, lstR, valsR, tuplR, cmpR, idxR, slcR, binR, isNoneD, h1, kv, Function.comp_def]) pl (fun q hq => by
      simp [callK, evS, evE, evA, evO, evI, seqS, retF, asgF, asgPF, asgMF, stiF, expF, iteF, forF, andF, orF, notF, ifeF, bltF, consA, nilA, varF, litF, tupF, lstF, dicF, binF, negF, cmpF, cmp2F, idxF, slcF, calF, mtwF, sclF, noO, someO, rngF, seqF, toB, toI, vws, vw, view, dview, frz, frzs, keep1, keeps, put, puts, prep1, prep, lend, giveBack, updR, isAl, isOl, isOwn, bindT, bindTs, fin, outs, outs1, bltR, isiR, tyN, lenR, absR, intR, lstR, valsR, tuplR, cmpR, idxR, slcR, binR, isNoneD, dpt_nil, eqv_enc_tip, LIM]) (fun q hq _ => by simp [callK, evS, evE, evA, evO, evI, seqS, retF, asgF, asgPF, asgMF, stiF, expF, iteF, forF, andF, orF, notF, ifeF, bltF, consA, nilA, varF, litF, tupF, lstF, dicF, binF, negF, cmpF, cmp2F, idxF, slcF, calF, mtwF, sclF, noO, someO, rngF, seqF, toB, toI, vws, vw, view, dview, frz, frzs, keep1, keeps, put, puts, prep1, prep, lend, giveBack, updR, isAl, isOl, isOwn, bindT, bindTs, fin, outs, outs1, bltR, isiR, tyN, lenR, absR, intR, lstR, valsR, tuplR, cmpR, idxR, slcR, binR, isNoneD])
  have e : (((pts [] b).filter fun q => !isTip q.2).map fun q => enc q.2).length = kn b := by
    rw [List.length_map, pts_kn]
  simp [FsT, f40, b40, callK, evS, evE, evA, evO, evI, seqS, retF, asgF, asgPF, asgMF, stiF, expF, iteF, forF, andF, orF, notF, ifeF, bltF, consA, nilA, varF, litF, tupF, lstF, dicF, binF, negF, cmpF, cmp2F, idxF, slcF, calF, mtwF, sclF, noO, someO, rngF, seqF, toB, toI, vws, vw, view, dview, frz, frzs, keep1, keeps, put, puts, prep1, prep, lend, giveBack, updR, isAl, isOl, isOwn, bindT, bindTs, fin, outs, outs1, bltR, isiR, tyN, lenR, absR, intR, lstR, valsR, tuplR, cmpR, idxR, slcR, binR, isNoneD, lc]
  rw [List.length_map] at e
  rw [e]
def dlD (b : Bu) : List D := (dl b).map fun n => .int (n : Nat)
theorem depths_ok (b : Bu) (hw : wf b = true) (hd : ht b ≤ 1000) (hc : cnt b ≤ 5000) (W k : Nat) (hW : 6000 ≤ W) (hk : 2 < k) : callK FsT W k 39 [.d (enc b)] = some (.fl (dlD b), [.d (enc b)]) := by
  obtain ⟨j, rfl⟩ : ∃ j, k = j + 1 := ⟨k - 1, by omega⟩
  have h1 := tipsr_ok b hw hd hc W j hW (by omega)
  have tl : (tpR b).length ≤ LIM := by
    rw [tpR_len]
    simp only [cnt] at hc
    unfold LIM
    omega
  have lc := lc_map (σ := [some (.d (enc b)), none]) (i := 1) (l := tpR b) (e := rd) (g := fun r => .int (r.length : Nat)) (fe := bltF .len (consA (varF 1) nilA)) (it := seqF (calF (callK FsT W j) 24 [false] (consA (varF 0) nilA)))
    (by simp) (by simp [isOwn]) (by simp [callK, evS, evE, evA, evO, evI, seqS, retF, asgF, asgPF, asgMF, stiF, expF, iteF, forF, andF, orF, notF, ifeF, bltF, consA, nilA, varF, litF, tupF, lstF, dicF, binF, negF, cmpF, cmp2F, idxF, slcF, calF, mtwF, sclF, noO, someO, rngF, seqF, toB, toI, vws, vw, view, dview, frz, frzs, keep1, keeps, put, puts, prep1, prep, lend, giveBack, updR, isAl, isOl, isOwn, bindT, bindTs, fin, outs, outs1, bltR, isiR, tyN, lenR, absR, intR, lstR, valsR, tuplR, cmpR, idxR, slcR, binR, isNoneD, h1]) tl fun r hr => by
      simp [callK, evS, evE, evA, evO, evI, seqS, retF, asgF, asgPF, asgMF, stiF, expF, iteF, forF, andF, orF, notF, ifeF, bltF, consA, nilA, varF, litF, tupF, lstF, dicF, binF, negF, cmpF, cmp2F, idxF, slcF, calF, mtwF, sclF, noO, someO, rngF, seqF, toB, toI, vws, vw, view, dview, frz, frzs, keep1, keeps, put, puts, prep1, prep, lend, giveBack, updR, isAl, isOl, isOwn, bindT, bindTs, fin, outs, outs1, bltR, isiR, tyN, lenR, absR, intR, lstR, valsR, tuplR, cmpR, idxR, slcR, binR, isNoneD, rd]
  simp [FsT, f39, b39, callK, evS, evE, evA, evO, evI, seqS, retF, asgF, asgPF, asgMF, stiF, expF, iteF, forF, andF, orF, notF, ifeF, bltF, consA, nilA, varF, litF, tupF, lstF, dicF, binF, negF, cmpF, cmp2F, idxF, slcF, calF, mtwF, sclF, noO, someO, rngF, seqF, toB, toI, vws, vw, view, dview, frz, frzs, keep1, keeps, put, puts, prep1, prep, lend, giveBack, updR, isAl, isOl, isOwn, bindT, bindTs, fin, outs, outs1, bltR, isiR, tyN, lenR, absR, intR, lstR, valsR, tuplR, cmpR, idxR, slcR, binR, isNoneD, lc, dlD, dl, Function.comp_def]
end TW
end

section
namespace TW
open PySem
def mn (b : Bu) : Int := match dl b with
  | [] => 0
  | n :: ns => minI n (ns.map fun i : Nat => (i : Int))
theorem maxI_mx : ∀ (l : List Nat) (n : Nat), maxI n (l.map fun i : Nat => (i : Int)) = (mx (n :: l) : Nat)
  | [], n => by simp [maxI, mx]
  | k :: l, n => by
    have e : (if (n : Int) < (k : Nat) then ((k : Nat) : Int) else (n : Int)) = ((max n k : Nat) : Int) := by
      split <;> omega
    simp only [List.map_cons, maxI, e, maxI_mx l, mx]
    congr 1
    omega
theorem intL_dl (b : Bu) : intL (dlD b) = some ((dl b).map fun i : Nat => (i : Int)) := intL_map _ _
theorem dl_ne {b : Bu} (h : wf b = true) : ∃ n ns, dl b = n :: ns := by
  have := tpR_ne b h
  cases e : dl b with
  | nil => simp [dl, this] at e
  | cons n ns => exact ⟨n, ns, rfl⟩
theorem min_dl {b : Bu} (h : wf b = true) : minR [.d (.list (dlD b))] = some (.d (.int (mn b))) := by
  obtain ⟨n, ns, e⟩ := dl_ne h
  simp [minR, intL_dl, mn, e]
theorem max_dl {b : Bu} (h : wf b = true) : maxR [.d (.list (dlD b))] = some (.d (.int (ht b))) := by
  obtain ⟨n, ns, e⟩ := dl_ne h
  have m := dl_mx b h
  simp only [maxR, intL_dl, e, List.map_cons, maxI_mx] at *
  rw [m]
theorem len_dl (b : Bu) : (dlD b).length = tp b := by simp [dlD, dl, tpR_len]
theorem put_own {i : Nat} {v : Rv} {σ : En} {o : Option Bu} {f : Bu → List D} (h : σ[i]? = some (o.map fun g => .ol (f g) false)) : put i v σ = some (σ.set i (some v)) := by
  unfold put
  rw [h]
  cases o <;> rfl
theorem mulOk_nat2 {a b : Nat} (h : b < 18446744073709551616) : mulOk (a : Int) (b : Int) = true := by
  unfold mulOk
  simp [h]
def F3 (acc : List Bu) : M3 := acc.foldl mstep (mof .tip)
def NR (acc : List Bu) : Int := acc.foldl (fun n g => n + mn g) 0
theorem sizes_ok (gs : List Bu) (h : ∀ g ∈ gs, wf g = true ∧ ht g ≤ 1000 ∧ cnt g ≤ 5000) (W k : Nat) (hW : 6000 ≤ W) (hk : 3 < k) : callK FsT W k 41 [.d (.tuple (gs.map enc))] = some (.d (.tuple [.int (F3 gs).1, .int (F3 gs).2.1, .int (NR gs), .int (F3 gs).2.2]), [.d (.tuple (gs.map enc))]) := by
  obtain ⟨j, rfl⟩ : ∃ j, k = j + 1 := ⟨k - 1, by omega⟩
  have hf := for_fold (e := enc) (E := fun acc x => [some (.d (.tuple (gs.map enc))), x, some (.d (.int (F3 acc).1)), some (.d (.int (F3 acc).2.1)), some (.d (.int (NR acc))), some (.d (.int (F3 acc).2.2)), acc.getLast?.map fun g => .ol (dlD g) false]) (step := fun acc g => acc ++ [g])
    (body := evS (callK FsT W j) W (match b41 with
      | .cons _ (.cons (.for _ _ b) _) => b
      | _ => .nil)) (i := 1)
    (P := fun acc l => ∀ g ∈ l, wf g = true ∧ ht g ≤ 1000 ∧ cnt g ≤ 5000) (fun acc g l x hx hp => by
      obtain ⟨w, h1, h2⟩ := hp g (List.mem_cons_self ..)
      refine ⟨rfl, rfl, ?_, fun y hy => hp y (List.mem_cons_of_mem _ hy)⟩
      have d1 := depths_ok g w h1 h2 W j hW (by omega)
      have d2 := knots_ok g w h1 h2 W j hW (by omega)
      have q1 : mulOk ((F3 acc).2.1 : Nat) (kn g : Nat) = true := mulOk_nat2 (by simp only [cnt] at h2; omega)
      have q2 : mulOk ((F3 acc).2.1 : Nat) (tp g : Nat) = true := mulOk_nat2 (by simp only [cnt] at h2; omega)
      have p6 : ∀ z (u0 u1 u2 u3 u4 u5 : Option Rv), put 6 z [u0, u1, u2, u3, u4, u5, acc.getLast?.map fun g => .ol (dlD g) false] = some [u0, u1, u2, u3, u4, u5, some z] := fun z u0 u1 u2 u3 u4 u5 => put_own rfl
      have pp : ∀ (i : Nat) z (u0 u1 u2 u3 u4 u5 : D) (l : List D), i < 6 → put i (.d z) [some (.d u0), some (.d u1), some (.d u2), some (.d u3), some (.d u4), some (.d u5), some (.ol l false)] = some ([some (.d u0), some (.d u1), some (.d u2), some (.d u3), some (.d u4), some (.d u5), some (.ol l false)].set i (some (.d z))) := fun i z u0 u1 u2 u3 u4 u5 l hi => by
        match i, hi with
        | 0, _ => rfl
        | 1, _ => rfl
        | 2, _ => rfl
        | 3, _ => rfl
        | 4, _ => rfl
        | 5, _ => rfl
      have f1 : F3 (acc ++ [g]) = mstep (F3 acc) g := by simp [F3, List.foldl_append]
      have f2 : NR (acc ++ [g]) = NR acc + mn g := by simp [NR, List.foldl_append]
      rw [f1, f2]
      simp only [b41]
      simp [callK, evS, evE, evA, evO, evI, seqS, retF, asgF, asgPF, asgMF, stiF, expF, iteF, forF, andF, orF, notF, ifeF, bltF, consA, nilA, varF, litF, tupF, lstF, dicF, binF, negF, cmpF, cmp2F, idxF, slcF, calF, mtwF, sclF, noO, someO, rngF, seqF, toB, toI, vws, vw, view, dview, frz, frzs, keep1, keeps, puts, prep1, prep, lend, giveBack, updR, isAl, isOl, isOwn, bindT, bindTs, fin, outs, outs1, bltR, isiR, tyN, lenR, absR, intR, lstR, valsR, tuplR, cmpR, idxR, slcR, binR, isNoneD, d1, d2, p6, pp, len_dl, q1, q2, min_dl w, max_dl w, mstep]) gs [] none rfl h
  obtain ⟨x, hx, hx2⟩ := hf
  have fe : ∀ (l acc : List Bu), l.foldl (fun acc g => acc ++ [g]) acc = acc ++ l := fun l => by
    induction l with
    | nil => intro acc; simp
    | cons a l ih => intro acc; simp [ih]
  rw [fe, List.nil_append] at hx
  have e1 : evS (callK FsT W j) W b41 [some (.d (.tuple (gs.map enc))), none, none, none, none, none, none] = some (.ret (.d (.tuple [.int (F3 gs).1, .int (F3 gs).2.1, .int (NR gs), .int (F3 gs).2.2])), [some (.d (.tuple (gs.map enc))), x, some (.d (.int (F3 gs).1)), some (.d (.int (F3 gs).2.1)), some (.d (.int (NR gs))), some (.d (.int (F3 gs).2.2)), gs.getLast?.map fun g => .ol (dlD g) false]) := by
    refine (seq_nx (σ1 := [some (.d (.tuple (gs.map enc))), none, some (.d (.int 0)), some (.d (.int 1)), some (.d (.int 0)), some (.d (.int 0)), none]) ?_).trans ?_
    · simp [callK, evS, evE, evA, evO, evI, seqS, retF, asgF, asgPF, asgMF, stiF, expF, iteF, forF, andF, orF, notF, ifeF, bltF, consA, nilA, varF, litF, tupF, lstF, dicF, binF, negF, cmpF, cmp2F, idxF, slcF, calF, mtwF, sclF, noO, someO, rngF, seqF, toB, toI, vws, vw, view, dview, frz, frzs, keep1, keeps, put, puts, prep1, prep, lend, giveBack, updR, isAl, isOl, isOwn, bindT, bindTs, fin, outs, outs1, bltR, isiR, tyN, lenR, absR, intR, lstR, valsR, tuplR, cmpR, idxR, slcR, binR, isNoneD, LIM]
    · refine (seq_nx (σ1 := [some (.d (.tuple (gs.map enc))), x, some (.d (.int (F3 gs).1)), some (.d (.int (F3 gs).2.1)), some (.d (.int (NR gs))), some (.d (.int (F3 gs).2.2)), gs.getLast?.map fun g => .ol (dlD g) false]) ?_).trans ?_
      · simp only [b41, evS, evI, forF, evE]
        have hi : seqF (varF 0) [some (.d (.tuple (gs.map enc))), none, some (.d (.int 0)), some (.d (.int 1)), some (.d (.int 0)), some (.d (.int 0)), none] = some (gs.map enc, [some (.d (.tuple (gs.map enc))), none, some (.d (.int 0)), some (.d (.int 1)), some (.d (.int 0)), some (.d (.int 0)), none]) := by simp [callK, evS, evE, evA, evO, evI, seqS, retF, asgF, asgPF, asgMF, stiF, expF, iteF, forF, andF, orF, notF, ifeF, bltF, consA, nilA, varF, litF, tupF, lstF, dicF, binF, negF, cmpF, cmp2F, idxF, slcF, calF, mtwF, sclF, noO, someO, rngF, seqF, toB, toI, vws, vw, view, dview, frz, frzs, keep1, keeps, put, puts, prep1, prep, lend, giveBack, updR, isAl, isOl, isOwn, bindT, bindTs, fin, outs, outs1, bltR, isiR, tyN, lenR, absR, intR, lstR, valsR, tuplR, cmpR, idxR, slcR, binR, isNoneD]
        rw [hi]
        exact hx
      · simp [callK, evS, evE, evA, evO, evI, seqS, retF, asgF, asgPF, asgMF, stiF, expF, iteF, forF, andF, orF, notF, ifeF, bltF, consA, nilA, varF, litF, tupF, lstF, dicF, binF, negF, cmpF, cmp2F, idxF, slcF, calF, mtwF, sclF, noO, someO, rngF, seqF, toB, toI, vws, vw, view, dview, frz, frzs, keep1, keeps, put, puts, prep1, prep, lend, giveBack, updR, isAl, isOl, isOwn, bindT, bindTs, fin, outs, outs1, bltR, isiR, tyN, lenR, absR, intR, lstR, valsR, tuplR, cmpR, idxR, slcR, binR, isNoneD, LIM]
  rw [call_ret (fd := f41) rfl rfl e1 rfl, outs_d1]
end TW
end

section
namespace TW
open PySem
theorem cut_to {α : Type} {xs : List α} {n : Nat} (h : n ≤ xs.length) : cut xs none (some (n : Int)) = xs.take n := by
  unfold cut
  rw [HT.sIx_nat, HT.sIx_none, Nat.min_eq_left h]
  simp
theorem cut_from {α : Type} {xs : List α} {n : Nat} (h : n ≤ xs.length) : cut xs (some (n : Int)) none = xs.drop n := by
  unfold cut
  rw [HT.sIx_nat, HT.sIx_none, Nat.min_eq_left h]
  rw [List.take_of_length_le (by simp)]
theorem put_ok {g : Bu} (hg : wf g = true) : ∀ {r : Rd} {b b' : Bu} (hw : wf b = true) (h : pu g r b = some b') (W k : Nat) (hk : r.length < k), callK FsT W k 34 [.d (enc b), .d (rd r), .d (enc g)] = some (.d (enc b'), [.d (enc b), .d (rd r), .d (enc g)])
  | [], b, b', hw, h, W, k, hk => by
    obtain ⟨j, rfl⟩ : ∃ j, k = j + 1 := ⟨k - 1, by omega⟩
    have e : b' = g := by cases b <;> (simp only [pu, Option.some.injEq] at h; exact h.symm)
    subst e
    have e1 : PyData.eqv (rd []) (.tuple []) = true := by simp [rd, PyData.eqv, PyData.eqvAll]
    simp [FsT, f34, b34, callK, evS, evE, evA, evO, evI, seqS, retF, asgF, asgPF, asgMF, stiF, expF, iteF, forF, andF, orF, notF, ifeF, bltF, consA, nilA, varF, litF, tupF, lstF, dicF, binF, negF, cmpF, cmp2F, idxF, slcF, calF, mtwF, sclF, noO, someO, rngF, seqF, toB, toI, vws, vw, view, dview, frz, frzs, keep1, keeps, put, puts, prep1, prep, lend, giveBack, updR, isAl, isOl, isOwn, bindT, bindTs, fin, outs, outs1, bltR, isiR, tyN, lenR, absR, intR, lstR, valsR, tuplR, cmpR, idxR, slcR, binR, isNoneD, e1, dpt_nil, LIM]
  | i :: r, .tip, b', hw, h, W, k, hk => by simp [pu] at h
  | i :: r, .knot s bs, b', hw, h, W, k, hk => by
    obtain ⟨j, rfl⟩ : ∃ j, k = j + 1 := ⟨k - 1, by omega⟩
    simp only [wf, Bool.and_eq_true, decide_eq_true_eq] at hw
    simp only [pu] at h
    cases e : bs.l[i]? with
    | none => rw [e] at h; cases h
    | some b =>
      rw [e] at h
      cases q : pu g r b with
      | none => simp [q] at h
      | some c =>
        simp only [q, Option.map_some, Option.some.injEq] at h
        subst h
        have ih := put_ok hg (wfs_at hw.2 e) q W j (by simp only [List.length_cons] at hk; omega)
        have il := (List.getElem?_eq_some_iff.mp e).1
        have ee : enc (.knot s bs) = .tuple (.str s :: bs.l.map enc) := by simp [enc, encs_map]
        have er : rd (i :: r) = .tuple (.int (i : Nat) :: r.map fun i => .int (i : Nat)) := rfl
        have er2 : rd r = .tuple (r.map fun i => .int (i : Nat)) := rfl
        have e1 : PyData.eqv (.tuple (.int (i : Nat) :: r.map fun i => .int (i : Nat))) (.tuple []) = false := by simp [PyData.eqv, PyData.eqvAll]
        have a0 : L2.atI (PyData.int (i : Nat) :: r.map fun i => .int (i : Nat)) 0 = some (.int (i : Nat)) := by simp [L2.atI, L2.ixN]
        have a1 : L2.atI (.str s :: bs.l.map enc) ((i : Int) + 1) = some (enc b) := atI_succ (by
          rw [List.getElem?_map, e]
          rfl)
        have c1 : cut (.str s :: bs.l.map enc) none (some ((i : Int) + 1)) = .str s :: (bs.l.map enc).take i := by
          have := cut_to (xs := PyData.str s :: bs.l.map enc) (n := i + 1) (by simp; omega)
          simpa using this
        have c2 : cut (.str s :: bs.l.map enc) (some ((i : Int) + 1 + 1)) none = (bs.l.map enc).drop (i + 1) := by
          have := cut_from (xs := PyData.str s :: bs.l.map enc) (n := i + 1 + 1) (by simp; omega)
          simpa using this
        have er3 : enc (.knot s (bs.set i c)) = .tuple ((.str s :: (bs.l.map enc).take i ++ [enc c]) ++ (bs.l.map enc).drop (i + 1)) := by
          simp only [enc, encs_map, Bus.l_set, List.map_set]
          rw [List.set_eq_take_append_cons_drop, if_pos (by simpa using il)]
          simp
        have l1 : ((bs.l.map enc).take i).length ≤ 6 := by simp; omega
        have l2 : ((bs.l.map enc).drop (i + 1)).length ≤ 6 := by simp; omega
        rw [ee, er3, er]
        rw [er2] at ih
        generalize hT : (bs.l.map enc).take i = T at *
        generalize hD : (bs.l.map enc).drop (i + 1) = Dd at *
        have l3 : T.length + 1 + 1 ≤ LIM := by unfold LIM; omega
        have l4 : T.length + 1 + 1 + Dd.length ≤ LIM := by unfold LIM; omega
        have l5 : 1 ≤ LIM := by decide
        simp [FsT, f34, b34, callK, evS, evE, evA, evO, evI, seqS, retF, asgF, asgPF, asgMF, stiF, expF, iteF, forF, andF, orF, notF, ifeF, bltF, consA, nilA, varF, litF, tupF, lstF, dicF, binF, negF, cmpF, cmp2F, idxF, slcF, calF, mtwF, sclF, noO, someO, rngF, seqF, toB, toI, vws, vw, view, dview, frz, frzs, keep1, keeps, put, puts, prep1, prep, lend, giveBack, updR, isAl, isOl, isOwn, bindT, bindTs, fin, outs, outs1, bltR, isiR, tyN, lenR, absR, intR, lstR, valsR, tuplR, cmpR, idxR, slcR, binR, isNoneD, e1, dpt_nil, a0, a1, c1, c2, ih, cut_tail, l3, l4, l5]
/-- a growth at all tips, one by one -/
theorem pus_for (c : Cl) (g : Bu) (x1 : Option Rv) : ∀ (l : List Rd) (b b' : Bu) (x2 : Option Rv), isOwn x2 = false → pus g l b = some b' → (∀ r ∈ l, ∀ b b', wf b = true → pu g r b = some b' → c 34 [.d (enc b), .d (rd r), .d (enc g)] = some (.d (enc b'), [.d (enc b), .d (rd r), .d (enc g)])) → wf b = true → wf g = true → x1 = some (.d (enc g)) →
    ∃ x, forL (seqS (asgF 0 (calF c 34 [false, false, false] (consA (varF 0) (consA (varF 2) (consA (varF 1) nilA))))) (fun σ => some (.nx, σ))) (.nm 2) (l.map rd) [some (.d (enc b)), x1, x2] = some (.nx, [some (.d (enc b')), x1, x]) ∧ isOwn x = false
  | [], b, b', x2, h2, h, hc, w, wg, e1 => by
    simp only [pus, Option.some.injEq] at h
    subst h
    exact ⟨x2, rfl, h2⟩
  | r :: l, b, b', x2, h2, h, hc, w, wg, e1 => by
    simp only [pus] at h
    cases q : pu g r b with
    | none => rw [q] at h; cases h
    | some d =>
      rw [q] at h
      have h34 := hc r (List.mem_cons_self ..) b d w q
      obtain ⟨x, hx, hx2⟩ := pus_for c g x1 l d b' (some (.d (rd r))) rfl h (fun r hr => hc r (List.mem_cons_of_mem _ hr)) (pu_wf wg w q) wg e1
      refine ⟨x, ?_, hx2⟩
      have p2 : put 2 (.d (rd r)) [some (.d (enc b)), x1, x2] = some [some (.d (enc b)), x1, some (.d (rd r))] := put_free rfl h2
      simp only [List.map_cons, forL, bindT, p2]
      have hb : seqS (asgF 0 (calF c 34 [false, false, false] (consA (varF 0) (consA (varF 2) (consA (varF 1) nilA))))) (fun σ => some (.nx, σ)) [some (.d (enc b)), x1, some (.d (rd r))] = some (.nx, [some (.d (enc d)), x1, some (.d (rd r))]) := by
        subst e1
        simp [callK, evS, evE, evA, evO, evI, seqS, retF, asgF, asgPF, asgMF, stiF, expF, iteF, forF, andF, orF, notF, ifeF, bltF, consA, nilA, varF, litF, tupF, lstF, dicF, binF, negF, cmpF, cmp2F, idxF, slcF, calF, mtwF, sclF, noO, someO, rngF, seqF, toB, toI, vws, vw, view, dview, frz, frzs, keep1, keeps, put, puts, prep1, prep, lend, giveBack, updR, isAl, isOl, isOwn, bindT, bindTs, fin, outs, outs1, bltR, isiR, tyN, lenR, absR, intR, lstR, valsR, tuplR, cmpR, idxR, slcR, binR, isNoneD, h34]
      rw [hb]
      exact hx
theorem lgrown_ok (b g : Bu) (hw : wf b = true) (hg : wf g = true) (hd : ht b ≤ 200) (hc : cnt b ≤ 5000) (W k : Nat) (hW : 6000 ≤ W) (hk : 203 < k) : callK FsT W k 128 [.d (enc b), .d (enc g)] = some (.d (enc (gr g b)), [.d (enc b), .d (enc g)]) := by
  obtain ⟨j, rfl⟩ : ∃ j, k = j + 1 := ⟨k - 1, by omega⟩
  have h1 := tipsr_ok b hw (by omega) hc W j hW (by omega)
  obtain ⟨x, hx, _⟩ := pus_for (callK FsT W j) g (some (.d (enc g))) (tpR b) b (gr g b) none rfl (pus_gr g b) (fun r hr b1 b2 w q => put_ok hg w q W j (by have := tpR_short hw hr; omega)) hw hg rfl
  have hi : seqF (calF (callK FsT W j) 24 [false] (consA (varF 0) nilA)) [some (.d (enc b)), some (.d (enc g)), none] = some ((tpR b).map rd, [some (.d (enc b)), some (.d (enc g)), none]) := by
    simp [callK, evS, evE, evA, evO, evI, seqS, retF, asgF, asgPF, asgMF, stiF, expF, iteF, forF, andF, orF, notF, ifeF, bltF, consA, nilA, varF, litF, tupF, lstF, dicF, binF, negF, cmpF, cmp2F, idxF, slcF, calF, mtwF, sclF, noO, someO, rngF, seqF, toB, toI, vws, vw, view, dview, frz, frzs, keep1, keeps, put, puts, prep1, prep, lend, giveBack, updR, isAl, isOl, isOwn, bindT, bindTs, fin, outs, outs1, bltR, isiR, tyN, lenR, absR, intR, lstR, valsR, tuplR, cmpR, idxR, slcR, binR, isNoneD, h1]
  have e1 : evS (callK FsT W j) W b128 [some (.d (enc b)), some (.d (enc g)), none] = some (.ret (.d (enc (gr g b))), [some (.d (enc (gr g b))), some (.d (enc g)), x]) := by
    refine (seq_nx (σ1 := [some (.d (enc (gr g b))), some (.d (enc g)), x]) ?_).trans ?_
    · simp only [evS, evI, evE, evA, forF]
      rw [hi]
      exact hx
    · simp [callK, evS, evE, evA, evO, evI, seqS, retF, asgF, asgPF, asgMF, stiF, expF, iteF, forF, andF, orF, notF, ifeF, bltF, consA, nilA, varF, litF, tupF, lstF, dicF, binF, negF, cmpF, cmp2F, idxF, slcF, calF, mtwF, sclF, noO, someO, rngF, seqF, toB, toI, vws, vw, view, dview, frz, frzs, keep1, keeps, put, puts, prep1, prep, lend, giveBack, updR, isAl, isOl, isOwn, bindT, bindTs, fin, outs, outs1, bltR, isiR, tyN, lenR, absR, intR, lstR, valsR, tuplR, cmpR, idxR, slcR, binR, isNoneD]
  rw [call_ret (fd := f128) rfl rfl e1 rfl]
  simp [outs, outs1]
end TW
end

section
namespace TW
open PySem
mutual
theorem eqv_enc : ∀ b : Bu, PyData.eqv (enc b) (enc b) = true
  | .tip => enc_tip
  | .knot s bs => by simp [enc, PyData.eqv, PyData.eqvAll, eqv_encs bs]
theorem eqv_encs : ∀ bs : Bus, PyData.eqvAll (encs bs) (encs bs) = true
  | .nil => by simp [encs, PyData.eqvAll]
  | .cons b bs => by simp [encs, PyData.eqvAll, eqv_enc b, eqv_encs bs]
end
mutual
theorem depth_enc : ∀ b : Bu, (enc b).depth ≤ ht b + 1
  | .tip => by simp [enc, PyData.depth, PyData.depthAll]
  | .knot s bs => by
    have := depth_encs bs
    simp only [enc, PyData.depth, PyData.depthAll, ht]
    omega
theorem depth_encs : ∀ bs : Bus, PyData.depthAll (encs bs) ≤ hts bs + 1
  | .nil => by simp [encs, PyData.depthAll]
  | .cons b bs => by
    have h1 := depth_enc b
    have h2 := depth_encs bs
    simp only [encs, PyData.depthAll, hts]
    omega
end
theorem eqv_list : ∀ l : List Bu, PyData.eqvAll (l.map enc) (l.map enc) = true
  | [] => by simp [PyData.eqvAll]
  | b :: l => by simp [PyData.eqvAll, eqv_enc b, eqv_list l]
theorem depth_list {n : Nat} : ∀ l : List Bu, (∀ b ∈ l, ht b ≤ n) → PyData.depthAll (l.map enc) ≤ n + 1
  | [], _ => by simp [PyData.depthAll]
  | b :: l, h => by
    have h1 := depth_enc b
    have h2 := depth_list l fun x hx => h x (List.mem_cons_of_mem _ hx)
    have h3 := h b (List.mem_cons_self ..)
    simp only [List.map_cons, PyData.depthAll]
    omega
theorem fold_12 : ∀ (l : List Bu) (m m' : M3), m.1 = m'.1 → m.2.1 = m'.2.1 → (l.foldl mstep m).1 = (l.foldl mstep m').1 ∧ (l.foldl mstep m).2.1 = (l.foldl mstep m').2.1
  | [], m, m', h1, h2 => ⟨h1, h2⟩
  | g :: l, m, m', h1, h2 => by
    simp only [List.foldl_cons]
    exact fold_12 l _ _ (by simp [mstep, h1, h2]) (by simp [mstep, h2])
theorem Fit.step {b g : Bu} {gs : List Bu} (f : Fit b (g :: gs)) : Fit (gr g b) gs := by
  have wg := f.wgs g (List.mem_cons_self ..)
  have d := f.deep
  have n := f.n
  have p := f.parts
  have hh := gr_ht g b
  obtain ⟨q1, q2⟩ := fold_12 gs (mof (gr g b)) (mstep (mof b) g) (by simp [mof, mstep, gr_kn]) (by simp [mof, mstep, gr_tp])
  simp only [List.foldl_cons, List.map_cons, List.sum_cons, List.length_cons] at *
  exact ⟨gr_wf g wg b f.wb, fun x hx => f.wgs x (List.mem_cons_of_mem _ hx), by omega, by omega, by omega⟩
theorem Fit.one {b g : Bu} {gs : List Bu} (f : Fit b (g :: gs)) : Fit b [g] := by
  have d := f.deep
  have p := f.parts
  have h1 := fold_kn gs (mstep (mof b) g)
  have h2 := fold_tips gs (mstep (mof b) g) fun x hx => f.wgs x (List.mem_cons_of_mem _ hx)
  simp only [List.foldl_cons, List.map_cons, List.sum_cons, List.length_cons] at *
  exact ⟨f.wb, fun x hx => f.wgs x (by simp at hx; simp [hx]), by simp, by simp only [List.foldl_cons, List.foldl_nil]; omega, by simp; omega⟩
theorem lyears_ok (b : Bu) (gs : List Bu) (f : Fit b gs) (W k : Nat) (hW : 6000 ≤ W) (hk : 205 < k) : callK FsT W k 158 [.d (enc b), .d (.tuple (gs.map enc))] = some (.fl (yl (years b gs)), [.d (enc b), .d (.tuple (gs.map enc))]) := by
  obtain ⟨j, rfl⟩ : ∃ j, k = j + 1 := ⟨k - 1, by omega⟩
  have hf := for_fold (e := enc) (E := fun p x => [some (.d (enc b)), some (.d (.tuple (gs.map enc))), some (.ol (yl p) false), x]) (step := ystep)
    (body := evS (callK FsT W j) W (match b158 with
      | .cons _ (.cons (.for _ _ b) _) => b
      | _ => .nil)) (i := 3)
    (P := fun p l => Fit p.2 l ∧ p.1.length + l.length ≤ 12) (fun p g l x hx hp => by
      obtain ⟨p1, p4⟩ := hp
      simp only [List.length_cons] at p4
      have c := lgrown_ok p.2 g p1.wb (p1.wgs g (List.mem_cons_self ..)) (by have := p1.bh; omega) (by have := p1.bc; omega) W j hW (by omega)
      have al : L2.atI (yl p) (-1) = some (enc p.2) := atI_last
      have ll : (yl p).length < LIM := by rw [yl_len]; unfold LIM; omega
      refine ⟨rfl, rfl, ?_, p1.step, ?_⟩
      · simp only [b158]
        simp [callK, evS, evE, evA, evO, evI, seqS, retF, asgF, asgPF, asgMF, stiF, expF, iteF, forF, andF, orF, notF, ifeF, bltF, consA, nilA, varF, litF, tupF, lstF, dicF, binF, negF, cmpF, cmp2F, idxF, slcF, calF, mtwF, sclF, noO, someO, rngF, seqF, toB, toI, vws, vw, view, dview, frz, frzs, keep1, keeps, put, puts, prep1, prep, lend, giveBack, updR, isAl, isOl, isOwn, bindT, bindTs, fin, outs, outs1, bltR, isiR, tyN, lenR, absR, intR, lstR, valsR, tuplR, cmpR, idxR, slcR, binR, isNoneD, c, al, ll, mthW]
        simp [ystep, yl]
      · simp only [ystep, List.length_append, List.length_cons, List.length_nil]; omega) gs ([], b) none rfl
    ⟨f, by have := f.n; simp; omega⟩
  obtain ⟨x, hx, _⟩ := hf
  have e0 : yl ([], b) = [enc b] := rfl
  rw [e0] at hx
  have e1 : evS (callK FsT W j) W b158 [some (.d (enc b)), some (.d (.tuple (gs.map enc))), none, none] = some (.ret (.al 2), [some (.d (enc b)), some (.d (.tuple (gs.map enc))), some (.ol (yl (years b gs)) false), x]) := by
    refine (seq_nx (σ1 := [some (.d (enc b)), some (.d (.tuple (gs.map enc))), some (.ol [enc b] false), none]) ?_).trans ?_
    · simp [callK, evS, evE, evA, evO, evI, seqS, retF, asgF, asgPF, asgMF, stiF, expF, iteF, forF, andF, orF, notF, ifeF, bltF, consA, nilA, varF, litF, tupF, lstF, dicF, binF, negF, cmpF, cmp2F, idxF, slcF, calF, mtwF, sclF, noO, someO, rngF, seqF, toB, toI, vws, vw, view, dview, frz, frzs, keep1, keeps, put, puts, prep1, prep, lend, giveBack, updR, isAl, isOl, isOwn, bindT, bindTs, fin, outs, outs1, bltR, isiR, tyN, lenR, absR, intR, lstR, valsR, tuplR, cmpR, idxR, slcR, binR, isNoneD, LIM]
    · refine (seq_nx (σ1 := [some (.d (enc b)), some (.d (.tuple (gs.map enc))), some (.ol (yl (years b gs)) false), x]) ?_).trans ?_
      · simp only [evS, evI, evE, forF]
        have hi : seqF (varF 1) [some (.d (enc b)), some (.d (.tuple (gs.map enc))), some (.ol [enc b] false), none] = some (gs.map enc, [some (.d (enc b)), some (.d (.tuple (gs.map enc))), some (.ol [enc b] false), none]) := by simp [callK, evS, evE, evA, evO, evI, seqS, retF, asgF, asgPF, asgMF, stiF, expF, iteF, forF, andF, orF, notF, ifeF, bltF, consA, nilA, varF, litF, tupF, lstF, dicF, binF, negF, cmpF, cmp2F, idxF, slcF, calF, mtwF, sclF, noO, someO, rngF, seqF, toB, toI, vws, vw, view, dview, frz, frzs, keep1, keeps, put, puts, prep1, prep, lend, giveBack, updR, isAl, isOl, isOwn, bindT, bindTs, fin, outs, outs1, bltR, isiR, tyN, lenR, absR, intR, lstR, valsR, tuplR, cmpR, idxR, slcR, binR, isNoneD]
        rw [hi]
        exact hx
      · simp [callK, evS, evE, evA, evO, evI, seqS, retF, asgF, asgPF, asgMF, stiF, expF, iteF, forF, andF, orF, notF, ifeF, bltF, consA, nilA, varF, litF, tupF, lstF, dicF, binF, negF, cmpF, cmp2F, idxF, slcF, calF, mtwF, sclF, noO, someO, rngF, seqF, toB, toI, vws, vw, view, dview, frz, frzs, keep1, keeps, put, puts, prep1, prep, lend, giveBack, updR, isAl, isOl, isOwn, bindT, bindTs, fin, outs, outs1, bltR, isiR, tyN, lenR, absR, intR, lstR, valsR, tuplR, cmpR, idxR, slcR, binR, isNoneD]
  rw [call_ret (fd := f158) rfl rfl e1 rfl]
  simp [outs, outs1]
theorem lbush_ok (gs : List Bu) (f : Fit .tip gs) (W k : Nat) (hW : 6000 ≤ W) (hk : 205 < k) : callK FsT W k 129 [.d (.tuple (gs.map enc))] = some (.d (enc (years .tip gs).2), [.d (.tuple (gs.map enc))]) := by
  obtain ⟨j, rfl⟩ : ∃ j, k = j + 1 := ⟨k - 1, by omega⟩
  have hf := for_fold (e := enc) (E := fun p x => [some (.d (.tuple (gs.map enc))), some (.d (enc p.2)), x]) (step := ystep)
    (body := evS (callK FsT W j) W (match b129 with
      | .cons _ (.cons (.for _ _ b) _) => b
      | _ => .nil)) (i := 2)
    (P := fun p l => Fit p.2 l) (fun p g l x hx p1 => by
      have c := lgrown_ok p.2 g p1.wb (p1.wgs g (List.mem_cons_self ..)) (by have := p1.bh; omega) (by have := p1.bc; omega) W j hW (by omega)
      refine ⟨rfl, rfl, ?_, p1.step⟩
      · simp only [b129]
        simp [callK, evS, evE, evA, evO, evI, seqS, retF, asgF, asgPF, asgMF, stiF, expF, iteF, forF, andF, orF, notF, ifeF, bltF, consA, nilA, varF, litF, tupF, lstF, dicF, binF, negF, cmpF, cmp2F, idxF, slcF, calF, mtwF, sclF, noO, someO, rngF, seqF, toB, toI, vws, vw, view, dview, frz, frzs, keep1, keeps, put, puts, prep1, prep, lend, giveBack, updR, isAl, isOl, isOwn, bindT, bindTs, fin, outs, outs1, bltR, isiR, tyN, lenR, absR, intR, lstR, valsR, tuplR, cmpR, idxR, slcR, binR, isNoneD, c, ystep]) gs ([], .tip) none rfl f
  obtain ⟨x, hx, _⟩ := hf
  have e1 : evS (callK FsT W j) W b129 [some (.d (.tuple (gs.map enc))), none, none] = some (.ret (.d (enc (years .tip gs).2)), [some (.d (.tuple (gs.map enc))), some (.d (enc (years .tip gs).2)), x]) := by
    refine (seq_nx (σ1 := [some (.d (.tuple (gs.map enc))), some (.d (enc .tip)), none]) ?_).trans ?_
    · simp [callK, evS, evE, evA, evO, evI, seqS, retF, asgF, asgPF, asgMF, stiF, expF, iteF, forF, andF, orF, notF, ifeF, bltF, consA, nilA, varF, litF, tupF, lstF, dicF, binF, negF, cmpF, cmp2F, idxF, slcF, calF, mtwF, sclF, noO, someO, rngF, seqF, toB, toI, vws, vw, view, dview, frz, frzs, keep1, keeps, put, puts, prep1, prep, lend, giveBack, updR, isAl, isOl, isOwn, bindT, bindTs, fin, outs, outs1, bltR, isiR, tyN, lenR, absR, intR, lstR, valsR, tuplR, cmpR, idxR, slcR, binR, isNoneD, LIM, enc]
    · refine (seq_nx (σ1 := [some (.d (.tuple (gs.map enc))), some (.d (enc (years .tip gs).2)), x]) ?_).trans ?_
      · simp only [evS, evI, evE, forF]
        have hi : seqF (varF 0) [some (.d (.tuple (gs.map enc))), some (.d (enc .tip)), none] = some (gs.map enc, [some (.d (.tuple (gs.map enc))), some (.d (enc .tip)), none]) := by simp [callK, evS, evE, evA, evO, evI, seqS, retF, asgF, asgPF, asgMF, stiF, expF, iteF, forF, andF, orF, notF, ifeF, bltF, consA, nilA, varF, litF, tupF, lstF, dicF, binF, negF, cmpF, cmp2F, idxF, slcF, calF, mtwF, sclF, noO, someO, rngF, seqF, toB, toI, vws, vw, view, dview, frz, frzs, keep1, keeps, put, puts, prep1, prep, lend, giveBack, updR, isAl, isOl, isOwn, bindT, bindTs, fin, outs, outs1, bltR, isiR, tyN, lenR, absR, intR, lstR, valsR, tuplR, cmpR, idxR, slcR, binR, isNoneD]
        rw [hi]
        exact hx
      · simp [callK, evS, evE, evA, evO, evI, seqS, retF, asgF, asgPF, asgMF, stiF, expF, iteF, forF, andF, orF, notF, ifeF, bltF, consA, nilA, varF, litF, tupF, lstF, dicF, binF, negF, cmpF, cmp2F, idxF, slcF, calF, mtwF, sclF, noO, someO, rngF, seqF, toB, toI, vws, vw, view, dview, frz, frzs, keep1, keeps, put, puts, prep1, prep, lend, giveBack, updR, isAl, isOl, isOwn, bindT, bindTs, fin, outs, outs1, bltR, isiR, tyN, lenR, absR, intR, lstR, valsR, tuplR, cmpR, idxR, slcR, binR, isNoneD]
  rw [call_ret (fd := f129) rfl rfl e1 rfl, outs_d1]
theorem years_fit : ∀ (gs : List Bu) (p : List Bu × Bu), Fit p.2 gs → (∀ b ∈ p.1, ht b ≤ 60) → (∀ b ∈ (gs.foldl ystep p).1, ht b ≤ 60) ∧ ht (gs.foldl ystep p).2 ≤ 60
  | [], p, f, h => ⟨h, f.bh⟩
  | g :: gs, p, f, h => by
    simp only [List.foldl_cons]
    refine years_fit gs (ystep p g) f.step fun b hb => ?_
    simp only [ystep, List.mem_append, List.mem_singleton] at hb
    rcases hb with hb | rfl
    · exact h b hb
    · exact f.bh
theorem yl_map (p : List Bu × Bu) : yl p = (p.1 ++ [p.2]).map enc := by simp [yl]
theorem years_1 : ∀ (gs : List Bu) (p : List Bu × Bu) (x : Bu) (l : List Bu), p.1 ++ [p.2] = x :: l → ∃ m, (gs.foldl ystep p).1 ++ [(gs.foldl ystep p).2] = x :: l ++ m
  | [], p, x, l, h => ⟨[], by simpa using h⟩
  | g :: gs, p, x, l, h => by
    obtain ⟨m, hm⟩ := years_1 gs (ystep p g) x (l ++ [gr g p.2]) (by simp [ystep, h])
    exact ⟨[gr g p.2] ++ m, by simpa using hm⟩
theorem right_ok (b : Bu) (gs : List Bu) (f : Fit b gs) (W k : Nat) (hW : 6000 ≤ W) (hk : 207 < k) : callK FsT W k 160 [.d (enc b), .d (.tuple (gs.map enc))] = some (.d (.bool true), [.d (enc b), .d (.tuple (gs.map enc))]) := by
  obtain ⟨j, rfl⟩ : ∃ j, k = j + 1 := ⟨k - 1, by omega⟩
  have h1 := lyears_ok b gs f W j hW (by omega)
  have h2 := grown_on_ok b gs f W j (by omega) (by omega)
  have h3 := grown_by_ok b gs f W j (by omega) (by omega)
  obtain ⟨q1, q2⟩ := years_fit gs ([], b) f (fun b hb => by cases hb)
  have al : L2.atI (yl (years b gs)) (-1) = some (enc (years b gs).2) := atI_last
  have ev : PyData.eqv (.list (yl (years b gs))) (.list (yl (years b gs))) = true := by
    rw [yl_map]
    simp only [PyData.eqv]
    exact eqv_list _
  have ev2 := eqv_enc (years b gs).2
  have dp : dpt (.list (yl (years b gs))) (.list (yl (years b gs))) = true := by
    unfold dpt
    apply decide_eq_true
    rw [yl_map]
    have := depth_list (n := 60) ((years b gs).1 ++ [(years b gs).2]) (fun x hx => by
      rcases List.mem_append.mp hx with hx | hx
      · exact q1 x hx
      · simp at hx; rw [hx]; exact q2)
    simp only [PyData.depth]
    omega
  have dp2 : dpt (enc (years b gs).2) (enc (years b gs).2) = true := by
    unfold dpt
    apply decide_eq_true
    have := depth_enc (years b gs).2
    have q2 : ht (years b gs).2 ≤ 60 := q2
    omega
  cases gs with
  | nil =>
    have e1 : PyData.eqv (.tuple []) (.tuple []) = true := by decide
    have l0 : 0 ≤ LIM := by decide
    simp only [List.map_nil] at h1 h2 h3 ⊢
    simp [FsT, f160, b160, callK, evS, evE, evA, evO, evI, seqS, retF, asgF, asgPF, asgMF, stiF, expF, iteF, forF, andF, orF, notF, ifeF, bltF, consA, nilA, varF, litF, tupF, lstF, dicF, binF, negF, cmpF, cmp2F, idxF, slcF, calF, mtwF, sclF, noO, someO, rngF, seqF, toB, toI, vws, vw, view, dview, frz, frzs, keep1, keeps, put, puts, prep1, prep, lend, giveBack, updR, isAl, isOl, isOwn, bindT, bindTs, fin, outs, outs1, bltR, isiR, tyN, lenR, absR, intR, lstR, valsR, tuplR, cmpR, idxR, slcR, binR, isNoneD, h1, h2, h3, al, ev, ev2, dp, dp2, e1, dpt_nil, l0]
  | cons g gs =>
    have h4 := grown_ok b g f.one W j (by omega) (by omega)
    have e1 : PyData.eqv (.tuple ((g :: gs).map enc)) (.tuple []) = false := by simp [PyData.eqv, PyData.eqvAll]
    obtain ⟨m, hm⟩ := years_1 gs (ystep ([], b) g) b [gr g b] rfl
    have a1 : L2.atI (yl (years b (g :: gs))) 1 = some (enc (gr g b)) := by
      rw [yl_map]
      have e : (years b (g :: gs)).1 ++ [(years b (g :: gs)).2] = [b, gr g b] ++ m := hm
      rw [e]
      have hl : (1 : Int) < (m.length : Int) + 1 + 1 := by omega
      simp [L2.atI, L2.ixN, hl]
    have a0 : L2.atI ((g :: gs).map enc) 0 = some (enc g) := by simp [L2.atI, L2.ixN]
    have ev3 := eqv_enc (gr g b)
    have dp3 : dpt (enc (gr g b)) (enc (gr g b)) = true := by
      unfold dpt
      apply decide_eq_true
      have := depth_enc (gr g b)
      have q3 := f.step.bh
      omega
    have l0 : 0 ≤ LIM := by decide
    generalize (g :: gs).map enc = G at *
    simp [FsT, f160, b160, callK, evS, evE, evA, evO, evI, seqS, retF, asgF, asgPF, asgMF, stiF, expF, iteF, forF, andF, orF, notF, ifeF, bltF, consA, nilA, varF, litF, tupF, lstF, dicF, binF, negF, cmpF, cmp2F, idxF, slcF, calF, mtwF, sclF, noO, someO, rngF, seqF, toB, toI, vws, vw, view, dview, frz, frzs, keep1, keeps, put, puts, prep1, prep, lend, giveBack, updR, isAl, isOl, isOwn, bindT, bindTs, fin, outs, outs1, bltR, isiR, tyN, lenR, absR, intR, lstR, valsR, tuplR, cmpR, idxR, slcR, binR, isNoneD, h1, h2, h3, h4, al, ev, ev2, dp, dp2, e1, dpt_nil, l0, a1, a0, ev3, dp3]
end TW
end

section
namespace TW
open PySem
/-! ### the generator -/
def Cup (xs : List D) : Prop := ∃ a c : Int, xs = [.int a, .int c] ∧ 0 ≤ a ∧ 0 ≤ c
theorem mulOk_r {i j : Int} (h : j.natAbs < 18446744073709551616) : mulOk i j = true := by
  unfold mulOk
  simp [h]
theorem log_small {n : Nat} (h : n ≤ 1000) : n.log2 < 9000 := by
  by_cases h0 : n = 0
  · subst h0; decide
  · have := (Nat.log2_lt h0 (k := 9000)).mpr (Nat.lt_of_le_of_lt h (Nat.lt_of_lt_of_le (by decide : 1000 < 2 ^ 10) (Nat.pow_le_pow_right (by omega) (by omega))))
    exact this
theorem mulOk_l {i j : Int} (h : j.natAbs < 18446744073709551616) : mulOk i j = true := by
  unfold mulOk
  simp [h]
theorem cup_ok (ns : List Int) (hn : ns.length ≤ 63) (W k : Nat) (hk : 0 < k) : ∃ xs, callK FsT W k 0 [.sc ns] = some (.fl xs, [.sc ns]) ∧ Cup xs := by
  obtain ⟨j, rfl⟩ : ∃ j, k = j + 1 := ⟨k - 1, by omega⟩
  obtain ⟨y, hy⟩ : ∃ y : Int, L2.atI (ns.map PyData.int ++ [.int 0]) 0 = some (.int y) := by
    cases ns with
    | nil => exact ⟨0, by simp [L2.atI, L2.ixN]⟩
    | cons n ns =>
      refine ⟨n, ?_⟩
      have : (0 : Int) < (ns.length : Int) + 1 + 1 := by omega
      simp [L2.atI, L2.ixN, this]
  obtain ⟨z, hz, z0⟩ : ∃ z : Int, (if y < 0 then -y else y) = z ∧ 0 ≤ z := ⟨_, rfl, by split <;> omega⟩
  have l1 : ns.length + 1 ≤ LIM := by unfold LIM; omega
  have l2 : 1 ≤ LIM := by decide
  have l3 : 2 ≤ LIM := by decide
  have m1 : mulOk z 241 = true := mulOk_l (by decide)
  have l4 : Nat.log2 41 < 9000 := by decide +kernel
  have q : 0 ≤ (z * 241 + 2017) % 2077503403 + 131 := by
    have := Int.emod_nonneg (z * 241 + 2017) (b := 2077503403) (by omega)
    omega
  generalize hd : (z * 241 + 2017) % 2077503403 + 131 = d at q
  refine ⟨[.int (if (10 : Int) ^ 18 ≤ z then z / 41 else 0), .int d], ?_, ⟨_, _, rfl, by split <;> omega, q⟩⟩
  by_cases h : (10 : Int) ^ 18 ≤ z
  · have h' : (1000000000000000000 : Int) ≤ z := by simpa using h
    simp [FsT, f0, b0, callK, evS, evE, evA, evO, evI, seqS, retF, asgF, asgPF, asgMF, stiF, expF, iteF, forF, andF, orF, notF, ifeF, bltF, consA, nilA, varF, litF, tupF, lstF, dicF, binF, negF, cmpF, cmp2F, idxF, slcF, calF, mtwF, sclF, noO, someO, rngF, seqF, toB, toI, vws, vw, view, dview, frz, frzs, keep1, keeps, put, puts, prep1, prep, lend, giveBack, updR, isAl, isOl, isOwn, bindT, bindTs, fin, outs, outs1, bltR, isiR, tyN, lenR, absR, intR, lstR, valsR, tuplR, cmpR, idxR, slcR, binR, isNoneD, hy, l1, l2, l3, hz, m1, l4, hd, h']
  · have h' : ¬ (1000000000000000000 : Int) ≤ z := by simpa using h
    simp [FsT, f0, b0, callK, evS, evE, evA, evO, evI, seqS, retF, asgF, asgPF, asgMF, stiF, expF, iteF, forF, andF, orF, notF, ifeF, bltF, consA, nilA, varF, litF, tupF, lstF, dicF, binF, negF, cmpF, cmp2F, idxF, slcF, calF, mtwF, sclF, noO, someO, rngF, seqF, toB, toI, vws, vw, view, dview, frz, frzs, keep1, keeps, put, puts, prep1, prep, lend, giveBack, updR, isAl, isOl, isOwn, bindT, bindTs, fin, outs, outs1, bltR, isiR, tyN, lenR, absR, intR, lstR, valsR, tuplR, cmpR, idxR, slcR, binR, isNoneD, hy, l1, l2, l3, hz, m1, l4, hd, h']
theorem roll_ok (xs : List D) (hc : Cup xs) (n : Int) (h1 : 1 ≤ n) (h2 : n ≤ 1000) (W k : Nat) (hk : 0 < k) : ∃ v xs', callK FsT W k 1 [.ol xs true, .d (.int n)] = some (.d (.int v), [.ol xs' true, .d (.int n)]) ∧ Cup xs' ∧ 0 ≤ v ∧ v < n := by
  obtain ⟨j, rfl⟩ : ∃ j, k = j + 1 := ⟨k - 1, by omega⟩
  obtain ⟨a, c, rfl, ha, hc⟩ := hc
  have n0 : 0 < n := by omega
  have ln : n.natAbs.log2 < 9000 := log_small (by omega)
  have a0 : ∀ x y : D, L2.atI [x, y] 0 = some x := fun x y => by simp [L2.atI, L2.ixN]
  have a1 : ∀ x y : D, L2.atI [x, y] 1 = some y := fun x y => by simp [L2.atI, L2.ixN]
  have i0 : L2.ixN 2 0 = some 0 := by decide
  have i1 : L2.ixN 2 1 = some 1 := by decide
  by_cases h : 0 < a
  · refine ⟨a % n, [.int (a / n), .int c], ?_, ⟨_, _, rfl, Int.ediv_nonneg ha (by omega), hc⟩, Int.emod_nonneg _ (by omega), Int.emod_lt_of_pos _ n0⟩
    simp [FsT, f1, b1, callK, evS, evE, evA, evO, evI, seqS, retF, asgF, asgPF, asgMF, stiF, expF, iteF, forF, andF, orF, notF, ifeF, bltF, consA, nilA, varF, litF, tupF, lstF, dicF, binF, negF, cmpF, cmp2F, idxF, slcF, calF, mtwF, sclF, noO, someO, rngF, seqF, toB, toI, vws, vw, view, dview, frz, frzs, keep1, keeps, put, puts, prep1, prep, lend, giveBack, updR, isAl, isOl, isOwn, bindT, bindTs, fin, outs, outs1, bltR, isiR, tyN, lenR, absR, intR, lstR, valsR, tuplR, cmpR, idxR, slcR, binR, isNoneD, a0, i0, h, n0, ln]
  · have m1 : mulOk c 30971 = true := mulOk_r (by decide)
    have q1 : 0 ≤ (c * 30971 + 7927) % 2147483549 := Int.emod_nonneg _ (by omega)
    have q2 : (c * 30971 + 7927) % 2147483549 < 2147483549 := Int.emod_lt_of_pos _ (by omega)
    generalize hd : (c * 30971 + 7927) % 2147483549 = d at q1 q2
    have m2 : mulOk d (d + 193) = true := mulOk_r (by omega)
    have l2 : Nat.log2 769 < 9000 := by decide +kernel
    refine ⟨(d * (d + 193) % 2147483587 / 769) % n, [.int a, .int d], ?_, ⟨_, _, rfl, ha, q1⟩, Int.emod_nonneg _ (by omega), Int.emod_lt_of_pos _ n0⟩
    simp [FsT, f1, b1, callK, evS, evE, evA, evO, evI, seqS, retF, asgF, asgPF, asgMF, stiF, expF, iteF, forF, andF, orF, notF, ifeF, bltF, consA, nilA, varF, litF, tupF, lstF, dicF, binF, negF, cmpF, cmp2F, idxF, slcF, calF, mtwF, sclF, noO, someO, rngF, seqF, toB, toI, vws, vw, view, dview, frz, frzs, keep1, keeps, put, puts, prep1, prep, lend, giveBack, updR, isAl, isOl, isOwn, bindT, bindTs, fin, outs, outs1, bltR, isiR, tyN, lenR, absR, intR, lstR, valsR, tuplR, cmpR, idxR, slcR, binR, isNoneD, a0, a1, i1, h, n0, m1, hd, m2, l2]
theorem some_ok (xs : List D) (hc : Cup xs) (ys : List D) (h1 : ys ≠ []) (h2 : ys.length ≤ 1000) (W k : Nat) (hk : 1 < k) : ∃ y xs', callK FsT W k 2 [.ol xs true, .d (.list ys)] = some (.d y, [.ol xs' true, .d (.list ys)]) ∧ Cup xs' ∧ y ∈ ys := by
  obtain ⟨j, rfl⟩ : ∃ j, k = j + 1 := ⟨k - 1, by omega⟩
  have hl : 0 < ys.length := List.length_pos_iff.mpr h1
  obtain ⟨v, xs', hr, hc', v0, v1⟩ := roll_ok xs hc ys.length (by omega) (by omega) W j (by omega)
  obtain ⟨m, rfl⟩ := Int.eq_ofNat_of_zero_le v0
  have ml : m < ys.length := by omega
  refine ⟨ys[m], xs', ?_, hc', List.getElem_mem ml⟩
  have a0 : L2.atI ys (m : Int) = some ys[m] := by
    simp [L2.atI, L2.ixN, v1, ml]
  simp [FsT, f2, b2, callK, evS, evE, evA, evO, evI, seqS, retF, asgF, asgPF, asgMF, stiF, expF, iteF, forF, andF, orF, notF, ifeF, bltF, consA, nilA, varF, litF, tupF, lstF, dicF, binF, negF, cmpF, cmp2F, idxF, slcF, calF, mtwF, sclF, noO, someO, rngF, seqF, toB, toI, vws, vw, view, dview, frz, frzs, keep1, keeps, put, puts, prep1, prep, lend, giveBack, updR, isAl, isOl, isOwn, bindT, bindTs, fin, outs, outs1, bltR, isiR, tyN, lenR, absR, intR, lstR, valsR, tuplR, cmpR, idxR, slcR, binR, isNoneD, hr, a0]
theorem for_inv {body : En → Option (Flow × En)} {p : Tg} {N : Nat} (I : Nat → En → Prop) (h : ∀ n σ, n < N → I n σ → ∃ σ1 σ2, bindT p (.int (n : Nat)) σ = some σ1 ∧ body σ1 = some (.nx, σ2) ∧ I (n + 1) σ2) :
    ∀ (l : Nat) (n : Nat) (σ : En), n + l = N → I n σ → ∃ σ', forL body p ((List.range' n l).map fun i => .int (i : Nat)) σ = some (.nx, σ') ∧ I N σ'
  | 0, n, σ, hn, hi => ⟨σ, rfl, by have : n = N := by omega
                                   rw [← this]; exact hi⟩
  | l + 1, n, σ, hn, hi => by
    obtain ⟨σ1, σ2, h1, h2, h3⟩ := h n σ (by omega) hi
    obtain ⟨σ', h4, h5⟩ := for_inv I h l (n + 1) σ2 (by omega) h3
    refine ⟨σ', ?_, h5⟩
    simp only [List.range'_succ, List.map_cons, forL, h1, h2]
    exact h4
theorem rngI_range (n : Nat) : rngI 0 (n : Int) = (List.range' 0 n).map fun i => .int (i : Nat) := by
  simp [rngI, List.range_eq_range']
end TW
end

section
namespace TW
open PySem
mutual
theorem tp_kn : ∀ b : Bu, wf b = true → tp b ≤ 1 + 5 * kn b
  | .tip, _ => by simp [tp, kn]
  | .knot s bs, h => by
    simp only [wf, Bool.and_eq_true, decide_eq_true_eq] at h
    have := tps_kns bs h.2
    simp only [tp, kn]
    omega
theorem tps_kns : ∀ bs : Bus, wfs bs = true → tps bs ≤ bs.l.length + 5 * kns bs
  | .nil, _ => by simp [tps]
  | .cons b bs, h => by
    simp only [wfs, Bool.and_eq_true] at h
    have h1 := tp_kn b h.1
    have h2 := tps_kns bs h.2
    simp only [tps, kns, Bus.l, List.length_cons]
    omega
end
theorem of_wfs : ∀ L : List Bu, (∀ b ∈ L, wf b = true) → wfs (Bus.of L) = true
  | [], _ => rfl
  | b :: L, h => by
    simp [Bus.of, wfs, h b (List.mem_cons_self ..), of_wfs L fun x hx => h x (List.mem_cons_of_mem _ hx)]
theorem of_hts {q : Nat} : ∀ L : List Bu, (∀ b ∈ L, ht b ≤ q) → hts (Bus.of L) ≤ q
  | [], _ => by simp [Bus.of, hts]
  | b :: L, h => by
    have h1 := h b (List.mem_cons_self ..)
    have h2 := of_hts L fun x hx => h x (List.mem_cons_of_mem _ hx)
    simp only [Bus.of, hts]
    omega
theorem of_kns {q : Nat} : ∀ L : List Bu, (∀ b ∈ L, kn b ≤ q) → kns (Bus.of L) ≤ L.length * q
  | [], _ => by simp [Bus.of, kns]
  | b :: L, h => by
    have h1 := h b (List.mem_cons_self ..)
    have h2 := of_kns L fun x hx => h x (List.mem_cons_of_mem _ hx)
    simp only [Bus.of, kns, List.length_cons, Nat.add_mul]
    omega
theorem enc_of (s : Str) (L : List Bu) : enc (.knot s (Bus.of L)) = .tuple (.str s :: L.map enc) := by
  simp [enc, encs_map, Bus.l_of]
def LS : List D := [.str "a", .str "a", .str "b", .str "c", .str "f", .str "z"]
def CS : List D := [.int 1, .int 1, .int 2, .int 2, .int 2, .int 3, .int 4]
theorem ls_mem {y : D} (h : y ∈ LS) : ∃ s, y = .str s ∧ letB s = true := by
  simp only [LS, List.mem_cons, List.not_mem_nil, or_false] at h
  rcases h with h | h | h | h | h | h <;> exact ⟨_, h, by decide⟩
theorem cs_mem {y : D} (h : y ∈ CS) : ∃ m : Nat, y = .int m ∧ 1 ≤ m ∧ m ≤ 4 := by
  simp only [CS, List.mem_cons, List.not_mem_nil, or_false] at h
  rcases h with h | h | h | h | h | h | h
  · exact ⟨1, h, by omega, by omega⟩
  · exact ⟨1, h, by omega, by omega⟩
  · exact ⟨2, h, by omega, by omega⟩
  · exact ⟨2, h, by omega, by omega⟩
  · exact ⟨2, h, by omega, by omega⟩
  · exact ⟨3, h, by omega, by omega⟩
  · exact ⟨4, h, by omega, by omega⟩
def BI (most m : Nat) (s : Str) (e : Bool) (n : Nat) (σ : En) : Prop := ∃ (xs : List D) (L : List Bu) (x2 x8 : Option Rv), σ = [some (.ol xs true), some (.d (.int most)), x2, some (.d (.str s)), some (.d (.int m)), some (.d (.tuple (L.map enc))), some (.d (.int ((most - 1 : Nat) : Int))), some (.d (.bool e)), x8] ∧ isOwn x2 = false ∧ isOwn x8 = false ∧ Cup xs ∧ L.length = n ∧
  ∀ b ∈ L, wf b = true ∧ ht b ≤ (most - 1) / m ∧ kn b ≤ (most - 1) / m
def bfor : S := match b4 with
  | .cons _ (.cons _ (.cons _ (.cons (.for _ _ b) _))) => b
  | _ => .nil
theorem bush_body (most m : Nat) (s : Str) (e : Bool) (hm : 1 ≤ m ∧ m ≤ 4) (W j : Nat)
    (ih : ∀ xs, Cup xs → ∃ b xs', callK FsT W j 4 [.ol xs true, .d (.int (((most - 1 : Nat) : Int) / (m : Int)))] = some (.d (enc b), [.ol xs' true, .d (.int (((most - 1 : Nat) : Int) / (m : Int)))]) ∧ Cup xs' ∧ wf b = true ∧ ht b ≤ (most - 1) / m ∧ kn b ≤ (most - 1) / m)
    (n : Nat) (σ : En) (hn : n < m) (h : BI most m s e n σ) : ∃ σ1 σ2, bindT (.nm 2) (.int (n : Nat)) σ = some σ1 ∧ evS (callK FsT W j) W bfor σ1 = some (.nx, σ2) ∧ BI most m s e (n + 1) σ2 := by
  obtain ⟨xs, L, x2, x8, rfl, h2, h8, hc, hl, hb⟩ := h
  have p2 : ∀ z, put 2 z [some (.ol xs true), some (.d (.int most)), x2, some (.d (.str s)), some (.d (.int m)), some (.d (.tuple (L.map enc))), some (.d (.int ((most - 1 : Nat) : Int))), some (.d (.bool e)), x8] = some [some (.ol xs true), some (.d (.int most)), some z, some (.d (.str s)), some (.d (.int m)), some (.d (.tuple (L.map enc))), some (.d (.int ((most - 1 : Nat) : Int))), some (.d (.bool e)), x8] := fun z => put_free rfl h2
  have p8 : ∀ (u0 u1 u2 u3 u4 u5 u6 u7 : Option Rv) z, put 8 z [u0, u1, u2, u3, u4, u5, u6, u7, x8] = some [u0, u1, u2, u3, u4, u5, u6, u7, some z] := fun u0 u1 u2 u3 u4 u5 u6 u7 z => put_free rfl h8
  have p5 : ∀ (u0 u1 u2 u3 u4 u6 u7 u8 : Option Rv) x z, put 5 z [u0, u1, u2, u3, u4, some (.d x), u6, u7, u8] = some [u0, u1, u2, u3, u4, some z, u6, u7, u8] := fun u0 u1 u2 u3 u4 u6 u7 u8 x z => rfl
  have l1 : 1 ≤ LIM := by decide
  have l2 : L.length + 1 ≤ LIM := by unfold LIM; omega
  obtain ⟨b, xs', hcal, hc', wb, hb1, hb2⟩ := ih xs hc
  have m0 : 0 < m := by omega
  have lm : Nat.log2 m < 9000 := log_small (by omega)
  have fresh : (e && !L.isEmpty) = false → ∃ σ2, evS (callK FsT W j) W bfor [some (.ol xs true), some (.d (.int most)), some (.d (.int (n : Nat))), some (.d (.str s)), some (.d (.int m)), some (.d (.tuple (L.map enc))), some (.d (.int ((most - 1 : Nat) : Int))), some (.d (.bool e)), x8] = some (.nx, σ2) ∧ BI most m s e (n + 1) σ2 := fun he => by
    refine ⟨[some (.ol xs' true), some (.d (.int most)), some (.d (.int (n : Nat))), some (.d (.str s)), some (.d (.int m)), some (.d (.tuple ((L ++ [b]).map enc))), some (.d (.int ((most - 1 : Nat) : Int))), some (.d (.bool e)), some (.d (enc b))], ?_, ⟨xs', L ++ [b], _, _, rfl, rfl, rfl, hc', by simp [hl], fun c hcm => by
      rcases List.mem_append.mp hcm with hcm | hcm
      · exact hb c hcm
      · simp at hcm; rw [hcm]; exact ⟨wb, hb1, hb2⟩⟩⟩
    have hcf : calF (callK FsT W j) 4 [true, false] (consA (varF 0) (consA (binF .FloorDiv (varF 6) (varF 4)) nilA)) [some (.ol xs true), some (.d (.int most)), some (.d (.int (n : Nat))), some (.d (.str s)), some (.d (.int m)), some (.d (.tuple (L.map enc))), some (.d (.int ((most - 1 : Nat) : Int))), some (.d (.bool e)), x8] =
        some (.d (enc b), [some (.ol xs' true), some (.d (.int most)), some (.d (.int (n : Nat))), some (.d (.str s)), some (.d (.int m)), some (.d (.tuple (L.map enc))), some (.d (.int ((most - 1 : Nat) : Int))), some (.d (.bool e)), x8]) := by
      clear ih hb
      generalize hq : most - 1 = q at *
      simp [callK, evS, evE, evA, evO, evI, seqS, retF, asgF, asgPF, asgMF, stiF, expF, iteF, forF, andF, orF, notF, ifeF, bltF, consA, nilA, varF, litF, tupF, lstF, dicF, binF, negF, cmpF, cmp2F, idxF, slcF, calF, mtwF, sclF, noO, someO, rngF, seqF, toB, toI, vws, vw, view, dview, frz, frzs, keep1, keeps, puts, prep1, prep, lend, giveBack, updR, isAl, isOl, isOwn, bindT, bindTs, fin, outs, outs1, bltR, isiR, tyN, lenR, absR, intR, lstR, valsR, tuplR, cmpR, idxR, slcR, binR, isNoneD, m0, lm, hcal]
    simp only [bfor, b4, evS, evE, evA]
    refine (seq_nx (σ1 := [some (.ol xs' true), some (.d (.int most)), some (.d (.int (n : Nat))), some (.d (.str s)), some (.d (.int m)), some (.d (.tuple (L.map enc))), some (.d (.int ((most - 1 : Nat) : Int))), some (.d (.bool e)), some (.d (enc b))]) ?_).trans ?_
    · cases e with
      | false => simp [asgF, ifeF, andF, varF, toB, hcf, keep1, frz, p8]
      | true =>
        have : L = [] := by
          cases L with
          | nil => rfl
          | cons a L => simp at he
        subst this
        have e1 : PyData.eqv (.tuple []) (.tuple []) = true := by decide
        simp only [List.map_nil] at hcf ⊢
        simp [asgF, ifeF, andF, cmpF, tupF, nilA, varF, toB, hcf, keep1, frz, frzs, vw, view, cmpR, e1, dpt_nil, p8, LIM]
    · simp [callK, evS, evE, evA, evO, evI, seqS, retF, asgF, asgPF, asgMF, stiF, expF, iteF, forF, andF, orF, notF, ifeF, bltF, consA, nilA, varF, litF, tupF, lstF, dicF, binF, negF, cmpF, cmp2F, idxF, slcF, calF, mtwF, sclF, noO, someO, rngF, seqF, toB, toI, vws, vw, view, dview, frz, frzs, keep1, keeps, puts, prep1, prep, lend, giveBack, updR, isAl, isOl, isOwn, bindT, bindTs, fin, outs, outs1, bltR, isiR, tyN, lenR, absR, intR, lstR, valsR, tuplR, cmpR, idxR, slcR, binR, isNoneD, p5, l1, l2]
  by_cases he : (e && !L.isEmpty) = false
  · obtain ⟨σ2, q1, q2⟩ := fresh he
    exact ⟨_, σ2, p2 _, q1, q2⟩
  · simp only [Bool.not_eq_false, Bool.and_eq_true, Bool.not_eq_true'] at he
    obtain ⟨rfl, hne⟩ := he
    cases L with
    | nil => simp at hne
    | cons a L =>
      have ha := hb a (List.mem_cons_self ..)
      refine ⟨_, [some (.ol xs true), some (.d (.int most)), some (.d (.int (n : Nat))), some (.d (.str s)), some (.d (.int m)), some (.d (.tuple ((a :: L ++ [a]).map enc))), some (.d (.int ((most - 1 : Nat) : Int))), some (.d (.bool true)), some (.d (enc a))], p2 _, ?_, ⟨xs, a :: L ++ [a], _, _, rfl, rfl, rfl, hc, by simp at hl ⊢; omega, fun c hcm => by
        rcases List.mem_append.mp hcm with hcm | hcm
        · exact hb c hcm
        · simp at hcm; rw [hcm]; exact ha⟩⟩
      have e1 : PyData.eqv (.tuple (enc a :: L.map enc)) (.tuple []) = false := by simp [PyData.eqv, PyData.eqvAll]
      have a0 : L2.atI (enc a :: L.map enc) 0 = some (enc a) := by simp [L2.atI, L2.ixN]
      have l3 : L.length + 1 + 1 ≤ LIM := by simpa using l2
      simp only [bfor, b4]
      simp [callK, evS, evE, evA, evO, evI, seqS, retF, asgF, asgPF, asgMF, stiF, expF, iteF, forF, andF, orF, notF, ifeF, bltF, consA, nilA, varF, litF, tupF, lstF, dicF, binF, negF, cmpF, cmp2F, idxF, slcF, calF, mtwF, sclF, noO, someO, rngF, seqF, toB, toI, vws, vw, view, dview, frz, frzs, keep1, keeps, puts, prep1, prep, lend, giveBack, updR, isAl, isOl, isOwn, bindT, bindTs, fin, outs, outs1, bltR, isiR, tyN, lenR, absR, intR, lstR, valsR, tuplR, cmpR, idxR, slcR, binR, isNoneD, p8, p5, l1, l2, l3, m0, lm, e1, a0, dpt_nil]
theorem evS_cons {c : Cl} {W : Nat} {s ss : S} {σ : En} : evS c W (.cons s ss) σ = seqS (evS c W s) (evS c W ss) σ := by
  rw [evS]
theorem evS_for {c : Cl} {W : Nat} {p : Tg} {it : T} {b : S} {σ σ1 : En} {xs : List D} (h : evI c it σ = some (xs, σ1)) : evS c W (.for p it b) σ = forL (evS c W b) p xs σ1 := by
  rw [evS, forF, h]
theorem seq_ret {f g : Fs} {σ σ1 : En} {r : Res} (h : f σ = some (.ret r, σ1)) : seqS f g σ = some (.ret r, σ1) := by
  simp only [seqS, h]
theorem bush_ok : ∀ (most : Nat), most ≤ 1000 → ∀ (xs : List D), Cup xs → ∀ (W k : Nat), most + 3 < k → ∃ b xs', callK FsT W k 4 [.ol xs true, .d (.int most)] = some (.d (enc b), [.ol xs' true, .d (.int most)]) ∧ Cup xs' ∧ wf b = true ∧ ht b ≤ most ∧ kn b ≤ most := by
  intro most
  induction most using Nat.strongRecOn with
  | ind most IH =>
    intro hm xs hc W k hk
    obtain ⟨j, rfl⟩ : ∃ j, k = j + 1 := ⟨k - 1, by omega⟩
    by_cases h0 : most = 0
    · subst h0
      have e1 : dpt (.int 0) (.int 0) = true := by decide
      refine ⟨.tip, xs, ?_, hc, rfl, by simp [ht], by simp [kn]⟩
      have e2 : evS (callK FsT W j) W b4 [some (.ol xs true), some (.d (.int (0 : Nat))), none, none, none, none, none, none, none] = some (.ret (.d (enc .tip)), [some (.ol xs true), some (.d (.int (0 : Nat))), none, none, none, none, none, none, none]) := by
        refine (seq_ret (σ1 := [some (.ol xs true), some (.d (.int (0 : Nat))), none, none, none, none, none, none, none]) (r := .d (enc .tip)) ?_).trans rfl
        simp [callK, evS, evE, evA, evO, evI, seqS, retF, asgF, asgPF, asgMF, stiF, expF, iteF, forF, andF, orF, notF, ifeF, bltF, consA, nilA, varF, litF, tupF, lstF, dicF, binF, negF, cmpF, cmp2F, idxF, slcF, calF, mtwF, sclF, noO, someO, rngF, seqF, toB, toI, vws, vw, view, dview, frz, frzs, keep1, keeps, put, puts, prep1, prep, lend, giveBack, updR, isAl, isOl, isOwn, bindT, bindTs, fin, outs, outs1, bltR, isiR, tyN, lenR, absR, intR, lstR, valsR, tuplR, cmpR, idxR, slcR, binR, isNoneD, e1, PyData.eqv, enc, LIM]
      rw [call_ret (fd := f4) rfl rfl e2 rfl]
      simp [outs, outs1]
    · obtain ⟨v, x1, r1, c1, v0, v1⟩ := roll_ok xs hc 7 (by omega) (by omega) W j (by omega)
      have e0 : ∀ a b : Int, dpt (.int a) (.int b) = true := fun a b => by simp [dpt, PyData.depth]
      have em : ((most : Int) == 0) = false := by simpa using h0
      by_cases hv : v = 0
      · subst hv
        refine ⟨.tip, x1, ?_, c1, rfl, by simp [ht], by simp [kn]⟩
        have e2 : evS (callK FsT W j) W b4 [some (.ol xs true), some (.d (.int most)), none, none, none, none, none, none, none] = some (.ret (.d (enc .tip)), [some (.ol x1 true), some (.d (.int most)), none, none, none, none, none, none, none]) := by
          refine (seq_ret (σ1 := [some (.ol x1 true), some (.d (.int most)), none, none, none, none, none, none, none]) (r := .d (enc .tip)) ?_).trans rfl
          simp [callK, evS, evE, evA, evO, evI, seqS, retF, asgF, asgPF, asgMF, stiF, expF, iteF, forF, andF, orF, notF, ifeF, bltF, consA, nilA, varF, litF, tupF, lstF, dicF, binF, negF, cmpF, cmp2F, idxF, slcF, calF, mtwF, sclF, noO, someO, rngF, seqF, toB, toI, vws, vw, view, dview, frz, frzs, keep1, keeps, put, puts, prep1, prep, lend, giveBack, updR, isAl, isOl, isOwn, bindT, bindTs, fin, outs, outs1, bltR, isiR, tyN, lenR, absR, intR, lstR, valsR, tuplR, cmpR, idxR, slcR, binR, isNoneD, e0, em, r1, PyData.eqv, enc, LIM]
        rw [call_ret (fd := f4) rfl rfl e2 rfl]
        simp [outs, outs1]
      · obtain ⟨y1, x2, r2, c2, hy1⟩ := some_ok x1 c1 LS (by simp [LS]) (by simp [LS]) W j (by omega)
        obtain ⟨s, rfl, hs⟩ := ls_mem hy1
        obtain ⟨y2, x3, r3, c3, hy2⟩ := some_ok x2 c2 CS (by simp [CS]) (by simp [CS]) W j (by omega)
        obtain ⟨m, rfl, hm1, hm4⟩ := cs_mem hy2
        obtain ⟨v3, x4, r4, c4, _, _⟩ := roll_ok x3 c3 3 (by omega) (by omega) W j (by omega)
        simp only [LS] at r2
        simp only [CS] at r3
        have hq : (most - 1) / m ≤ most - 1 := Nat.div_le_self _ _
        have body := bush_body most m s (v3 == 0) ⟨hm1, hm4⟩ W j (fun xs hc => by
          have := IH ((most - 1) / m) (by omega) (by omega) xs hc W j (by omega)
          rw [Int.natCast_ediv] at this
          exact this)
        obtain ⟨σ', hf, hI⟩ := for_inv (BI most m s (v3 == 0)) body m 0 _ (by omega) ⟨x4, [], none, none, rfl, rfl, rfl, c4, rfl, fun b hb => by cases hb⟩
        rw [← rngI_range] at hf
        obtain ⟨x5, L, x2', x8', rfl, _, _, c5, hl, hL⟩ := hI
        refine ⟨.knot s (Bus.of L), x5, ?_, c5, ?_, ?_, ?_⟩
        · have ev : (v == 0) = false := by simpa using hv
          have ms : (most : Int) - 1 = ((most - 1 : Nat) : Int) := by omega
          have bm : b62 (m : Int) = true := b62_small (by omega) (by omega)
          have e1 : evS (callK FsT W j) W b4 [some (.ol xs true), some (.d (.int most)), none, none, none, none, none, none, none] = some (.ret (.d (enc (.knot s (Bus.of L)))), [some (.ol x5 true), some (.d (.int most)), x2', some (.d (.str s)), some (.d (.int m)), some (.d (.tuple (L.map enc))), some (.d (.int ((most - 1 : Nat) : Int))), some (.d (.bool (v3 == 0))), x8']) := by
            unfold b4
            refine evS_cons.trans ((seq_nx (σ1 := [some (.ol x1 true), some (.d (.int most)), none, none, none, none, none, none, none]) ?_).trans ?_)
            · simp [callK, evS, evE, evA, evO, evI, seqS, retF, asgF, asgPF, asgMF, stiF, expF, iteF, forF, andF, orF, notF, ifeF, bltF, consA, nilA, varF, litF, tupF, lstF, dicF, binF, negF, cmpF, cmp2F, idxF, slcF, calF, mtwF, sclF, noO, someO, rngF, seqF, toB, toI, vws, vw, view, dview, frz, frzs, keep1, keeps, put, puts, prep1, prep, lend, giveBack, updR, isAl, isOl, isOwn, bindT, bindTs, fin, outs, outs1, bltR, isiR, tyN, lenR, absR, intR, lstR, valsR, tuplR, cmpR, idxR, slcR, binR, isNoneD, e0, em, r1, PyData.eqv, LIM, ev]
            refine evS_cons.trans ((seq_nx (σ1 := [some (.ol x3 true), some (.d (.int most)), none, some (.d (.str s)), some (.d (.int m)), none, none, none, none]) ?_).trans ?_)
            · simp [callK, evS, evE, evA, evO, evI, seqS, retF, asgF, asgPF, asgMF, stiF, expF, iteF, forF, andF, orF, notF, ifeF, bltF, consA, nilA, varF, litF, tupF, lstF, dicF, binF, negF, cmpF, cmp2F, idxF, slcF, calF, mtwF, sclF, noO, someO, rngF, seqF, toB, toI, vws, vw, view, dview, frz, frzs, keep1, keeps, put, puts, prep1, prep, lend, giveBack, updR, isAl, isOl, isOwn, bindT, bindTs, fin, outs, outs1, bltR, isiR, tyN, lenR, absR, intR, lstR, valsR, tuplR, cmpR, idxR, slcR, binR, isNoneD, r2, r3, LIM]
            refine evS_cons.trans ((seq_nx (σ1 := [some (.ol x4 true), some (.d (.int most)), none, some (.d (.str s)), some (.d (.int m)), some (.d (.tuple [])), some (.d (.int ((most - 1 : Nat) : Int))), some (.d (.bool (v3 == 0))), none]) ?_).trans ?_)
            · simp [callK, evS, evE, evA, evO, evI, seqS, retF, asgF, asgPF, asgMF, stiF, expF, iteF, forF, andF, orF, notF, ifeF, bltF, consA, nilA, varF, litF, tupF, lstF, dicF, binF, negF, cmpF, cmp2F, idxF, slcF, calF, mtwF, sclF, noO, someO, rngF, seqF, toB, toI, vws, vw, view, dview, frz, frzs, keep1, keeps, put, puts, prep1, prep, lend, giveBack, updR, isAl, isOl, isOwn, bindT, bindTs, fin, outs, outs1, bltR, isiR, tyN, lenR, absR, intR, lstR, valsR, tuplR, cmpR, idxR, slcR, binR, isNoneD, r4, LIM, e0, ms, PyData.eqv]
            refine evS_cons.trans ((seq_nx (σ1 := [some (.ol x5 true), some (.d (.int most)), x2', some (.d (.str s)), some (.d (.int m)), some (.d (.tuple (L.map enc))), some (.d (.int ((most - 1 : Nat) : Int))), some (.d (.bool (v3 == 0))), x8']) ?_).trans ?_)
            · simp only [bfor, b4] at hf
              exact (evS_for (xs := rngI 0 (m : Int)) (σ1 := [some (.ol x4 true), some (.d (.int most)), none, some (.d (.str s)), some (.d (.int m)), some (.d (.tuple [])), some (.d (.int ((most - 1 : Nat) : Int))), some (.d (.bool (v3 == 0))), none]) (by simp [callK, evS, evE, evA, evO, evI, seqS, retF, asgF, asgPF, asgMF, stiF, expF, iteF, forF, andF, orF, notF, ifeF, bltF, consA, nilA, varF, litF, tupF, lstF, dicF, binF, negF, cmpF, cmp2F, idxF, slcF, calF, mtwF, sclF, noO, someO, rngF, seqF, toB, toI, vws, vw, view, dview, frz, frzs, keep1, keeps, put, puts, prep1, prep, lend, giveBack, updR, isAl, isOl, isOwn, bindT, bindTs, fin, outs, outs1, bltR, isiR, tyN, lenR, absR, intR, lstR, valsR, tuplR, cmpR, idxR, slcR, binR, isNoneD, bm])).trans hf
            · rw [evS_cons]
              have l1 : 1 + L.length ≤ LIM := by unfold LIM; omega
              have l2 : L.length + 1 ≤ LIM := by unfold LIM; omega
              have l3 : 1 ≤ LIM := by decide
              rw [enc_of]
              simp [callK, evS, evE, evA, evO, evI, seqS, retF, asgF, asgPF, asgMF, stiF, expF, iteF, forF, andF, orF, notF, ifeF, bltF, consA, nilA, varF, litF, tupF, lstF, dicF, binF, negF, cmpF, cmp2F, idxF, slcF, calF, mtwF, sclF, noO, someO, rngF, seqF, toB, toI, vws, vw, view, dview, frz, frzs, keep1, keeps, put, puts, prep1, prep, lend, giveBack, updR, isAl, isOl, isOwn, bindT, bindTs, fin, outs, outs1, bltR, isiR, tyN, lenR, absR, intR, lstR, valsR, tuplR, cmpR, idxR, slcR, binR, isNoneD, l1, l2, l3]
          rw [call_ret (fd := f4) rfl rfl e1 rfl]
          simp [outs, outs1]
        · simp only [wf, Bus.l_of, Bool.and_eq_true, decide_eq_true_eq]
          exact ⟨⟨hs, by omega, by omega⟩, of_wfs L fun b hb => (hL b hb).1⟩
        · have := of_hts L fun b hb => (hL b hb).2.1
          simp only [ht]
          omega
        · have h1 := of_kns L fun b hb => (hL b hb).2.2
          have h2 : L.length * ((most - 1) / m) ≤ most - 1 := by rw [hl]; exact Nat.mul_div_le _ _
          simp only [kn]
          omega
end TW
end

section
namespace TW
open PySem
def kA : Bu := .knot "a" (Bus.of [.tip])
def kF : Bu := .knot "f" (Bus.of [.tip, .tip])
def kB : Bu := .knot "b" (Bus.of [.tip])
def KN : List Bu := [kA, kF, kB, .knot "f" (Bus.of [kA, .tip]), .knot "f" (Bus.of [.tip, kA]), .knot "f" (Bus.of [kF, .tip]), .knot "g" (Bus.of [.tip, .tip, .tip]), .knot "f" (Bus.of [kA, kA]), .knot "f" (Bus.of [kB, kA]), .knot "a" (Bus.of [kF])]
theorem KN_ok : KN.all (fun b => wf b && decide (ht b ≤ 4 ∧ kn b ≤ 4)) = true := by decide +kernel
theorem known_ok (xs : List D) (hc : Cup xs) (W k : Nat) (hk : 2 < k) : ∃ b xs', callK FsT W k 5 [.ol xs true] = some (.d (enc b), [.ol xs' true]) ∧ Cup xs' ∧ wf b = true ∧ ht b ≤ 4 ∧ kn b ≤ 4 := by
  obtain ⟨j, rfl⟩ : ∃ j, k = j + 1 := ⟨k - 1, by omega⟩
  obtain ⟨y, x1, r1, c1, hy⟩ := some_ok xs hc (KN.map enc) (by simp [KN]) (by simp [KN]) W j (by omega)
  obtain ⟨b, hb, rfl⟩ := List.mem_map.mp hy
  have hk := List.all_eq_true.mp KN_ok b hb
  simp only [Bool.and_eq_true, decide_eq_true_eq] at hk
  refine ⟨b, x1, ?_, c1, hk.1, hk.2.1, hk.2.2⟩
  simp only [KN, kA, kF, kB, Bus.of, enc, encs, List.map_cons, List.map_nil] at r1
  simp [FsT, f5, b5, callK, evS, evE, evA, evO, evI, seqS, retF, asgF, asgPF, asgMF, stiF, expF, iteF, forF, andF, orF, notF, ifeF, bltF, consA, nilA, varF, litF, tupF, lstF, dicF, binF, negF, cmpF, cmp2F, idxF, slcF, calF, mtwF, sclF, noO, someO, rngF, seqF, toB, toI, vws, vw, view, dview, frz, frzs, keep1, keeps, put, puts, prep1, prep, lend, giveBack, updR, isAl, isOl, isOwn, bindT, bindTs, fin, outs, outs1, bltR, isiR, tyN, lenR, absR, intR, lstR, valsR, tuplR, cmpR, idxR, slcR, binR, isNoneD, LIM, r1]
theorem growth_ok (xs : List D) (hc : Cup xs) (W k : Nat) (hk : 8 < k) : ∃ b xs', callK FsT W k 42 [.ol xs true, .d (.int 4)] = some (.d (enc b), [.ol xs' true, .d (.int 4)]) ∧ Cup xs' ∧ wf b = true ∧ ht b ≤ 4 ∧ kn b ≤ 4 := by
  obtain ⟨j, rfl⟩ : ∃ j, k = j + 1 := ⟨k - 1, by omega⟩
  obtain ⟨b, x1, r1, c1, w1, h1, h2⟩ := bush_ok 4 (by omega) xs hc W j (by omega)
  have r1' : callK FsT W j 4 [.ol xs true, .d (.int 4)] = some (.d (enc b), [.ol x1 true, .d (.int 4)]) := r1
  by_cases ht : isTip b = true
  · cases b with
    | knot s bs => simp [isTip] at ht
    | tip =>
      obtain ⟨y, x2, r2, c2, hy⟩ := some_ok x1 c1 [.str "a", .str "b"] (by simp) (by simp) W j (by omega)
      obtain ⟨v, x3, r3, c3, v0, v1⟩ := roll_ok x2 c2 3 (by omega) (by omega) W j (by omega)
      obtain ⟨s, rfl, hs⟩ : ∃ s, y = .str s ∧ letB s = true := by
        simp only [List.mem_cons, List.not_mem_nil, or_false] at hy
        rcases hy with h | h <;> exact ⟨_, h, by decide⟩
      have hw : v = 0 ∨ v = 1 ∨ v = 2 := by omega
      have e1 : PyData.eqv (.tuple []) (.tuple []) = true := by decide
      have l1 : 1 ≤ LIM := by decide
      refine ⟨.knot s (Bus.of (List.replicate (1 + v).toNat .tip)), x3, ?_, c3, ?_, ?_, ?_⟩
      · simp only [enc] at r1'
        rw [enc_of]
        rcases hw with rfl | rfl | rfl
        · simp [FsT, f42, b42, callK, evS, evE, evA, evO, evI, seqS, retF, asgF, asgPF, asgMF, stiF, expF, iteF, forF, andF, orF, notF, ifeF, bltF, consA, nilA, varF, litF, tupF, lstF, dicF, binF, negF, cmpF, cmp2F, idxF, slcF, calF, mtwF, sclF, noO, someO, rngF, seqF, toB, toI, vws, vw, view, dview, frz, frzs, keep1, keeps, put, puts, prep1, prep, lend, giveBack, updR, isAl, isOl, isOwn, bindT, bindTs, fin, outs, outs1, bltR, isiR, tyN, lenR, absR, intR, lstR, valsR, tuplR, cmpR, idxR, slcR, binR, isNoneD, LIM, r1', r2, r3, dpt_nil, e1, enc]
        · simp [FsT, f42, b42, callK, evS, evE, evA, evO, evI, seqS, retF, asgF, asgPF, asgMF, stiF, expF, iteF, forF, andF, orF, notF, ifeF, bltF, consA, nilA, varF, litF, tupF, lstF, dicF, binF, negF, cmpF, cmp2F, idxF, slcF, calF, mtwF, sclF, noO, someO, rngF, seqF, toB, toI, vws, vw, view, dview, frz, frzs, keep1, keeps, put, puts, prep1, prep, lend, giveBack, updR, isAl, isOl, isOwn, bindT, bindTs, fin, outs, outs1, bltR, isiR, tyN, lenR, absR, intR, lstR, valsR, tuplR, cmpR, idxR, slcR, binR, isNoneD, LIM, r1', r2, r3, dpt_nil, e1, enc]
        · simp [FsT, f42, b42, callK, evS, evE, evA, evO, evI, seqS, retF, asgF, asgPF, asgMF, stiF, expF, iteF, forF, andF, orF, notF, ifeF, bltF, consA, nilA, varF, litF, tupF, lstF, dicF, binF, negF, cmpF, cmp2F, idxF, slcF, calF, mtwF, sclF, noO, someO, rngF, seqF, toB, toI, vws, vw, view, dview, frz, frzs, keep1, keeps, put, puts, prep1, prep, lend, giveBack, updR, isAl, isOl, isOwn, bindT, bindTs, fin, outs, outs1, bltR, isiR, tyN, lenR, absR, intR, lstR, valsR, tuplR, cmpR, idxR, slcR, binR, isNoneD, LIM, r1', r2, r3, dpt_nil, e1, enc]
      · rcases hw with rfl | rfl | rfl <;> simp [wf, wfs, Bus.of, Bus.l, hs]
      · rcases hw with rfl | rfl | rfl <;> simp [TW.ht, hts, Bus.of]
      · rcases hw with rfl | rfl | rfl <;> simp [kn, kns, Bus.of]
  · have e1 := eqv_enc_tip b
    have ht' : isTip b = false := by simpa using ht
    rw [ht'] at e1
    refine ⟨b, x1, ?_, c1, w1, h1, h2⟩
    simp [FsT, f42, b42, callK, evS, evE, evA, evO, evI, seqS, retF, asgF, asgPF, asgMF, stiF, expF, iteF, forF, andF, orF, notF, ifeF, bltF, consA, nilA, varF, litF, tupF, lstF, dicF, binF, negF, cmpF, cmp2F, idxF, slcF, calF, mtwF, sclF, noO, someO, rngF, seqF, toB, toI, vws, vw, view, dview, frz, frzs, keep1, keeps, put, puts, prep1, prep, lend, giveBack, updR, isAl, isOl, isOwn, bindT, bindTs, fin, outs, outs1, bltR, isiR, tyN, lenR, absR, intR, lstR, valsR, tuplR, cmpR, idxR, slcR, binR, isNoneD, LIM, r1', dpt_nil, e1]
end TW
end

section
namespace TW
open PySem
theorem put_at {σ : En} {i : Nat} {v : Rv} (hl : i < σ.length) (h : isOwn ((σ[i]?).getD none) = false) : put i v σ = some (σ.set i (some v)) := by
  have e : σ[i]? = some (σ[i]) := by simp [hl]
  exact put_free (x := σ[i]) e (by rw [e] at h; exact h)
structure Good (gs : List Bu) : Prop where
  g : ∀ g ∈ gs, wf g = true ∧ ht g ≤ 4 ∧ kn g ≤ 4
  p : (F3 gs).1 + (F3 gs).2.1 ≤ 90
def RI (n : Nat) (σ : En) : Prop := ∃ (xs : List D) (gs : List Bu) (x4 x5 x6 x7 x8 x9 x10 : Option Rv), σ = [some (.ol xs true), some (.d (.int 5)), some (.d (.int 90)), some (.d (.tuple (gs.map enc))), x4, x5, x6, x7, x8, x9, x10] ∧
  isOwn x4 = false ∧ isOwn x5 = false ∧ isOwn x6 = false ∧ isOwn x7 = false ∧ isOwn x8 = false ∧ isOwn x9 = false ∧ isOwn x10 = false ∧ Cup xs ∧ gs.length ≤ n ∧ Good gs
def rfor : S := match b157 with
  | .cons _ (.cons (.for _ _ b) _) => b
  | _ => .nil
theorem sz_pre {gs : List Bu} (h : ∀ g ∈ gs, wf g = true ∧ ht g ≤ 4 ∧ kn g ≤ 4) : ∀ g ∈ gs, wf g = true ∧ ht g ≤ 1000 ∧ cnt g ≤ 5000 := fun g hg => by
  obtain ⟨h1, h2, h3⟩ := h g hg
  have := tp_kn g h1
  exact ⟨h1, by omega, by simp only [cnt]; omega⟩
theorem row_body (W j : Nat) (hW : 6000 ≤ W) (hj : 20 ≤ j) (n : Nat) (σ : En) (hn : n < 6) (h : RI n σ) : ∃ σ1 σ2, bindT (.nm 4) (.int (n : Nat)) σ = some σ1 ∧ evS (callK FsT W j) W rfor σ1 = some (.nx, σ2) ∧ RI (n + 1) σ2 := by
  obtain ⟨xs, gs, x4, x5, x6, x7, x8, x9, x10, rfl, h4, h5, h6, h7, h8, h9, h10, hc, hl, hg⟩ := h
  obtain ⟨v, y1, r1, c1, v0, v1⟩ := roll_ok xs hc 9 (by omega) (by omega) W j (by omega)
  have e0 : ∀ a b : Int, dpt (.int a) (.int b) = true := fun a b => by simp [dpt, PyData.depth]
  -- the growth
  have hB : ∃ g y2, ifeF (cmpF .Eq (varF 5) (litF (.int 0))) (tupF nilA) (ifeF (cmpF .Lt (varF 5) (litF (.int 5))) (calF (callK FsT W j) 5 [true] (consA (varF 0) nilA)) (calF (callK FsT W j) 42 [true, false] (consA (varF 0) (consA (litF (.int 4)) nilA))))
      [some (.ol y1 true), some (.d (.int 5)), some (.d (.int 90)), some (.d (.tuple (gs.map enc))), some (.d (.int (n : Nat))), some (.d (.int v)), x6, x7, x8, x9, x10] =
      some (.d (enc g), [some (.ol y2 true), some (.d (.int 5)), some (.d (.int 90)), some (.d (.tuple (gs.map enc))), some (.d (.int (n : Nat))), some (.d (.int v)), x6, x7, x8, x9, x10]) ∧ Cup y2 ∧ wf g = true ∧ ht g ≤ 4 ∧ kn g ≤ 4 := by
    by_cases hv : v = 0
    · subst hv
      refine ⟨.tip, y1, ?_, c1, rfl, by simp [ht], by simp [kn]⟩
      simp [callK, evS, evE, evA, evO, evI, seqS, retF, asgF, asgPF, asgMF, stiF, expF, iteF, forF, andF, orF, notF, ifeF, bltF, consA, nilA, varF, litF, tupF, lstF, dicF, binF, negF, cmpF, cmp2F, idxF, slcF, calF, mtwF, sclF, noO, someO, rngF, seqF, toB, toI, vws, vw, view, dview, frz, frzs, keep1, keeps, puts, prep1, prep, lend, giveBack, updR, isAl, isOl, isOwn, bindT, bindTs, fin, outs, outs1, bltR, isiR, tyN, lenR, absR, intR, lstR, valsR, tuplR, cmpR, idxR, slcR, binR, isNoneD, e0, PyData.eqv, enc, LIM]
    · have ev : (v == 0) = false := by simpa using hv
      by_cases hv5 : v < 5
      · obtain ⟨g, y2, r2, c2, w⟩ := known_ok y1 c1 W j (by omega)
        refine ⟨g, y2, ?_, c2, w⟩
        simp [callK, evS, evE, evA, evO, evI, seqS, retF, asgF, asgPF, asgMF, stiF, expF, iteF, forF, andF, orF, notF, ifeF, bltF, consA, nilA, varF, litF, tupF, lstF, dicF, binF, negF, cmpF, cmp2F, idxF, slcF, calF, mtwF, sclF, noO, someO, rngF, seqF, toB, toI, vws, vw, view, dview, frz, frzs, keep1, keeps, puts, prep1, prep, lend, giveBack, updR, isAl, isOl, isOwn, bindT, bindTs, fin, outs, outs1, bltR, isiR, tyN, lenR, absR, intR, lstR, valsR, tuplR, cmpR, idxR, slcR, binR, isNoneD, e0, PyData.eqv, ev, hv5, r2]
      · obtain ⟨g, y2, r2, c2, w⟩ := growth_ok y1 c1 W j (by omega)
        refine ⟨g, y2, ?_, c2, w⟩
        simp [callK, evS, evE, evA, evO, evI, seqS, retF, asgF, asgPF, asgMF, stiF, expF, iteF, forF, andF, orF, notF, ifeF, bltF, consA, nilA, varF, litF, tupF, lstF, dicF, binF, negF, cmpF, cmp2F, idxF, slcF, calF, mtwF, sclF, noO, someO, rngF, seqF, toB, toI, vws, vw, view, dview, frz, frzs, keep1, keeps, puts, prep1, prep, lend, giveBack, updR, isAl, isOl, isOwn, bindT, bindTs, fin, outs, outs1, bltR, isiR, tyN, lenR, absR, intR, lstR, valsR, tuplR, cmpR, idxR, slcR, binR, isNoneD, e0, PyData.eqv, ev, hv5, r2]
  obtain ⟨g, y2, hB, c2, hgg⟩ := hB
  have hall : ∀ x ∈ gs ++ [g], wf x = true ∧ ht x ≤ 4 ∧ kn x ≤ 4 := fun x hx => by
    rcases List.mem_append.mp hx with hx | hx
    · exact hg.g x hx
    · simp at hx; rw [hx]; exact hgg
  have h41 := sizes_ok (gs ++ [g]) (sz_pre hall) W j hW (by omega)
  have l1 : gs.length + 1 ≤ LIM := by unfold LIM; omega
  have l2 : 1 ≤ LIM := by decide
  simp only [List.map_append, List.map_cons, List.map_nil] at h41
  have p4 : put 4 (.d (.int (n : Nat))) [some (.ol xs true), some (.d (.int 5)), some (.d (.int 90)), some (.d (.tuple (gs.map enc))), x4, x5, x6, x7, x8, x9, x10] = some [some (.ol xs true), some (.d (.int 5)), some (.d (.int 90)), some (.d (.tuple (gs.map enc))), some (.d (.int (n : Nat))), x5, x6, x7, x8, x9, x10] := put_free rfl h4
  have p5 : ∀ (u0 u1 u2 u3 u4 : Option Rv) z, put 5 z [u0, u1, u2, u3, u4, x5, x6, x7, x8, x9, x10] = some [u0, u1, u2, u3, u4, some z, x6, x7, x8, x9, x10] := fun _ _ _ _ _ _ => put_free rfl h5
  have p6 : ∀ (u0 u1 u2 u3 u4 u5 : Option Rv) z, put 6 z [u0, u1, u2, u3, u4, u5, x6, x7, x8, x9, x10] = some [u0, u1, u2, u3, u4, u5, some z, x7, x8, x9, x10] := fun _ _ _ _ _ _ _ => put_free rfl h6
  have p7 : ∀ (u0 u1 u2 u3 u4 u5 u6 : Option Rv) z, put 7 z [u0, u1, u2, u3, u4, u5, u6, x7, x8, x9, x10] = some [u0, u1, u2, u3, u4, u5, u6, some z, x8, x9, x10] := fun _ _ _ _ _ _ _ _ => put_free rfl h7
  have p8 : ∀ (u0 u1 u2 u3 u4 u5 u6 u7 : Option Rv) z, put 8 z [u0, u1, u2, u3, u4, u5, u6, u7, x8, x9, x10] = some [u0, u1, u2, u3, u4, u5, u6, u7, some z, x9, x10] := fun _ _ _ _ _ _ _ _ _ => put_free rfl h8
  have p9 : ∀ (u0 u1 u2 u3 u4 u5 u6 u7 u8 : Option Rv) z, put 9 z [u0, u1, u2, u3, u4, u5, u6, u7, u8, x9, x10] = some [u0, u1, u2, u3, u4, u5, u6, u7, u8, some z, x10] := fun _ _ _ _ _ _ _ _ _ _ => put_free rfl h9
  have p10 : ∀ (u0 u1 u2 u3 u4 u5 u6 u7 u8 u9 : Option Rv) z, put 10 z [u0, u1, u2, u3, u4, u5, u6, u7, u8, u9, x10] = some [u0, u1, u2, u3, u4, u5, u6, u7, u8, u9, some z] := fun _ _ _ _ _ _ _ _ _ _ _ => put_free rfl h10
  have p3 : ∀ (u0 u1 u2 u4 u5 u6 u7 u8 u9 u10 : Option Rv) x z, put 3 z [u0, u1, u2, some (.d x), u4, u5, u6, u7, u8, u9, u10] = some [u0, u1, u2, some z, u4, u5, u6, u7, u8, u9, u10] := fun _ _ _ _ _ _ _ _ _ _ _ _ => rfl
  obtain ⟨K, T, N, H, hF⟩ : ∃ (K T : Nat) (N : Int) (H : Nat), (F3 (gs ++ [g])).1 = K ∧ (F3 (gs ++ [g])).2.1 = T ∧ NR (gs ++ [g]) = N ∧ (F3 (gs ++ [g])).2.2 = H := ⟨_, _, _, _, rfl, rfl, rfl, rfl⟩
  obtain ⟨f1, f2, f3, f4⟩ := hF
  rw [f1, f2, f3, f4] at h41
  have hABC : ∀ (s4 : S) (σ2 : En), evS (callK FsT W j) W s4 [some (.ol y2 true), some (.d (.int 5)), some (.d (.int 90)), some (.d (.tuple (gs.map enc))), some (.d (.int (n : Nat))), some (.d (.int v)), some (.d (enc g)), some (.d (.int K)), some (.d (.int T)), some (.d (.int N)), some (.d (.int H))] = some (.nx, σ2) →
      (match rfor with
        | .cons _ (.cons _ (.cons _ s)) => s
        | _ => .nil) = s4 → evS (callK FsT W j) W rfor [some (.ol xs true), some (.d (.int 5)), some (.d (.int 90)), some (.d (.tuple (gs.map enc))), some (.d (.int (n : Nat))), x5, x6, x7, x8, x9, x10] = some (.nx, σ2) := fun s4 σ2 hs e => by
    subst e
    simp only [rfor, b157] at hs ⊢
    refine evS_cons.trans ((seq_nx (σ1 := [some (.ol y1 true), some (.d (.int 5)), some (.d (.int 90)), some (.d (.tuple (gs.map enc))), some (.d (.int (n : Nat))), some (.d (.int v)), x6, x7, x8, x9, x10]) ?_).trans ?_)
    · simp [callK, evS, evE, evA, evO, evI, seqS, retF, asgF, asgPF, asgMF, stiF, expF, iteF, forF, andF, orF, notF, ifeF, bltF, consA, nilA, varF, litF, tupF, lstF, dicF, binF, negF, cmpF, cmp2F, idxF, slcF, calF, mtwF, sclF, noO, someO, rngF, seqF, toB, toI, vws, vw, view, dview, frz, frzs, keep1, keeps, puts, prep1, prep, lend, giveBack, updR, isAl, isOl, isOwn, bindT, bindTs, fin, outs, outs1, bltR, isiR, tyN, lenR, absR, intR, lstR, valsR, tuplR, cmpR, idxR, slcR, binR, isNoneD, r1, p5]
    refine evS_cons.trans ((seq_nx (σ1 := [some (.ol y2 true), some (.d (.int 5)), some (.d (.int 90)), some (.d (.tuple (gs.map enc))), some (.d (.int (n : Nat))), some (.d (.int v)), some (.d (enc g)), x7, x8, x9, x10]) ?_).trans ?_)
    · simp only [evS, evE, evA, asgF, hB, keep1, frz, p6, Option.map_some]
    refine evS_cons.trans ((seq_nx (σ1 := [some (.ol y2 true), some (.d (.int 5)), some (.d (.int 90)), some (.d (.tuple (gs.map enc))), some (.d (.int (n : Nat))), some (.d (.int v)), some (.d (enc g)), some (.d (.int K)), some (.d (.int T)), some (.d (.int N)), some (.d (.int H))]) ?_).trans ?_)
    · simp [callK, evS, evE, evA, evO, evI, seqS, retF, asgF, asgPF, asgMF, stiF, expF, iteF, forF, andF, orF, notF, ifeF, bltF, consA, nilA, varF, litF, tupF, lstF, dicF, binF, negF, cmpF, cmp2F, idxF, slcF, calF, mtwF, sclF, noO, someO, rngF, seqF, toB, toI, vws, vw, view, dview, frz, frzs, keep1, keeps, puts, prep1, prep, lend, giveBack, updR, isAl, isOl, isOwn, bindT, bindTs, fin, outs, outs1, bltR, isiR, tyN, lenR, absR, intR, lstR, valsR, tuplR, cmpR, idxR, slcR, binR, isNoneD, h41, l1, l2, p7, p8, p9, p10]
    exact hs
  by_cases hk : ((K : Int) + (T : Int) ≤ 90 ∧ (H : Int) ≤ 60)
  · refine ⟨_, [some (.ol y2 true), some (.d (.int 5)), some (.d (.int 90)), some (.d (.tuple ((gs ++ [g]).map enc))), some (.d (.int (n : Nat))), some (.d (.int v)), some (.d (enc g)), some (.d (.int K)), some (.d (.int T)), some (.d (.int N)), some (.d (.int H))], p4, hABC _ _ ?_ rfl, ⟨y2, gs ++ [g], _, _, _, _, _, _, _, rfl, rfl, rfl, rfl, rfl, rfl, rfl, rfl, c2, by simp; omega, ⟨hall, by rw [f1, f2]; omega⟩⟩⟩
    obtain ⟨hk1, hk2⟩ := hk
    simp only [rfor, b157]
    simp [callK, evS, evE, evA, evO, evI, seqS, retF, asgF, asgPF, asgMF, stiF, expF, iteF, forF, andF, orF, notF, ifeF, bltF, consA, nilA, varF, litF, tupF, lstF, dicF, binF, negF, cmpF, cmp2F, idxF, slcF, calF, mtwF, sclF, noO, someO, rngF, seqF, toB, toI, vws, vw, view, dview, frz, frzs, keep1, keeps, puts, prep1, prep, lend, giveBack, updR, isAl, isOl, isOwn, bindT, bindTs, fin, outs, outs1, bltR, isiR, tyN, lenR, absR, intR, lstR, valsR, tuplR, cmpR, idxR, slcR, binR, isNoneD, hk1, hk2, p3, l1, l2]
  · refine ⟨_, [some (.ol y2 true), some (.d (.int 5)), some (.d (.int 90)), some (.d (.tuple (gs.map enc))), some (.d (.int (n : Nat))), some (.d (.int v)), some (.d (enc g)), some (.d (.int K)), some (.d (.int T)), some (.d (.int N)), some (.d (.int H))], p4, hABC _ _ ?_ rfl, ⟨y2, gs, _, _, _, _, _, _, _, rfl, rfl, rfl, rfl, rfl, rfl, rfl, rfl, c2, by omega, hg⟩⟩
    simp only [rfor, b157]
    by_cases hk1 : (K : Int) + (T : Int) ≤ 90
    · have hk2 : ¬ (H : Int) ≤ 60 := fun h => hk ⟨hk1, h⟩
      simp [callK, evS, evE, evA, evO, evI, seqS, retF, asgF, asgPF, asgMF, stiF, expF, iteF, forF, andF, orF, notF, ifeF, bltF, consA, nilA, varF, litF, tupF, lstF, dicF, binF, negF, cmpF, cmp2F, idxF, slcF, calF, mtwF, sclF, noO, someO, rngF, seqF, toB, toI, vws, vw, view, dview, frz, frzs, keep1, keeps, puts, prep1, prep, lend, giveBack, updR, isAl, isOl, isOwn, bindT, bindTs, fin, outs, outs1, bltR, isiR, tyN, lenR, absR, intR, lstR, valsR, tuplR, cmpR, idxR, slcR, binR, isNoneD, hk1, hk2, p3, l1, l2]
    · simp [callK, evS, evE, evA, evO, evI, seqS, retF, asgF, asgPF, asgMF, stiF, expF, iteF, forF, andF, orF, notF, ifeF, bltF, consA, nilA, varF, litF, tupF, lstF, dicF, binF, negF, cmpF, cmp2F, idxF, slcF, calF, mtwF, sclF, noO, someO, rngF, seqF, toB, toI, vws, vw, view, dview, frz, frzs, keep1, keeps, puts, prep1, prep, lend, giveBack, updR, isAl, isOl, isOwn, bindT, bindTs, fin, outs, outs1, bltR, isiR, tyN, lenR, absR, intR, lstR, valsR, tuplR, cmpR, idxR, slcR, binR, isNoneD, hk1, p3, l1, l2]
theorem row_ok (xs : List D) (hc : Cup xs) (W k : Nat) (hW : 6000 ≤ W) (hk : 30 ≤ k) : ∃ gs xs', callK FsT W k 157 [.ol xs true, .d (.int 5), .d (.int 90)] = some (.d (.tuple (gs.map enc)), [.ol xs' true, .d (.int 5), .d (.int 90)]) ∧ Cup xs' ∧ gs.length ≤ 5 ∧ Good gs := by
  obtain ⟨j, rfl⟩ : ∃ j, k = j + 1 := ⟨k - 1, by omega⟩
  obtain ⟨v, y1, r1, c1, v0, v1⟩ := roll_ok xs hc 6 (by omega) (by omega) W j (by omega)
  obtain ⟨m, rfl⟩ := Int.eq_ofNat_of_zero_le v0
  obtain ⟨σ', hf, hI⟩ := for_inv (N := m) RI (fun n σ hn h => row_body W j hW (by omega) n σ (by omega) h) m 0 _ (by omega) ⟨y1, [], none, none, none, none, none, none, none, rfl, rfl, rfl, rfl, rfl, rfl, rfl, rfl, c1, Nat.le_refl _, ⟨(fun g hg => by cases hg), by simp [F3, mof, kn, tp]⟩⟩
  rw [← rngI_range] at hf
  obtain ⟨y2, gs, x4, x5, x6, x7, x8, x9, x10, rfl, _, _, _, _, _, _, _, c2, hl, hg⟩ := hI
  refine ⟨gs, y2, ?_, c2, by omega, hg⟩
  have e1 : evS (callK FsT W j) W b157 [some (.ol xs true), some (.d (.int 5)), some (.d (.int 90)), none, none, none, none, none, none, none, none] = some (.ret (.d (.tuple (gs.map enc))), [some (.ol y2 true), some (.d (.int 5)), some (.d (.int 90)), some (.d (.tuple (gs.map enc))), x4, x5, x6, x7, x8, x9, x10]) := by
    have bm : b62 (m : Int) = true := b62_small (by omega) (by omega)
    unfold b157
    refine evS_cons.trans ((seq_nx (σ1 := [some (.ol xs true), some (.d (.int 5)), some (.d (.int 90)), some (.d (.tuple [])), none, none, none, none, none, none, none]) ?_).trans ?_)
    · simp [callK, evS, evE, evA, evO, evI, seqS, retF, asgF, asgPF, asgMF, stiF, expF, iteF, forF, andF, orF, notF, ifeF, bltF, consA, nilA, varF, litF, tupF, lstF, dicF, binF, negF, cmpF, cmp2F, idxF, slcF, calF, mtwF, sclF, noO, someO, rngF, seqF, toB, toI, vws, vw, view, dview, frz, frzs, keep1, keeps, put, puts, prep1, prep, lend, giveBack, updR, isAl, isOl, isOwn, bindT, bindTs, fin, outs, outs1, bltR, isiR, tyN, lenR, absR, intR, lstR, valsR, tuplR, cmpR, idxR, slcR, binR, isNoneD, LIM]
    refine evS_cons.trans ((seq_nx (σ1 := [some (.ol y2 true), some (.d (.int 5)), some (.d (.int 90)), some (.d (.tuple (gs.map enc))), x4, x5, x6, x7, x8, x9, x10]) ?_).trans ?_)
    · simp only [rfor, b157] at hf
      exact (evS_for (xs := rngI 0 (m : Int)) (σ1 := [some (.ol y1 true), some (.d (.int 5)), some (.d (.int 90)), some (.d (.tuple [])), none, none, none, none, none, none, none]) (by simp [callK, evS, evE, evA, evO, evI, seqS, retF, asgF, asgPF, asgMF, stiF, expF, iteF, forF, andF, orF, notF, ifeF, bltF, consA, nilA, varF, litF, tupF, lstF, dicF, binF, negF, cmpF, cmp2F, idxF, slcF, calF, mtwF, sclF, noO, someO, rngF, seqF, toB, toI, vws, vw, view, dview, frz, frzs, keep1, keeps, put, puts, prep1, prep, lend, giveBack, updR, isAl, isOl, isOwn, bindT, bindTs, fin, outs, outs1, bltR, isiR, tyN, lenR, absR, intR, lstR, valsR, tuplR, cmpR, idxR, slcR, binR, isNoneD, r1, bm])).trans hf
    · rw [evS_cons]
      simp [callK, evS, evE, evA, evO, evI, seqS, retF, asgF, asgPF, asgMF, stiF, expF, iteF, forF, andF, orF, notF, ifeF, bltF, consA, nilA, varF, litF, tupF, lstF, dicF, binF, negF, cmpF, cmp2F, idxF, slcF, calF, mtwF, sclF, noO, someO, rngF, seqF, toB, toI, vws, vw, view, dview, frz, frzs, keep1, keeps, put, puts, prep1, prep, lend, giveBack, updR, isAl, isOl, isOwn, bindT, bindTs, fin, outs, outs1, bltR, isiR, tyN, lenR, absR, intR, lstR, valsR, tuplR, cmpR, idxR, slcR, binR, isNoneD]
  rw [call_ret (fd := f157) rfl rfl e1 rfl]
  simp [outs, outs1]
theorem Good.deep {gs : List Bu} (h : Good gs) (hl : gs.length ≤ 5) : (gs.map ht).sum ≤ 20 := by
  have : ∀ l : List Bu, (∀ g ∈ l, ht g ≤ 4) → (l.map ht).sum ≤ 4 * l.length := fun l => by
    induction l with
    | nil => intro _; simp
    | cons a l ih =>
      intro h
      have h1 := h a (List.mem_cons_self ..)
      have h2 := ih fun x hx => h x (List.mem_cons_of_mem _ hx)
      simp only [List.map_cons, List.sum_cons, List.length_cons]
      omega
  have := this gs fun g hg => (h.g g hg).2.1
  omega
theorem Good.fit {gs : List Bu} (h : Good gs) (hl : gs.length ≤ 5) : Fit .tip gs := by
  have := h.deep hl
  have p := h.p
  refine ⟨rfl, fun g hg => (h.g g hg).1, by omega, ?_, by simp only [ht]; omega⟩
  simp only [F3] at p
  omega
end TW
end

section
namespace TW
open PySem
def fitB (b : Bu) (gs : List Bu) : Bool := wf b && gs.all wf && decide (gs.length ≤ 12) && decide ((gs.foldl mstep (mof b)).1 + (gs.foldl mstep (mof b)).2.1 ≤ 400) && decide (ht b + (gs.map ht).sum ≤ 60)
theorem fit_of {b : Bu} {gs : List Bu} (h : fitB b gs = true) : Fit b gs := by
  simp only [fitB, Bool.and_eq_true, decide_eq_true_eq, List.all_eq_true] at h
  exact ⟨h.1.1.1.1, h.1.1.1.2, h.1.1.2, h.1.2, h.2⟩
def chain : Nat → Bu
  | 0 => .tip
  | n + 1 => .knot "s" (.cons (chain n) .nil)
theorem chain_ok (m : Nat) (hm : m ≤ 100) (W k : Nat) (hk : 0 < k) : callK FsT W k 127 [.d (.int m)] = some (.d (enc (chain m)), [.d (.int m)]) := by
  obtain ⟨j, rfl⟩ : ∃ j, k = j + 1 := ⟨k - 1, by omega⟩
  obtain ⟨σ', hf, hI⟩ := for_inv (p := .nm 2) (body := evS (callK FsT W j) W (match b127 with
      | .cons _ (.cons (.for _ _ b) _) => b
      | _ => .nil)) (N := m) (fun n σ => ∃ x : Option Rv, isOwn x = false ∧ σ = [some (.d (.int m)), some (.d (enc (chain n))), x]) (fun n σ hn h => by
    obtain ⟨x, hx, rfl⟩ := h
    refine ⟨[some (.d (.int m)), some (.d (enc (chain n))), some (.d (.int (n : Nat)))], [some (.d (.int m)), some (.d (enc (chain (n + 1)))), some (.d (.int (n : Nat)))], put_free rfl hx, ?_, _, rfl, rfl⟩
    simp only [b127]
    simp [callK, evS, evE, evA, evO, evI, seqS, retF, asgF, asgPF, asgMF, stiF, expF, iteF, forF, andF, orF, notF, ifeF, bltF, consA, nilA, varF, litF, tupF, lstF, dicF, binF, negF, cmpF, cmp2F, idxF, slcF, calF, mtwF, sclF, noO, someO, rngF, seqF, toB, toI, vws, vw, view, dview, frz, frzs, keep1, keeps, put, puts, prep1, prep, lend, giveBack, updR, isAl, isOl, isOwn, bindT, bindTs, fin, outs, outs1, bltR, isiR, tyN, lenR, absR, intR, lstR, valsR, tuplR, cmpR, idxR, slcR, binR, isNoneD, LIM, chain, enc, encs]) m 0 _ (by omega) ⟨none, rfl, rfl⟩
  obtain ⟨x, hx, rfl⟩ := hI
  rw [← rngI_range] at hf
  have bm : b62 (m : Int) = true := b62_small (by omega) (by omega)
  have e1 : evS (callK FsT W j) W b127 [some (.d (.int m)), none, none] = some (.ret (.d (enc (chain m))), [some (.d (.int m)), some (.d (enc (chain m))), x]) := by
    unfold b127
    refine evS_cons.trans ((seq_nx (σ1 := [some (.d (.int m)), some (.d (enc .tip)), none]) ?_).trans ?_)
    · simp [callK, evS, evE, evA, evO, evI, seqS, retF, asgF, asgPF, asgMF, stiF, expF, iteF, forF, andF, orF, notF, ifeF, bltF, consA, nilA, varF, litF, tupF, lstF, dicF, binF, negF, cmpF, cmp2F, idxF, slcF, calF, mtwF, sclF, noO, someO, rngF, seqF, toB, toI, vws, vw, view, dview, frz, frzs, keep1, keeps, put, puts, prep1, prep, lend, giveBack, updR, isAl, isOl, isOwn, bindT, bindTs, fin, outs, outs1, bltR, isiR, tyN, lenR, absR, intR, lstR, valsR, tuplR, cmpR, idxR, slcR, binR, isNoneD, LIM, enc]
    refine evS_cons.trans ((seq_nx (σ1 := [some (.d (.int m)), some (.d (enc (chain m))), x]) ?_).trans ?_)
    · simp only [b127] at hf
      exact (evS_for (xs := rngI 0 (m : Int)) (σ1 := [some (.d (.int m)), some (.d (enc .tip)), none]) (by simp [callK, evS, evE, evA, evO, evI, seqS, retF, asgF, asgPF, asgMF, stiF, expF, iteF, forF, andF, orF, notF, ifeF, bltF, consA, nilA, varF, litF, tupF, lstF, dicF, binF, negF, cmpF, cmp2F, idxF, slcF, calF, mtwF, sclF, noO, someO, rngF, seqF, toB, toI, vws, vw, view, dview, frz, frzs, keep1, keeps, put, puts, prep1, prep, lend, giveBack, updR, isAl, isOl, isOwn, bindT, bindTs, fin, outs, outs1, bltR, isiR, tyN, lenR, absR, intR, lstR, valsR, tuplR, cmpR, idxR, slcR, binR, isNoneD, bm])).trans hf
    · rw [evS_cons]
      simp [callK, evS, evE, evA, evO, evI, seqS, retF, asgF, asgPF, asgMF, stiF, expF, iteF, forF, andF, orF, notF, ifeF, bltF, consA, nilA, varF, litF, tupF, lstF, dicF, binF, negF, cmpF, cmp2F, idxF, slcF, calF, mtwF, sclF, noO, someO, rngF, seqF, toB, toI, vws, vw, view, dview, frz, frzs, keep1, keeps, put, puts, prep1, prep, lend, giveBack, updR, isAl, isOl, isOwn, bindT, bindTs, fin, outs, outs1, bltR, isiR, tyN, lenR, absR, intR, lstR, valsR, tuplR, cmpR, idxR, slcR, binR, isNoneD]
  rw [call_ret (fd := f127) rfl rfl e1 rfl, outs_d1]
/-! the great one -/
def bW : Bu := .knot "g" (Bus.of [.tip, .tip, .tip, .tip, .tip, .tip])
def bW3 : Bu := (years .tip [bW, bW, bW]).2
def bG1 : Bu := (pus bW ((tpR bW3).take 23) bW3).getD .tip
def rL : Rd := (tpR bW3).getLast?.getD []
def bG2 : Bu := (pu (chain 3) rL bG1).getD .tip
theorem g_1 : pus bW ((tpR bW3).take 23) bW3 = some bG1 := by
  have : (pus bW ((tpR bW3).take 23) bW3).isSome = true := by decide +kernel
  unfold bG1
  cases h : pus bW ((tpR bW3).take 23) bW3 with
  | none => rw [h] at this; cases this
  | some b => rfl
theorem g_2 : pu (chain 3) rL bG1 = some bG2 := by
  have : (pu (chain 3) rL bG1).isSome = true := by decide +kernel
  unfold bG2
  cases h : pu (chain 3) rL bG1 with
  | none => rw [h] at this; cases this
  | some b => rfl
theorem g_w : wf bW = true ∧ wf bW3 = true ∧ ht bW3 = 3 ∧ cnt bW3 ≤ 400 ∧ tp bW3 = 216 ∧ fitB .tip [bW, bW, bW] = true ∧ fitB bG2 [.tip, .tip] = true ∧ wf bG1 = true ∧ wf (chain 3) = true := by decide +kernel
theorem pus_for2 (c : Cl) (g : Bu) (x0 x1 x3 : Option Rv) : ∀ (l : List Rd) (b b' : Bu) (x2 : Option Rv), isOwn x2 = false → pus g l b = some b' → (∀ r ∈ l, ∀ b b', wf b = true → pu g r b = some b' → c 34 [.d (enc b), .d (rd r), .d (enc g)] = some (.d (enc b'), [.d (enc b), .d (rd r), .d (enc g)])) → wf b = true → wf g = true → x1 = some (.d (enc g)) →
    ∃ x, forL (evS c W (match b130 with
      | .cons _ (.cons _ (.cons _ (.cons (.for _ _ b) _))) => b
      | _ => .nil)) (.nm 4) (l.map rd) [x0, x1, some (.d (enc b)), x3, x2] = some (.nx, [x0, x1, some (.d (enc b')), x3, x]) ∧ isOwn x = false
  | [], b, b', x2, h2, h, hc, w, wg, e1 => by
    simp only [pus, Option.some.injEq] at h
    subst h
    exact ⟨x2, rfl, h2⟩
  | r :: l, b, b', x2, h2, h, hc, w, wg, e1 => by
    simp only [pus] at h
    cases q : pu g r b with
    | none => rw [q] at h; cases h
    | some d =>
      rw [q] at h
      have h34 := hc r (List.mem_cons_self ..) b d w q
      obtain ⟨x, hx, hx2⟩ := pus_for2 c g x0 x1 x3 l d b' (some (.d (rd r))) rfl h (fun r hr => hc r (List.mem_cons_of_mem _ hr)) (pu_wf wg w q) wg e1
      refine ⟨x, ?_, hx2⟩
      have p2 : put 4 (.d (rd r)) [x0, x1, some (.d (enc b)), x3, x2] = some [x0, x1, some (.d (enc b)), x3, some (.d (rd r))] := put_free rfl h2
      simp only [List.map_cons, forL, bindT, p2]
      have hb : evS c W (match b130 with
      | .cons _ (.cons _ (.cons _ (.cons (.for _ _ b) _))) => b
      | _ => .nil) [x0, x1, some (.d (enc b)), x3, some (.d (rd r))] = some (.nx, [x0, x1, some (.d (enc d)), x3, some (.d (rd r))]) := by
        subst e1
        simp only [b130]
        simp [callK, evS, evE, evA, evO, evI, seqS, retF, asgF, asgPF, asgMF, stiF, expF, iteF, forF, andF, orF, notF, ifeF, bltF, consA, nilA, varF, litF, tupF, lstF, dicF, binF, negF, cmpF, cmp2F, idxF, slcF, calF, mtwF, sclF, noO, someO, rngF, seqF, toB, toI, vws, vw, view, dview, frz, frzs, keep1, keeps, put, puts, prep1, prep, lend, giveBack, updR, isAl, isOl, isOwn, bindT, bindTs, fin, outs, outs1, bltR, isiR, tyN, lenR, absR, intR, lstR, valsR, tuplR, cmpR, idxR, slcR, binR, isNoneD, h34]
      rw [hb]
      exact hx
theorem great_ok (W k : Nat) (hW : 6000 ≤ W) (hk : 207 < k) : callK FsT W k 130 [.d (.int 3)] = some (.d (enc bG2), [.d (.int 3)]) := by
  obtain ⟨j, rfl⟩ : ∃ j, k = j + 1 := ⟨k - 1, by omega⟩
  obtain ⟨w1, w2, w3, w4, w5, w6, w7, w8, w9⟩ := g_w
  have h129 := lbush_ok [bW, bW, bW] (fit_of w6) W j hW (by omega)
  have h24 := tipsr_ok bW3 w2 (by omega) (by omega) W j hW (by omega)
  have h127 : callK FsT W j 127 [.d (.int 3)] = some (.d (enc (chain 3)), [.d (.int 3)]) := chain_ok 3 (by omega) W j (by omega)
  have hne : tpR bW3 ≠ [] := tpR_ne bW3 w2
  have hlast : tpR bW3 = (tpR bW3).dropLast ++ [rL] := by
    have := List.dropLast_concat_getLast hne
    unfold rL
    rw [List.getLast?_eq_some_getLast hne]
    exact this.symm
  have rLm : rL ∈ tpR bW3 := by rw [hlast]; simp
  have rl3 : ∀ r ∈ tpR bW3, r.length ≤ 3 := fun r hr => by rw [← w3]; exact tpR_short w2 hr
  have h34 := put_ok w9 (r := rL) w8 g_2 W j (by have := rl3 rL rLm; omega)
  obtain ⟨x, hx, _⟩ := pus_for2 (W := W) (callK FsT W j) bW (some (.d (.int 3))) (some (.d (enc bW))) (some (.ol ((tpR bW3).map rd) false)) ((tpR bW3).take 23) bW3 bG1 none rfl g_1 (fun r hr b1 b2 w q => put_ok w1 w q W j (by have := rl3 r (List.mem_of_mem_take hr); omega)) w2 w1 rfl
  have lt : (tpR bW3).length = 216 := by rw [tpR_len, w5]
  have hcut : cut ((tpR bW3).map rd) none (some 23) = ((tpR bW3).take 23).map rd := by
    have := cut_to (xs := (tpR bW3).map rd) (n := 23) (by rw [List.length_map, lt]; omega)
    rw [List.map_take]
    exact this
  have hat : L2.atI ((tpR bW3).map rd) (-1) = some (rd rL) := by
    rw [hlast, List.map_append]
    exact atI_last
  have eW : enc bW = .tuple [.str "g", .tuple [], .tuple [], .tuple [], .tuple [], .tuple [], .tuple []] := by
    simp [bW, Bus.of, enc, encs]
  have e1 : evS (callK FsT W j) W b130 [some (.d (.int 3)), none, none, none, none] = some (.ret (.d (enc bG2)), [some (.d (.int 3)), some (.d (enc bW)), some (.d (enc bG1)), some (.ol ((tpR bW3).map rd) false), x]) := by
    unfold b130
    refine evS_cons.trans ((seq_nx (σ1 := [some (.d (.int 3)), some (.d (enc bW)), none, none, none]) ?_).trans ?_)
    · rw [eW]
      simp [callK, evS, evE, evA, evO, evI, seqS, retF, asgF, asgPF, asgMF, stiF, expF, iteF, forF, andF, orF, notF, ifeF, bltF, consA, nilA, varF, litF, tupF, lstF, dicF, binF, negF, cmpF, cmp2F, idxF, slcF, calF, mtwF, sclF, noO, someO, rngF, seqF, toB, toI, vws, vw, view, dview, frz, frzs, keep1, keeps, put, puts, prep1, prep, lend, giveBack, updR, isAl, isOl, isOwn, bindT, bindTs, fin, outs, outs1, bltR, isiR, tyN, lenR, absR, intR, lstR, valsR, tuplR, cmpR, idxR, slcR, binR, isNoneD, LIM, List.replicate]
    refine evS_cons.trans ((seq_nx (σ1 := [some (.d (.int 3)), some (.d (enc bW)), some (.d (enc bW3)), none, none]) ?_).trans ?_)
    · simp only [List.map_cons, List.map_nil] at h129
      generalize enc bW = w at *
      simp [callK, evS, evE, evA, evO, evI, seqS, retF, asgF, asgPF, asgMF, stiF, expF, iteF, forF, andF, orF, notF, ifeF, bltF, consA, nilA, varF, litF, tupF, lstF, dicF, binF, negF, cmpF, cmp2F, idxF, slcF, calF, mtwF, sclF, noO, someO, rngF, seqF, toB, toI, vws, vw, view, dview, frz, frzs, keep1, keeps, put, puts, prep1, prep, lend, giveBack, updR, isAl, isOl, isOwn, bindT, bindTs, fin, outs, outs1, bltR, isiR, tyN, lenR, absR, intR, lstR, valsR, tuplR, cmpR, idxR, slcR, binR, isNoneD, LIM, h129, bW3]
    refine evS_cons.trans ((seq_nx (σ1 := [some (.d (.int 3)), some (.d (enc bW)), some (.d (enc bW3)), some (.ol ((tpR bW3).map rd) false), none]) ?_).trans ?_)
    · simp [callK, evS, evE, evA, evO, evI, seqS, retF, asgF, asgPF, asgMF, stiF, expF, iteF, forF, andF, orF, notF, ifeF, bltF, consA, nilA, varF, litF, tupF, lstF, dicF, binF, negF, cmpF, cmp2F, idxF, slcF, calF, mtwF, sclF, noO, someO, rngF, seqF, toB, toI, vws, vw, view, dview, frz, frzs, keep1, keeps, put, puts, prep1, prep, lend, giveBack, updR, isAl, isOl, isOwn, bindT, bindTs, fin, outs, outs1, bltR, isiR, tyN, lenR, absR, intR, lstR, valsR, tuplR, cmpR, idxR, slcR, binR, isNoneD, h24]
    refine evS_cons.trans ((seq_nx (σ1 := [some (.d (.int 3)), some (.d (enc bW)), some (.d (enc bG1)), some (.ol ((tpR bW3).map rd) false), x]) ?_).trans ?_)
    · simp only [b130] at hx
      exact (evS_for (xs := ((tpR bW3).take 23).map rd) (σ1 := [some (.d (.int 3)), some (.d (enc bW)), some (.d (enc bW3)), some (.ol ((tpR bW3).map rd) false), none]) (by simp [callK, evS, evE, evA, evO, evI, seqS, retF, asgF, asgPF, asgMF, stiF, expF, iteF, forF, andF, orF, notF, ifeF, bltF, consA, nilA, varF, litF, tupF, lstF, dicF, binF, negF, cmpF, cmp2F, idxF, slcF, calF, mtwF, sclF, noO, someO, rngF, seqF, toB, toI, vws, vw, view, dview, frz, frzs, keep1, keeps, put, puts, prep1, prep, lend, giveBack, updR, isAl, isOl, isOwn, bindT, bindTs, fin, outs, outs1, bltR, isiR, tyN, lenR, absR, intR, lstR, valsR, tuplR, cmpR, idxR, slcR, binR, isNoneD]; rw [hcut]; simp)).trans hx
    · rw [evS_cons]
      simp [callK, evS, evE, evA, evO, evI, seqS, retF, asgF, asgPF, asgMF, stiF, expF, iteF, forF, andF, orF, notF, ifeF, bltF, consA, nilA, varF, litF, tupF, lstF, dicF, binF, negF, cmpF, cmp2F, idxF, slcF, calF, mtwF, sclF, noO, someO, rngF, seqF, toB, toI, vws, vw, view, dview, frz, frzs, keep1, keeps, put, puts, prep1, prep, lend, giveBack, updR, isAl, isOl, isOwn, bindT, bindTs, fin, outs, outs1, bltR, isiR, tyN, lenR, absR, intR, lstR, valsR, tuplR, cmpR, idxR, slcR, binR, isNoneD, hat, h127, h34]
  rw [call_ret (fd := f130) rfl rfl e1 rfl, outs_d1]
end TW
end

section
namespace TW
open PySem
def LI (ns : List Int) (σ : En) : Prop := ∃ (xs : List D) (x2 x3 x4 x9 x10 x11 x12 : Option Rv), σ = [some (.sc ns), some (.ol xs false), x2, x3, x4, none, none, none, none, x9, x10, x11, x12] ∧
  isOwn x2 = false ∧ isOwn x3 = false ∧ isOwn x4 = false ∧ isOwn x9 = false ∧ isOwn x10 = false ∧ isOwn x11 = false ∧ isOwn x12 = false ∧ Cup xs
def lfor : S := match b162 with
  | .cons _ (.cons (.for _ _ b) _) => b
  | _ => .nil
theorem law_body (ns : List Int) (W j : Nat) (hW : 6000 ≤ W) (hj : 210 ≤ j) (n : Nat) (σ : En) (h : LI ns σ) : ∃ σ1 σ2, bindT (.nm 2) (.int (n : Nat)) σ = some σ1 ∧ evS (callK FsT W j) W lfor σ1 = some (.nx, σ2) ∧ LI ns σ2 := by
  obtain ⟨xs, x2, x3, x4, x9, x10, x11, x12, rfl, h2, h3, h4, h9, h10, h11, h12, hc⟩ := h
  obtain ⟨gs, y1, r1, c1, gl, gg⟩ := row_ok xs hc W j hW (by omega)
  obtain ⟨b, y2, r2, c2, wb, hb, kb⟩ := bush_ok 3 (by omega) y1 c1 W j (by omega)
  have r2' : callK FsT W j 4 [.ol y1 true, .d (.int 3)] = some (.d (enc b), [.ol y2 true, .d (.int 3)]) := r2
  have f0 := gg.fit gl
  have b1 := bush_of_ok gs f0 W j (by omega) (by omega)
  have b2 := lbush_ok gs f0 W j hW (by omega)
  have hall : ∀ x ∈ b :: gs, wf x = true ∧ ht x ≤ 4 ∧ kn x ≤ 4 := fun x hx => by
    rcases List.mem_cons.mp hx with rfl | hx
    · exact ⟨wb, by omega, by omega⟩
    · exact gg.g x hx
  have h41 := sizes_ok (b :: gs) (sz_pre hall) W j hW (by omega)
  simp only [List.map_cons] at h41
  obtain ⟨K, T, N, H, hF⟩ : ∃ (K T : Nat) (N : Int) (H : Nat), (F3 (b :: gs)).1 = K ∧ (F3 (b :: gs)).2.1 = T ∧ NR (b :: gs) = N ∧ (F3 (b :: gs)).2.2 = H := ⟨_, _, _, _, rfl, rfl, rfl, rfl⟩
  obtain ⟨f1, f2, f3, f4⟩ := hF
  rw [f1, f2, f3, f4] at h41
  have ev := eqv_enc (years .tip gs).2
  have q2 : ht (years .tip gs).2 ≤ 60 := (years_fit gs ([], .tip) f0 (fun b hb => by cases hb)).2
  have dp : dpt (enc (years .tip gs).2) (enc (years .tip gs).2) = true := by
    unfold dpt
    apply decide_eq_true
    have := depth_enc (years .tip gs).2
    omega
  have p2 : put 2 (.d (.int (n : Nat))) [some (.sc ns), some (.ol xs false), x2, x3, x4, none, none, none, none, x9, x10, x11, x12] = some [some (.sc ns), some (.ol xs false), some (.d (.int (n : Nat))), x3, x4, none, none, none, none, x9, x10, x11, x12] := put_free rfl h2
  have p3 : ∀ (u0 u1 u2 : Option Rv) z, put 3 z [u0, u1, u2, x3, x4, none, none, none, none, x9, x10, x11, x12] = some [u0, u1, u2, some z, x4, none, none, none, none, x9, x10, x11, x12] := fun _ _ _ _ => put_free rfl h3
  have p4 : ∀ (u0 u1 u2 u3 : Option Rv) z, put 4 z [u0, u1, u2, u3, x4, none, none, none, none, x9, x10, x11, x12] = some [u0, u1, u2, u3, some z, none, none, none, none, x9, x10, x11, x12] := fun _ _ _ _ _ => put_free rfl h4
  have p9 : ∀ (u0 u1 u2 u3 u4 : Option Rv) z, put 9 z [u0, u1, u2, u3, u4, none, none, none, none, x9, x10, x11, x12] = some [u0, u1, u2, u3, u4, none, none, none, none, some z, x10, x11, x12] := fun _ _ _ _ _ _ => put_free rfl h9
  have p10 : ∀ (u0 u1 u2 u3 u4 u9 : Option Rv) z, put 10 z [u0, u1, u2, u3, u4, none, none, none, none, u9, x10, x11, x12] = some [u0, u1, u2, u3, u4, none, none, none, none, u9, some z, x11, x12] := fun _ _ _ _ _ _ _ => put_free rfl h10
  have p11 : ∀ (u0 u1 u2 u3 u4 u9 u10 : Option Rv) z, put 11 z [u0, u1, u2, u3, u4, none, none, none, none, u9, u10, x11, x12] = some [u0, u1, u2, u3, u4, none, none, none, none, u9, u10, some z, x12] := fun _ _ _ _ _ _ _ _ => put_free rfl h11
  have p12 : ∀ (u0 u1 u2 u3 u4 u9 u10 u11 : Option Rv) z, put 12 z [u0, u1, u2, u3, u4, none, none, none, none, u9, u10, u11, x12] = some [u0, u1, u2, u3, u4, none, none, none, none, u9, u10, u11, some z] := fun _ _ _ _ _ _ _ _ _ => put_free rfl h12
  have l1 : 1 ≤ LIM := by decide
  have l2 : 1 + gs.length ≤ LIM := by unfold LIM; omega
  refine ⟨_, [some (.sc ns), some (.ol y2 false), some (.d (.int (n : Nat))), some (.d (.tuple (gs.map enc))), some (.d (enc b)), none, none, none, none, some (.d (.int K)), some (.d (.int T)), some (.d (.int N)), some (.d (.int H))], p2, ?_, ⟨y2, _, _, _, _, _, _, _, rfl, rfl, rfl, rfl, rfl, rfl, rfl, rfl, c2⟩⟩
  simp only [lfor, b162]
  refine evS_cons.trans ((seq_nx (σ1 := [some (.sc ns), some (.ol y1 false), some (.d (.int (n : Nat))), some (.d (.tuple (gs.map enc))), x4, none, none, none, none, x9, x10, x11, x12]) ?_).trans ?_)
  · simp [callK, evS, evE, evA, evO, evI, seqS, retF, asgF, asgPF, asgMF, stiF, expF, iteF, forF, andF, orF, notF, ifeF, bltF, consA, nilA, varF, litF, tupF, lstF, dicF, binF, negF, cmpF, cmp2F, idxF, slcF, calF, mtwF, sclF, noO, someO, rngF, seqF, toB, toI, vws, vw, view, dview, frz, frzs, keep1, keeps, puts, prep1, prep, lend, giveBack, updR, isAl, isOl, isOwn, bindT, bindTs, fin, outs, outs1, bltR, isiR, tyN, lenR, absR, intR, lstR, valsR, tuplR, cmpR, idxR, slcR, binR, isNoneD, r1, p3]
  refine evS_cons.trans ((seq_nx (σ1 := [some (.sc ns), some (.ol y1 false), some (.d (.int (n : Nat))), some (.d (.tuple (gs.map enc))), x4, none, none, none, none, x9, x10, x11, x12]) ?_).trans ?_)
  · simp [callK, evS, evE, evA, evO, evI, seqS, retF, asgF, asgPF, asgMF, stiF, expF, iteF, forF, andF, orF, notF, ifeF, bltF, consA, nilA, varF, litF, tupF, lstF, dicF, binF, negF, cmpF, cmp2F, idxF, slcF, calF, mtwF, sclF, noO, someO, rngF, seqF, toB, toI, vws, vw, view, dview, frz, frzs, keep1, keeps, puts, prep1, prep, lend, giveBack, updR, isAl, isOl, isOwn, bindT, bindTs, fin, outs, outs1, bltR, isiR, tyN, lenR, absR, intR, lstR, valsR, tuplR, cmpR, idxR, slcR, binR, isNoneD, b1, b2, ev, dp]
  refine evS_cons.trans ((seq_nx (σ1 := [some (.sc ns), some (.ol y2 false), some (.d (.int (n : Nat))), some (.d (.tuple (gs.map enc))), some (.d (enc b)), none, none, none, none, x9, x10, x11, x12]) ?_).trans ?_)
  · simp [callK, evS, evE, evA, evO, evI, seqS, retF, asgF, asgPF, asgMF, stiF, expF, iteF, forF, andF, orF, notF, ifeF, bltF, consA, nilA, varF, litF, tupF, lstF, dicF, binF, negF, cmpF, cmp2F, idxF, slcF, calF, mtwF, sclF, noO, someO, rngF, seqF, toB, toI, vws, vw, view, dview, frz, frzs, keep1, keeps, puts, prep1, prep, lend, giveBack, updR, isAl, isOl, isOwn, bindT, bindTs, fin, outs, outs1, bltR, isiR, tyN, lenR, absR, intR, lstR, valsR, tuplR, cmpR, idxR, slcR, binR, isNoneD, r2', p4]
  refine evS_cons.trans ((seq_nx (σ1 := [some (.sc ns), some (.ol y2 false), some (.d (.int (n : Nat))), some (.d (.tuple (gs.map enc))), some (.d (enc b)), none, none, none, none, some (.d (.int K)), some (.d (.int T)), some (.d (.int N)), some (.d (.int H))]) ?_).trans ?_)
  · simp [callK, evS, evE, evA, evO, evI, seqS, retF, asgF, asgPF, asgMF, stiF, expF, iteF, forF, andF, orF, notF, ifeF, bltF, consA, nilA, varF, litF, tupF, lstF, dicF, binF, negF, cmpF, cmp2F, idxF, slcF, calF, mtwF, sclF, noO, someO, rngF, seqF, toB, toI, vws, vw, view, dview, frz, frzs, keep1, keeps, puts, prep1, prep, lend, giveBack, updR, isAl, isOl, isOwn, bindT, bindTs, fin, outs, outs1, bltR, isiR, tyN, lenR, absR, intR, lstR, valsR, tuplR, cmpR, idxR, slcR, binR, isNoneD, h41, l1, l2, p9, p10, p11, p12]
  refine evS_cons.trans ((seq_nx (σ1 := [some (.sc ns), some (.ol y2 false), some (.d (.int (n : Nat))), some (.d (.tuple (gs.map enc))), some (.d (enc b)), none, none, none, none, some (.d (.int K)), some (.d (.int T)), some (.d (.int N)), some (.d (.int H))]) ?_).trans ?_)
  · by_cases hk : (K : Int) + (T : Int) ≤ 200
    · have fit : Fit b gs := by
        have dd := gg.deep gl
        obtain ⟨g1, g2⟩ := fold_12 gs (mstep (mof .tip) b) (mof b) (by simp [mstep, mof, kn, tp]) (by simp [mstep, mof, tp])
        simp only [F3, List.foldl_cons] at f1 f2
        rw [g1] at f1
        rw [g2] at f2
        exact ⟨wb, fun g hg => (gg.g g hg).1, by omega, by rw [f1, f2]; omega, by omega⟩
      have rr := right_ok b gs fit W j hW (by omega)
      simp [callK, evS, evE, evA, evO, evI, seqS, retF, asgF, asgPF, asgMF, stiF, expF, iteF, forF, andF, orF, notF, ifeF, bltF, consA, nilA, varF, litF, tupF, lstF, dicF, binF, negF, cmpF, cmp2F, idxF, slcF, calF, mtwF, sclF, noO, someO, rngF, seqF, toB, toI, vws, vw, view, dview, frz, frzs, keep1, keeps, puts, prep1, prep, lend, giveBack, updR, isAl, isOl, isOwn, bindT, bindTs, fin, outs, outs1, bltR, isiR, tyN, lenR, absR, intR, lstR, valsR, tuplR, cmpR, idxR, slcR, binR, isNoneD, hk, rr]
    · simp [callK, evS, evE, evA, evO, evI, seqS, retF, asgF, asgPF, asgMF, stiF, expF, iteF, forF, andF, orF, notF, ifeF, bltF, consA, nilA, varF, litF, tupF, lstF, dicF, binF, negF, cmpF, cmp2F, idxF, slcF, calF, mtwF, sclF, noO, someO, rngF, seqF, toB, toI, vws, vw, view, dview, frz, frzs, keep1, keeps, puts, prep1, prep, lend, giveBack, updR, isAl, isOl, isOwn, bindT, bindTs, fin, outs, outs1, bltR, isiR, tyN, lenR, absR, intR, lstR, valsR, tuplR, cmpR, idxR, slcR, binR, isNoneD, hk]
  · simp only [evS]
/-! the cases by hand -/
def bS : Bu := .knot "s" (Bus.of [.tip])
theorem hand_w : fitB kF [bS] = true ∧ fitB bS [kF] = true ∧ fitB .tip [kF] = true ∧ fitB kF [.tip] = true ∧ fitB bS [bS, kF] = true ∧ fitB .tip [bS, bS] = true ∧ fitB .tip [] = true ∧ fitB .tip [kF, bS] = true ∧ fitB kF [] = true ∧ fitB .tip [.tip, kF, .tip] = true ∧
    fitB kF [kF, kF, kF, kF, kF, kF] = true ∧ fitB .tip [bS, bS, bS, bS, bS, bS, bS, bS, bS, bS, bS, bS] = true ∧ fitB (chain 50) [bS, bS, bS, bS, bS, bS, bS, bS, bS, bS] = true := by decide +kernel
end TW
end

section
namespace TW
open PySem
def LO (ns : List Int) (xs : List D) (x2 x3 x4 x9 x10 x11 x12 x5 x6 x7 x8 : Option Rv) : En := [some (.sc ns), some (.ol xs false), x2, x3, x4, x5, x6, x7, x8, x9, x10, x11, x12]
def dF : D := .tuple [.str "f", .tuple [], .tuple []]
def dS : D := .tuple [.str "s", .tuple []]
def d7 : D := .tuple [.str "f", dS, .tuple []]
def d8 : D := .tuple [.str "g", .tuple [], dF, .tuple []]
def b7' : Bu := .knot "f" (Bus.of [bS, .tip])
def b8' : Bu := .knot "g" (Bus.of [.tip, kF, .tip])
theorem hand_w2 : fitB b7' [b8'] = true ∧ fitB b8' [b7'] = true := by decide +kernel
theorem law_hand1 (W j : Nat) (hW : 6000 ≤ W) (hj : 210 ≤ j) (σ : En) (h5 : σ[5]? = some (some (.d dF))) (h6 : σ[6]? = some (some (.d dS))) : evS (callK FsT W j) W (match b162 with
      | .cons _ (.cons _ (.cons _ (.cons s _))) => s
      | _ => .nil) σ = some (.nx, σ) := by
  obtain ⟨w1, w2, w3, w4, w5, w6, w7, w8, w9, w10, w11, w12, w13⟩ := hand_w
  have c1 := grown_ok _ _ (fit_of w1) W j (by omega) (by omega)
  have c2 := grown_ok _ _ (fit_of w2) W j (by omega) (by omega)
  have c3 := grown_ok _ _ (fit_of w3) W j (by omega) (by omega)
  have c4 := grown_ok _ _ (fit_of w4) W j (by omega) (by omega)
  have c5 := grown_by_ok _ _ (fit_of w5) W j (by omega) (by omega)
  simp only [kF, bS, Bus.of, enc, encs, gr, grs, List.map_cons, List.map_nil, years, ystep, List.foldl_cons, List.foldl_nil] at c1 c2 c3 c4 c5
  simp only [dF, dS] at h5 h6
  simp only [b162]
  simp [callK, evS, evE, evA, evO, evI, seqS, retF, asgF, asgPF, asgMF, stiF, expF, iteF, forF, andF, orF, notF, ifeF, bltF, consA, nilA, varF, litF, tupF, lstF, dicF, binF, negF, cmpF, cmp2F, idxF, slcF, calF, mtwF, sclF, noO, someO, rngF, seqF, toB, toI, vws, vw, view, dview, frz, frzs, keep1, keeps, put, puts, prep1, prep, lend, giveBack, updR, isAl, isOl, isOwn, bindT, bindTs, fin, outs, outs1, bltR, isiR, tyN, lenR, absR, intR, lstR, valsR, tuplR, cmpR, idxR, slcR, binR, isNoneD, LIM, h5, h6, c1, c2, c3, c4, c5, dpt, PyData.depth, PyData.depthAll, PyData.eqv, PyData.eqvAll]
theorem law_hand2 (W j : Nat) (hW : 6000 ≤ W) (hj : 210 ≤ j) (σ : En) (h5 : σ[5]? = some (some (.d dF))) (h6 : σ[6]? = some (some (.d dS))) : evS (callK FsT W j) W (match b162 with
      | .cons _ (.cons _ (.cons _ (.cons _ (.cons s _)))) => s
      | _ => .nil) σ = some (.nx, σ) := by
  obtain ⟨w1, w2, w3, w4, w5, w6, w7, w8, w9, w10, w11, w12, w13⟩ := hand_w
  have c1 := bush_of_ok _ (fit_of w6) W j (by omega) (by omega)
  have c2 := bush_of_ok _ (fit_of w7) W j (by omega) (by omega)
  have c3 := grown_on_ok _ _ (fit_of w8) W j (by omega) (by omega)
  have c4 := grown_on_ok _ _ (fit_of w9) W j (by omega) (by omega)
  have c5 := bush_of_ok _ (fit_of w10) W j (by omega) (by omega)
  simp only [kF, bS, Bus.of, enc, encs, gr, grs, List.map_cons, List.map_nil, years, ystep, List.foldl_cons, List.foldl_nil, yl, List.nil_append, List.cons_append] at c1 c2 c3 c4 c5
  simp only [dF, dS] at h5 h6
  simp only [b162]
  simp [callK, evS, evE, evA, evO, evI, seqS, retF, asgF, asgPF, asgMF, stiF, expF, iteF, forF, andF, orF, notF, ifeF, bltF, consA, nilA, varF, litF, tupF, lstF, dicF, binF, negF, cmpF, cmp2F, idxF, slcF, calF, mtwF, sclF, noO, someO, rngF, seqF, toB, toI, vws, vw, view, dview, frz, frzs, keep1, keeps, put, puts, prep1, prep, lend, giveBack, updR, isAl, isOl, isOwn, bindT, bindTs, fin, outs, outs1, bltR, isiR, tyN, lenR, absR, intR, lstR, valsR, tuplR, cmpR, idxR, slcR, binR, isNoneD, LIM, h5, h6, c1, c2, c3, c4, c5, dpt, PyData.depth, PyData.depthAll, PyData.eqv, PyData.eqvAll]
theorem law_hand3 (W j : Nat) (hW : 6000 ≤ W) (hj : 210 ≤ j) (σ : En) (h7 : σ[7]? = some (some (.d d7))) (h8 : σ[8]? = some (some (.d d8))) : evS (callK FsT W j) W (match b162 with
      | .cons _ (.cons _ (.cons _ (.cons _ (.cons _ (.cons _ (.cons s _)))))) => s
      | _ => .nil) σ = some (.nx, σ) := by
  obtain ⟨w1, w2⟩ := hand_w2
  have c1 := grown_ok _ _ (fit_of w1) W j (by omega) (by omega)
  have c2 := grown_ok _ _ (fit_of w2) W j (by omega) (by omega)
  simp only [b7', b8', kF, bS, Bus.of, enc, encs, gr, grs, List.map_cons, List.map_nil] at c1 c2
  simp only [d7, d8, dF, dS] at h7 h8
  simp only [b162]
  simp [callK, evS, evE, evA, evO, evI, seqS, retF, asgF, asgPF, asgMF, stiF, expF, iteF, forF, andF, orF, notF, ifeF, bltF, consA, nilA, varF, litF, tupF, lstF, dicF, binF, negF, cmpF, cmp2F, idxF, slcF, calF, mtwF, sclF, noO, someO, rngF, seqF, toB, toI, vws, vw, view, dview, frz, frzs, keep1, keeps, put, puts, prep1, prep, lend, giveBack, updR, isAl, isOl, isOwn, bindT, bindTs, fin, outs, outs1, bltR, isiR, tyN, lenR, absR, intR, lstR, valsR, tuplR, cmpR, idxR, slcR, binR, isNoneD, LIM, h7, h8, c1, c2, dpt, PyData.depth, PyData.depthAll, PyData.eqv, PyData.eqvAll]
theorem law_last (W j : Nat) (hW : 6000 ≤ W) (hj : 210 ≤ j) (σ : En) (h5 : σ[5]? = some (some (.d dF))) (h6 : σ[6]? = some (some (.d dS))) : evS (callK FsT W j) W (match b162 with
      | .cons _ (.cons _ (.cons _ (.cons _ (.cons _ (.cons _ (.cons _ (.cons s _))))))) => s
      | _ => .nil) σ = some (.ret (.d (.bool true)), σ) := by
  obtain ⟨w1, w2, w3, w4, w5, w6, w7, w8, w9, w10, w11, w12, w13⟩ := hand_w
  obtain ⟨_, _, _, _, _, _, g7, _, _⟩ := g_w
  have c1 := right_ok _ _ (fit_of w11) W j hW (by omega)
  have c2 := bush_of_ok _ (fit_of w12) W j (by omega) (by omega)
  have c3 := right_ok _ _ (fit_of w13) W j hW (by omega)
  have c4 := right_ok _ _ (fit_of g7) W j hW (by omega)
  have t12 : callK FsT W j 127 [.d (.int 12)] = some (.d (enc (chain 12)), [.d (.int 12)]) := chain_ok 12 (by omega) W j (by omega)
  have t50 : callK FsT W j 127 [.d (.int 50)] = some (.d (enc (chain 50)), [.d (.int 50)]) := chain_ok 50 (by omega) W j (by omega)
  have gt := great_ok W j hW (by omega)
  have y12 : (years .tip [bS, bS, bS, bS, bS, bS, bS, bS, bS, bS, bS, bS]).2 = chain 12 := rfl
  rw [y12] at c2
  have ev := eqv_enc (chain 12)
  have dp : dpt (enc (chain 12)) (enc (chain 12)) = true := by
    unfold dpt
    apply decide_eq_true
    have := depth_enc (chain 12)
    have h : ht (chain 12) = 12 := by decide +kernel
    omega
  have eF : enc kF = dF := by simp [kF, Bus.of, enc, encs, dF]
  have eS : enc bS = dS := by simp [bS, Bus.of, enc, encs, dS]
  simp only [List.map_cons, List.map_nil, eF, eS] at c1 c2 c3 c4
  have e0 : enc .tip = .tuple [] := rfl
  rw [e0] at c4
  generalize enc (chain 50) = k50 at *
  generalize enc (chain 12) = k12 at *
  generalize enc bG2 = kG at *
  generalize dF = f at *
  generalize dS = s at *
  simp only [b162]
  simp [callK, evS, evE, evA, evO, evI, seqS, retF, asgF, asgPF, asgMF, stiF, expF, iteF, forF, andF, orF, notF, ifeF, bltF, consA, nilA, varF, litF, tupF, lstF, dicF, binF, negF, cmpF, cmp2F, idxF, slcF, calF, mtwF, sclF, noO, someO, rngF, seqF, toB, toI, vws, vw, view, dview, frz, frzs, keep1, keeps, put, puts, prep1, prep, lend, giveBack, updR, isAl, isOl, isOwn, bindT, bindTs, fin, outs, outs1, bltR, isiR, tyN, lenR, absR, intR, lstR, valsR, tuplR, cmpR, idxR, slcR, binR, isNoneD, LIM, h5, h6, c1, c2, c3, c4, t12, t50, gt, ev, dp, List.replicate]
theorem law_at (ns : List Int) (hn : ns.length ≤ 63) (W j : Nat) (hW : 6000 ≤ W) (hj : 210 ≤ j) : ∃ os, callK FsT W (j + 1) 162 [.sc ns] = some (.d (.bool true), os) := by
  obtain ⟨xs, r0, c0⟩ := cup_ok ns hn W j (by omega)
  obtain ⟨σ', hf, hI⟩ := for_inv (p := .nm 2) (body := evS (callK FsT W j) W lfor) (N := 5) (fun _ σ => LI ns σ) (fun n σ _ h => law_body ns W j hW (by omega) n σ h) 5 0 [some (.sc ns), some (.ol xs false), none, none, none, none, none, none, none, none, none, none, none] (by omega) ⟨xs, none, none, none, none, none, none, none, rfl, rfl, rfl, rfl, rfl, rfl, rfl, rfl, c0⟩
  have hr : (List.range' 0 5).map (fun i => PyData.int (i : Nat)) = rngI 0 (5 : Int) := (rngI_range 5).symm
  rw [hr] at hf
  obtain ⟨ys, x2, x3, x4, x9, x10, x11, x12, rfl, _, _, _, _, _, _, _, _⟩ := hI
  have e1 : evS (callK FsT W j) W b162 [some (.sc ns), none, none, none, none, none, none, none, none, none, none, none, none] = some (.ret (.d (.bool true)), LO ns ys x2 x3 x4 x9 x10 x11 x12 (some (.d dF)) (some (.d dS)) (some (.d d7)) (some (.d d8))) := by
    have hA := law_hand1 W j hW (by omega) (LO ns ys x2 x3 x4 x9 x10 x11 x12 (some (.d dF)) (some (.d dS)) none none) rfl rfl
    have hB := law_hand2 W j hW (by omega) (LO ns ys x2 x3 x4 x9 x10 x11 x12 (some (.d dF)) (some (.d dS)) none none) rfl rfl
    have hC := law_hand3 W j hW (by omega) (LO ns ys x2 x3 x4 x9 x10 x11 x12 (some (.d dF)) (some (.d dS)) (some (.d d7)) (some (.d d8))) rfl rfl
    have hD := law_last W j hW (by omega) (LO ns ys x2 x3 x4 x9 x10 x11 x12 (some (.d dF)) (some (.d dS)) (some (.d d7)) (some (.d d8))) rfl rfl
    simp only [lfor, b162] at hf
    simp only [b162] at hA hB hC hD
    unfold b162
    refine evS_cons.trans ((seq_nx (σ1 := [some (.sc ns), some (.ol xs false), none, none, none, none, none, none, none, none, none, none, none]) ?_).trans ?_)
    · simp [callK, evS, evE, evA, evO, evI, seqS, retF, asgF, asgPF, asgMF, stiF, expF, iteF, forF, andF, orF, notF, ifeF, bltF, consA, nilA, varF, litF, tupF, lstF, dicF, binF, negF, cmpF, cmp2F, idxF, slcF, calF, mtwF, sclF, noO, someO, rngF, seqF, toB, toI, vws, vw, view, dview, frz, frzs, keep1, keeps, put, puts, prep1, prep, lend, giveBack, updR, isAl, isOl, isOwn, bindT, bindTs, fin, outs, outs1, bltR, isiR, tyN, lenR, absR, intR, lstR, valsR, tuplR, cmpR, idxR, slcR, binR, isNoneD, r0]
    refine evS_cons.trans ((seq_nx (σ1 := LO ns ys x2 x3 x4 x9 x10 x11 x12 none none none none) ?_).trans ?_)
    · exact (evS_for (xs := rngI 0 (5 : Int)) (σ1 := [some (.sc ns), some (.ol xs false), none, none, none, none, none, none, none, none, none, none, none]) (by simp [callK, evS, evE, evA, evO, evI, seqS, retF, asgF, asgPF, asgMF, stiF, expF, iteF, forF, andF, orF, notF, ifeF, bltF, consA, nilA, varF, litF, tupF, lstF, dicF, binF, negF, cmpF, cmp2F, idxF, slcF, calF, mtwF, sclF, noO, someO, rngF, seqF, toB, toI, vws, vw, view, dview, frz, frzs, keep1, keeps, put, puts, prep1, prep, lend, giveBack, updR, isAl, isOl, isOwn, bindT, bindTs, fin, outs, outs1, bltR, isiR, tyN, lenR, absR, intR, lstR, valsR, tuplR, cmpR, idxR, slcR, binR, isNoneD, b62])).trans hf
    refine evS_cons.trans ((seq_nx (σ1 := LO ns ys x2 x3 x4 x9 x10 x11 x12 (some (.d dF)) (some (.d dS)) none none) ?_).trans ?_)
    · simp [callK, evS, evE, evA, evO, evI, seqS, retF, asgF, asgPF, asgMF, stiF, expF, iteF, forF, andF, orF, notF, ifeF, bltF, consA, nilA, varF, litF, tupF, lstF, dicF, binF, negF, cmpF, cmp2F, idxF, slcF, calF, mtwF, sclF, noO, someO, rngF, seqF, toB, toI, vws, vw, view, dview, frz, frzs, keep1, keeps, put, puts, prep1, prep, lend, giveBack, updR, isAl, isOl, isOwn, bindT, bindTs, fin, outs, outs1, bltR, isiR, tyN, lenR, absR, intR, lstR, valsR, tuplR, cmpR, idxR, slcR, binR, isNoneD, LO, LIM, dF, dS]
    refine evS_cons.trans ((seq_nx hA).trans ?_)
    refine evS_cons.trans ((seq_nx hB).trans ?_)
    refine evS_cons.trans ((seq_nx (σ1 := LO ns ys x2 x3 x4 x9 x10 x11 x12 (some (.d dF)) (some (.d dS)) (some (.d d7)) (some (.d d8))) ?_).trans ?_)
    · simp [callK, evS, evE, evA, evO, evI, seqS, retF, asgF, asgPF, asgMF, stiF, expF, iteF, forF, andF, orF, notF, ifeF, bltF, consA, nilA, varF, litF, tupF, lstF, dicF, binF, negF, cmpF, cmp2F, idxF, slcF, calF, mtwF, sclF, noO, someO, rngF, seqF, toB, toI, vws, vw, view, dview, frz, frzs, keep1, keeps, put, puts, prep1, prep, lend, giveBack, updR, isAl, isOl, isOwn, bindT, bindTs, fin, outs, outs1, bltR, isiR, tyN, lenR, absR, intR, lstR, valsR, tuplR, cmpR, idxR, slcR, binR, isNoneD, LO, LIM, dF, dS, d7, d8]
    refine evS_cons.trans ((seq_nx hC).trans ?_)
    exact evS_cons.trans (seq_ret hD)
  exact ⟨_, call_ret (fd := f162) rfl rfl e1 rfl⟩
theorem law_ok (ns : List Int) (hn : ns.length ≤ 63) : ∃ os, callK FsT WW 230 162 [.sc ns] = some (.d (.bool true), os) := law_at ns hn WW 229 (by decide) (by omega)
end TW
end

section
namespace TW
open PySem
/-! ### near depths -/
theorem minI_spec : ∀ (l : List Int) (x : Int), minI x l ∈ x :: l ∧ ∀ y ∈ x :: l, minI x l ≤ y
  | [], x => ⟨by simp [minI], fun y hy => by simp at hy; simp [minI, hy]⟩
  | z :: l, x => by
    obtain ⟨h1, h2⟩ := minI_spec l (if z < x then z else x)
    simp only [minI]
    constructor
    · rcases List.mem_cons.mp h1 with h | h
      · rw [h]; split <;> simp
      · simp [h]
    · intro y hy
      have h3 := h2 _ (List.mem_cons_self ..)
      rcases List.mem_cons.mp hy with h | hy
      · generalize minI (if z < x then z else x) l = m at *
        split at h3 <;> omega
      · rcases List.mem_cons.mp hy with h | hy
        · generalize minI (if z < x then z else x) l = m at *
          split at h3 <;> omega
        · exact h2 y (List.mem_cons_of_mem _ hy)
def lmI : List Int → Int
  | [] => 0
  | n :: ns => minI n ns
theorem lmI_spec {l : List Int} (h : l ≠ []) : lmI l ∈ l ∧ ∀ y ∈ l, lmI l ≤ y := by
  cases l with
  | nil => exact absurd rfl h
  | cons x l => exact minI_spec l x
mutual
def nr : Bu → Int
  | .tip => 0
  | .knot _ bs => 1 + lmI (nrs bs)
def nrs : Bus → List Int
  | .nil => []
  | .cons b bs => nr b :: nrs bs
end
theorem nrs_map : ∀ bs : Bus, nrs bs = bs.l.map nr
  | .nil => rfl
  | .cons b bs => by simp [nrs, Bus.l, nrs_map bs]
mutual
theorem nr_spec : ∀ b : Bu, wf b = true → (∃ n ∈ dl b, (n : Int) = nr b) ∧ ∀ n ∈ dl b, nr b ≤ (n : Int)
  | .tip, _ => ⟨⟨0, by simp [dl, tpR], rfl⟩, fun n hn => by simp [dl, tpR] at hn; simp [nr, hn]⟩
  | .knot s bs, h => by
    simp only [wf, Bool.and_eq_true, decide_eq_true_eq] at h
    obtain ⟨h1, h2⟩ := nrs_spec bs 0 h.2
    have ne : nrs bs ≠ [] := by
      cases bs with
      | nil => simp [Bus.l] at h
      | cons c cs => simp [nrs]
    obtain ⟨k1, k2⟩ := lmI_spec ne
    constructor
    · obtain ⟨n, hn, e⟩ := h1 _ k1
      exact ⟨n, hn, by rw [e]; rfl⟩
    · intro n hn
      obtain ⟨x, hx, e⟩ := h2 n hn
      have := k2 x hx
      show 1 + lmI (nrs bs) ≤ _
      omega
theorem nrs_spec : ∀ (bs : Bus) (i : Nat), wfs bs = true → (∀ x ∈ nrs bs, ∃ n ∈ (tpRL i bs).map List.length, (n : Int) = 1 + x) ∧ ∀ n ∈ (tpRL i bs).map List.length, ∃ x ∈ nrs bs, 1 + x ≤ (n : Int)
  | .nil, i, _ => ⟨(fun x hx => by cases hx), (fun n hn => by cases hn)⟩
  | .cons b bs, i, h => by
    simp only [wfs, Bool.and_eq_true] at h
    obtain ⟨h1, h2⟩ := nr_spec b h.1
    obtain ⟨h3, h4⟩ := nrs_spec bs (i + 1) h.2
    have e5 : (List.map List.length ((tpR b).map fun x => i :: x)) = (dl b).map (· + 1) := by
      simp [dl, Function.comp_def]
    simp only [tpRL, List.map_append, e5, nrs]
    constructor
    · intro x hx
      rcases List.mem_cons.mp hx with rfl | hx
      · obtain ⟨n, hn, e⟩ := h1
        exact ⟨n + 1, List.mem_append_left _ (List.mem_map.mpr ⟨n, hn, rfl⟩), by omega⟩
      · obtain ⟨n, hn, e⟩ := h3 x hx
        exact ⟨n, List.mem_append_right _ hn, e⟩
    · intro n hn
      rcases List.mem_append.mp hn with hn | hn
      · obtain ⟨m, hm, rfl⟩ := List.mem_map.mp hn
        have := h2 m hm
        exact ⟨nr b, List.mem_cons_self .., by omega⟩
      · obtain ⟨x, hx, e⟩ := h4 n hn
        exact ⟨x, List.mem_cons_of_mem _ hx, e⟩
end
theorem mn_nr {b : Bu} (h : wf b = true) : mn b = nr b := by
  obtain ⟨⟨n, hn, e⟩, h2⟩ := nr_spec b h
  obtain ⟨m, ms, ed⟩ := dl_ne h
  unfold mn
  rw [ed] at hn h2 ⊢
  simp only
  obtain ⟨k1, k2⟩ := minI_spec (ms.map fun i : Nat => (i : Int)) m
  have k3 : ∀ x ∈ (m : Int) :: ms.map (fun i : Nat => (i : Int)), nr b ≤ x := fun x hx => by
    rcases List.mem_cons.mp hx with rfl | hx
    · exact h2 m (List.mem_cons_self ..)
    · obtain ⟨y, hy, rfl⟩ := List.mem_map.mp hx
      exact h2 y (List.mem_cons_of_mem _ hy)
  have k4 := k3 _ k1
  have k5 : minI (m : Int) (ms.map fun i : Nat => (i : Int)) ≤ n := k2 _ (by
    rcases List.mem_cons.mp hn with rfl | hn
    · exact List.mem_cons_self ..
    · exact List.mem_cons_of_mem _ (List.mem_map.mpr ⟨n, hn, rfl⟩))
  omega
theorem nr_bound {b : Bu} (h : wf b = true) : 0 ≤ nr b ∧ nr b ≤ ht b := by
  obtain ⟨⟨n, hn, e⟩, _⟩ := nr_spec b h
  have := mx_mem hn
  rw [dl_mx b h] at this
  omega
/-! ### widths -/
mutual
def cd : Bu → Nat → Nat
  | .tip, 0 => 1
  | .tip, _ + 1 => 0
  | .knot _ _, 0 => 1
  | .knot _ bs, d + 1 => cds bs d
def cds : Bus → Nat → Nat
  | .nil, _ => 0
  | .cons b bs, d => cd b d + cds bs d
end
def wd (f : Nat → Nat) : Nat → List Nat
  | 0 => []
  | n + 1 => f 0 :: wd (fun d => f (d + 1)) n
theorem wd_range (f : Nat → Nat) : ∀ n, wd f n = (List.range n).map f
  | 0 => rfl
  | n + 1 => by
    rw [wd, wd_range _ n, List.range_succ_eq_map]
    simp [Function.comp_def]
theorem wd_add (f g : Nat → Nat) (n : Nat) : (wd (fun d => f d + g d) n).sum = (wd f n).sum + (wd g n).sum := by
  induction n generalizing f g with
  | zero => rfl
  | succ n ih =>
    simp only [wd, List.sum_cons, ih]
    omega
theorem wd_zero (n : Nat) : (wd (fun _ => 0) n).sum = 0 := by
  induction n with
  | zero => rfl
  | succ n ih => simp only [wd, List.sum_cons, ih]
mutual
theorem cd_sum : ∀ (b : Bu) (n : Nat), ht b < n → (wd (cd b) n).sum = cnt b
  | b, 0, h => by omega
  | .tip, n + 1, _ => by
    have e : (fun d => cd .tip (d + 1)) = fun _ => 0 := by funext d; simp [cd]
    simp [wd, e, wd_zero, cd, cnt, kn, tp]
  | .knot s bs, n + 1, h => by
    have e : (fun d => cd (.knot s bs) (d + 1)) = cds bs := by funext d; simp [cd]
    simp only [ht] at h
    simp only [wd, e, List.sum_cons, cds_sum bs n (by omega), cd, cnt, kn, tp]
    omega
theorem cds_sum : ∀ (bs : Bus) (n : Nat), (hts bs < n ∨ bs.l = []) → (wd (cds bs) n).sum = kns bs + tps bs
  | .nil, n, _ => by
    have e : cds .nil = fun _ => 0 := by funext d; simp [cds]
    simp [e, wd_zero, kns, tps]
  | .cons b bs, n, h => by
    have h : max (ht b) (hts bs) < n := by
      rcases h with h | h
      · exact h
      · simp [Bus.l] at h
    have e : cds (.cons b bs) = fun d => cd b d + cds bs d := by funext d; simp [cds]
    have h1 := cd_sum b n (by omega)
    have h2 := cds_sum bs n (.inl (by omega))
    simp only [cnt] at h1
    rw [e, wd_add, h1, h2]
    simp only [kns, tps]
    omega
end
mutual
theorem cd_pos : ∀ (b : Bu) (d : Nat), wf b = true → (0 < cd b d ↔ d ≤ ht b)
  | .tip, 0, _ => by simp [cd, ht]
  | .tip, d + 1, _ => by simp [cd, ht]
  | .knot s bs, 0, _ => by simp [cd]
  | .knot s bs, d + 1, h => by
    simp only [wf, Bool.and_eq_true, decide_eq_true_eq] at h
    have ne : bs.l ≠ [] := fun e => by rw [e] at h; simp at h
    have := cds_pos bs d h.2 ne
    simp only [cd, ht, this]
    omega
theorem cds_pos : ∀ (bs : Bus) (d : Nat), wfs bs = true → bs.l ≠ [] → (0 < cds bs d ↔ d ≤ hts bs)
  | .nil, d, _, h => absurd rfl h
  | .cons b .nil, d, h, _ => by
    simp only [wfs, Bool.and_eq_true] at h
    have := cd_pos b d h.1
    simp only [cds, hts]
    omega
  | .cons b (.cons c bs), d, h, _ => by
    simp only [wfs, Bool.and_eq_true] at h
    have h1 := cd_pos b d h.1
    have h2 := cds_pos (.cons c bs) d (by simp [wfs, h.2.1, h.2.2]) (by simp [Bus.l])
    have e1 : cds (.cons b (.cons c bs)) d = cd b d + cds (.cons c bs) d := by simp [cds]
    have e2 : hts (.cons b (.cons c bs)) = max (ht b) (hts (.cons c bs)) := rfl
    rw [e1, e2]
    omega
end
/-- the depths of all parts -/
def dps (b : Bu) : List Nat := (pts [] b).map fun q => q.1.length
mutual
theorem cd_count : ∀ (r : Rd) (b : Bu) (d : Nat), ((pts r b).map fun q => q.1.length).count (r.length + d) = cd b d
  | r, .tip, 0 => by simp [pts, cd]
  | r, .tip, d + 1 => by
    simp only [pts, cd, List.map_cons, List.map_nil]
    rw [List.count_eq_zero]
    simp
  | r, .knot s bs, 0 => by
    simp only [pts, List.map_cons, cd]
    rw [List.count_cons]
    have : ((ptsL r 0 bs).map fun q => q.1.length).count (r.length + 0) = 0 := by
      rw [List.count_eq_zero]
      intro h
      obtain ⟨q, hq, e⟩ := List.mem_map.mp h
      have hq' : q ∈ preL r 0 bs := (ptsL_perm r 0 bs).mem_iff.mp hq
      obtain ⟨j, t, _, e2⟩ := preL_ext r 0 bs q hq'
      rw [e2] at e
      simp at e
    rw [this]
    simp
  | r, .knot s bs, d + 1 => by
    have h := cds_count r 0 bs d
    simp only [pts, List.map_cons, cd]
    rw [List.count_cons]
    have ne : (r.length == r.length + (d + 1)) = false := by simp
    rw [ne, ← h]
    have : r.length + (d + 1) = r.length + 1 + d := by omega
    rw [this]
    simp
theorem cds_count : ∀ (r : Rd) (i : Nat) (bs : Bus) (d : Nat), ((ptsL r i bs).map fun q => q.1.length).count (r.length + 1 + d) = cds bs d
  | r, i, .nil, d => by simp [ptsL, cds]
  | r, i, .cons b bs, d => by
    have h1 := cd_count (r ++ [i]) b d
    have h2 := cds_count r (i + 1) bs d
    simp only [List.length_append, List.length_cons, List.length_nil] at h1
    simp only [ptsL, cds, List.map_append, List.count_append]
    rw [h2]
    simp only [Nat.zero_add] at h1
    rw [h1]
    omega
end
theorem dps_count (b : Bu) (d : Nat) : (dps b).count d = cd b d := by
  have := cd_count [] b d
  simpa [dps] using this
theorem dps_mem {b : Bu} (h : wf b = true) (d : Nat) : d ∈ dps b ↔ d ≤ ht b := by
  rw [← List.count_pos_iff, dps_count, cd_pos b d h]
theorem cd_le (b : Bu) (d : Nat) : cd b d ≤ cnt b := by
  rw [← dps_count, ← pts_len [] b]
  have := List.count_le_length (a := d) (l := dps b)
  simpa [dps] using this
def wid (b : Bu) : List Nat := wd (cd b) (ht b + 1)
theorem wid_len (b : Bu) : (wid b).length = ht b + 1 := by simp [wid, wd_range]
theorem wid_sum (b : Bu) : (wid b).sum = cnt b := cd_sum b (ht b + 1) (by omega)
def widD (b : Bu) : D := .tuple ((wid b).map fun n => .int (n : Nat))
/-! the walk by levels -/
def kd : Bu → List Bu
  | .tip => []
  | .knot _ bs => bs.l
def cdl (l : List Bu) (d : Nat) : Nat := (l.map fun b => cd b d).sum
def hl : List Bu → Nat
  | [] => 0
  | b :: l => max (ht b) (hl l)
theorem cds_l : ∀ (bs : Bus) (d : Nat), cds bs d = cdl bs.l d
  | .nil, d => by simp [cds, cdl, Bus.l]
  | .cons b bs, d => by
    have := cds_l bs d
    simp only [cdl] at this
    simp [cds, cdl, Bus.l, this]
theorem cd_kd (b : Bu) (d : Nat) : cd b (d + 1) = cdl (kd b) d := by
  cases b with
  | tip => simp [cd, kd, cdl]
  | knot s bs => simp [cd, kd, cds_l]
theorem cdl_kd : ∀ (l : List Bu) (d : Nat), cdl l (d + 1) = cdl (l.flatMap kd) d
  | [], d => by simp [cdl]
  | b :: l, d => by
    have h1 := cdl_kd l d
    have h2 := cd_kd b d
    simp only [cdl] at h1 h2 ⊢
    simp [h1, h2]
theorem cdl_zero : ∀ l : List Bu, cdl l 0 = l.length
  | [] => by simp [cdl]
  | b :: l => by
    have h1 := cdl_zero l
    have h2 : cd b 0 = 1 := by cases b <;> simp [cd]
    simp only [cdl] at h1 ⊢
    simp [h1, h2]
    omega
theorem hts_hl : ∀ bs : Bus, hts bs = hl bs.l
  | .nil => rfl
  | .cons b bs => by simp [hts, hl, Bus.l, hts_hl bs]
theorem hl_app : ∀ a b : List Bu, hl (a ++ b) = max (hl a) (hl b)
  | [], b => by simp [hl]
  | x :: a, b => by simp [hl, hl_app a b, Nat.max_assoc]
/-- a level lower: empty, or the heights one less -/
theorem hl_kd : ∀ (l : List Bu), (∀ b ∈ l, wf b = true) → (l.flatMap kd = [] → hl l = 0) ∧ (l.flatMap kd ≠ [] → hl l = hl (l.flatMap kd) + 1)
  | [], _ => ⟨fun _ => rfl, fun h => absurd rfl h⟩
  | b :: l, h => by
    obtain ⟨h1, h2⟩ := hl_kd l fun x hx => h x (List.mem_cons_of_mem _ hx)
    have hb := h b (List.mem_cons_self ..)
    cases b with
    | tip =>
      simp only [List.flatMap_cons, kd, List.nil_append, hl, ht]
      refine ⟨fun e => ?_, fun e => ?_⟩
      · rw [h1 e]; rfl
      · rw [h2 e]; omega
    | knot s bs =>
      simp only [wf, Bool.and_eq_true, decide_eq_true_eq] at hb
      have ne : bs.l ≠ [] := fun e => by rw [e] at hb; simp at hb
      simp only [List.flatMap_cons, kd, hl, ht, hl_app, hts_hl]
      refine ⟨fun e => absurd (List.append_eq_nil_iff.mp e).1 ne, fun _ => ?_⟩
      by_cases e : l.flatMap kd = []
      · rw [h1 e, e]; simp [hl]; omega
      · rw [h2 e]; omega
theorem kd_wf {l : List Bu} (h : ∀ b ∈ l, wf b = true) : ∀ b ∈ l.flatMap kd, wf b = true := fun b hb => by
  obtain ⟨c, hc, hb⟩ := List.mem_flatMap.mp hb
  have := h c hc
  cases c with
  | tip => cases hb
  | knot s bs =>
    simp only [wf, Bool.and_eq_true] at this
    exact wfs_mem this.2 b hb
/-- parts of a row of bushes -/
def cl (l : List Bu) : Nat := (l.map cnt).sum
theorem cl_kd : ∀ l : List Bu, cl (l.flatMap kd) ≤ cl l
  | [] => Nat.le_refl _
  | b :: l => by
    have h1 := cl_kd l
    have h2 : cl (kd b) ≤ cnt b := by
      cases b with
      | tip => simp [cl, kd]
      | knot s bs =>
        have := tot_kids 0 bs
        simp only [tot, List.map_map] at this
        have e : ((fun p : Bu × Nat => cnt p.1) ∘ fun b => (b, 0)) = cnt := by funext b; rfl
        rw [e] at this
        simp only [cl, kd, this, cnt, kn, tp]
        omega
    simp only [cl] at h1 h2 ⊢
    simp
    omega
theorem cl_len {l : List Bu} (h : ∀ b ∈ l, wf b = true) : l.length ≤ cl l := by
  induction l with
  | nil => simp [cl]
  | cons b l ih =>
    have h1 := cnt_pos b (h b (List.mem_cons_self ..))
    have h2 := ih fun x hx => h x (List.mem_cons_of_mem _ hx)
    simp only [cl, List.map_cons, List.sum_cons, List.length_cons] at *
    omega
end TW
end

section
namespace TW
open PySem
mutual
theorem near_ok : ∀ (b : Bu), wf b = true → ∀ (W k : Nat), ht b < k → callK FsT W k 1004 [.d (enc b)] = some (.d (.int (nr b)), [.d (enc b)])
  | .tip, _, W, k, hk => by
    obtain ⟨j, rfl⟩ : ∃ j, k = j + 1 := ⟨k - 1, by omega⟩
    simp [FsT, f1004, b1004, callK, evS, evE, evA, evO, evI, seqS, retF, asgF, asgPF, asgMF, stiF, expF, iteF, forF, andF, orF, notF, ifeF, bltF, consA, nilA, varF, litF, tupF, lstF, dicF, binF, negF, cmpF, cmp2F, idxF, slcF, calF, mtwF, sclF, noO, someO, rngF, seqF, toB, toI, vws, vw, view, dview, frz, frzs, keep1, keeps, put, puts, prep1, prep, lend, giveBack, updR, isAl, isOl, isOwn, bindT, bindTs, fin, outs, outs1, bltR, isiR, tyN, lenR, absR, intR, lstR, valsR, tuplR, cmpR, idxR, slcR, binR, isNoneD, enc_tip, dpt_nil, nr]
  | .knot s bs, hw, W, k, hk => by
    obtain ⟨j, rfl⟩ : ∃ j, k = j + 1 := ⟨k - 1, by omega⟩
    simp only [wf, Bool.and_eq_true, decide_eq_true_eq] at hw
    have ih := nears_ok bs hw.2 W j (by simp only [ht] at hk; omega)
    have hlc := lc_map (σ := [some (.d (enc (.knot s bs))), none]) (i := 1) (l := bs.l) (e := enc) (g := fun b => .int (nr b)) (fe := calF (callK FsT W j) 1004 [false] (consA (varF 1) nilA)) (it := seqF (slcF slcR (varF 0) (someO (litF (.int 1))) noO))
      (by simp) (by simp [isOwn]) (it_tail s bs _ rfl) (lim6 hw.1.2.2) fun b hb => by
        have := ih b hb
        simp [callK, evS, evE, evA, evO, evI, seqS, retF, asgF, asgPF, asgMF, stiF, expF, iteF, forF, andF, orF, notF, ifeF, bltF, consA, nilA, varF, litF, tupF, lstF, dicF, binF, negF, cmpF, cmp2F, idxF, slcF, calF, mtwF, sclF, noO, someO, rngF, seqF, toB, toI, vws, vw, view, dview, frz, frzs, keep1, keeps, put, puts, prep1, prep, lend, giveBack, updR, isAl, isOl, isOwn, bindT, bindTs, fin, outs, outs1, bltR, isiR, tyN, lenR, absR, intR, lstR, valsR, tuplR, cmpR, idxR, slcR, binR, isNoneD, this]
    cases bs with
    | nil => simp [Bus.l] at hw
    | cons c cs =>
      simp [FsT, f1004, b1004, callK, evS, evE, evA, evO, evI, seqS, retF, asgF, asgPF, asgMF, stiF, expF, iteF, forF, andF, orF, notF, ifeF, bltF, consA, nilA, varF, litF, tupF, lstF, dicF, binF, negF, cmpF, cmp2F, idxF, slcF, calF, mtwF, sclF, noO, someO, rngF, seqF, toB, toI, vws, vw, view, dview, frz, frzs, keep1, keeps, put, puts, prep1, prep, lend, giveBack, updR, isAl, isOl, isOwn, bindT, bindTs, fin, outs, outs1, bltR, isiR, tyN, lenR, absR, intR, lstR, valsR, tuplR, cmpR, idxR, slcR, binR, isNoneD, enc_ne, dpt_nil, hlc, minR, intL_map, nr, nrs_map]
      simp [Bus.l, intL, intL_map, lmI, outs, outs1]
theorem nears_ok : ∀ (bs : Bus), wfs bs = true → ∀ (W j : Nat), hts bs < j → ∀ b ∈ bs.l, callK FsT W j 1004 [.d (enc b)] = some (.d (.int (nr b)), [.d (enc b)])
  | .nil, _, W, j, _, b, hb => by cases hb
  | .cons c bs, h, W, j, hj, b, hb => by
    simp only [wfs, Bool.and_eq_true] at h
    simp only [hts] at hj
    rcases List.mem_cons.mp (show b ∈ c :: bs.l from hb) with e | hb
    · rw [e]; exact near_ok c h.1 W j (by omega)
    · exact nears_ok bs h.2 W j (by omega) b hb
end
structure Sm (b : Bu) : Prop where
  w : wf b = true
  h : ht b ≤ 60
  c : cnt b ≤ 400
theorem knots_of_ok (b : Bu) (s : Sm b) (W k : Nat) (hW : 6000 ≤ W) (hk : 70 < k) : callK FsT W k 1002 [.d (enc b)] = some (.d (.int (kn b)), [.d (enc b)]) := by
  obtain ⟨j, rfl⟩ : ∃ j, k = j + 1 := ⟨k - 1, by omega⟩
  have h1 := need_ok b s.w s.h s.c W j (by omega) (by omega)
  have h2 := kn_ok b s.w W j (by have := s.h; omega)
  simp [FsT, f1002, b1002, callK, evS, evE, evA, evO, evI, seqS, retF, asgF, asgPF, asgMF, stiF, expF, iteF, forF, andF, orF, notF, ifeF, bltF, consA, nilA, varF, litF, tupF, lstF, dicF, binF, negF, cmpF, cmp2F, idxF, slcF, calF, mtwF, sclF, noO, someO, rngF, seqF, toB, toI, vws, vw, view, dview, frz, frzs, keep1, keeps, put, puts, prep1, prep, lend, giveBack, updR, isAl, isOl, isOwn, bindT, bindTs, fin, outs, outs1, bltR, isiR, tyN, lenR, absR, intR, lstR, valsR, tuplR, cmpR, idxR, slcR, binR, isNoneD, h1, h2]
theorem tips_of_ok (b : Bu) (s : Sm b) (W k : Nat) (hW : 6000 ≤ W) (hk : 70 < k) : callK FsT W k 1003 [.d (enc b)] = some (.d (.int (tp b)), [.d (enc b)]) := by
  obtain ⟨j, rfl⟩ : ∃ j, k = j + 1 := ⟨k - 1, by omega⟩
  have h1 := need_ok b s.w s.h s.c W j (by omega) (by omega)
  have h2 := tp_ok b s.w W j (by have := s.h; omega)
  simp [FsT, f1003, b1003, callK, evS, evE, evA, evO, evI, seqS, retF, asgF, asgPF, asgMF, stiF, expF, iteF, forF, andF, orF, notF, ifeF, bltF, consA, nilA, varF, litF, tupF, lstF, dicF, binF, negF, cmpF, cmp2F, idxF, slcF, calF, mtwF, sclF, noO, someO, rngF, seqF, toB, toI, vws, vw, view, dview, frz, frzs, keep1, keeps, put, puts, prep1, prep, lend, giveBack, updR, isAl, isOl, isOwn, bindT, bindTs, fin, outs, outs1, bltR, isiR, tyN, lenR, absR, intR, lstR, valsR, tuplR, cmpR, idxR, slcR, binR, isNoneD, h1, h2]
theorem near_of_ok (b : Bu) (s : Sm b) (W k : Nat) (hW : 6000 ≤ W) (hk : 70 < k) : callK FsT W k 1005 [.d (enc b)] = some (.d (.int (nr b)), [.d (enc b)]) := by
  obtain ⟨j, rfl⟩ : ∃ j, k = j + 1 := ⟨k - 1, by omega⟩
  have h1 := need_ok b s.w s.h s.c W j (by omega) (by omega)
  have h2 := near_ok b s.w W j (by have := s.h; omega)
  simp [FsT, f1005, b1005, callK, evS, evE, evA, evO, evI, seqS, retF, asgF, asgPF, asgMF, stiF, expF, iteF, forF, andF, orF, notF, ifeF, bltF, consA, nilA, varF, litF, tupF, lstF, dicF, binF, negF, cmpF, cmp2F, idxF, slcF, calF, mtwF, sclF, noO, someO, rngF, seqF, toB, toI, vws, vw, view, dview, frz, frzs, keep1, keeps, put, puts, prep1, prep, lend, giveBack, updR, isAl, isOl, isOwn, bindT, bindTs, fin, outs, outs1, bltR, isiR, tyN, lenR, absR, intR, lstR, valsR, tuplR, cmpR, idxR, slcR, binR, isNoneD, h1, h2]
theorem height_of_ok (b : Bu) (s : Sm b) (W k : Nat) (hW : 6000 ≤ W) (hk : 70 < k) : callK FsT W k 1006 [.d (enc b)] = some (.d (.int (ht b)), [.d (enc b)]) := by
  obtain ⟨j, rfl⟩ : ∃ j, k = j + 1 := ⟨k - 1, by omega⟩
  have h1 := need_ok b s.w s.h s.c W j (by omega) (by omega)
  have h2 := ht_ok b s.w W j (by have := s.h; omega)
  simp [FsT, f1006, b1006, callK, evS, evE, evA, evO, evI, seqS, retF, asgF, asgPF, asgMF, stiF, expF, iteF, forF, andF, orF, notF, ifeF, bltF, consA, nilA, varF, litF, tupF, lstF, dicF, binF, negF, cmpF, cmp2F, idxF, slcF, calF, mtwF, sclF, noO, someO, rngF, seqF, toB, toI, vws, vw, view, dview, frz, frzs, keep1, keeps, put, puts, prep1, prep, lend, giveBack, updR, isAl, isOl, isOwn, bindT, bindTs, fin, outs, outs1, bltR, isiR, tyN, lenR, absR, intR, lstR, valsR, tuplR, cmpR, idxR, slcR, binR, isNoneD, h1, h2]
/-! widths, level by level -/
def wl : Nat → List Bu → List Nat
  | 0, _ => []
  | n + 1, l => if l.isEmpty then [] else l.length :: wl n (l.flatMap kd)
theorem wl_cd : ∀ (n : Nat) (l : List Bu), (∀ b ∈ l, wf b = true) → l ≠ [] → hl l < n → wl n l = wd (cdl l) (hl l + 1)
  | 0, l, _, _, h => by omega
  | n + 1, l, hw, ne, h => by
    obtain ⟨h1, h2⟩ := hl_kd l hw
    have ie : l.isEmpty = false := by cases l with
      | nil => exact absurd rfl ne
      | cons a l => rfl
    have fe : (fun d => cdl l (d + 1)) = cdl (l.flatMap kd) := by funext d; exact cdl_kd l d
    simp only [wl, ie, Bool.false_eq_true, if_false, wd, cdl_zero, fe]
    congr 1
    by_cases e : l.flatMap kd = []
    · rw [h1 e, e]
      cases n <;> simp [wl, wd]
    · rw [h2 e]
      exact wl_cd n _ (kd_wf hw) e (by have := h2 e; omega)
theorem wl_one (b : Bu) (h : wf b = true) (n : Nat) (hn : ht b < n) : wl n [b] = wid b := by
  have e1 : hl [b] = ht b := by simp [hl]
  have e2 : cdl [b] = cd b := by funext d; simp [cdl]
  rw [wl_cd n [b] (fun x hx => by simp at hx; rw [hx]; exact h) (by simp) (by rw [e1]; exact hn), e1, e2]
  rfl
def natsD (l : List Nat) : List D := l.map fun n => .int (n : Nat)
def widC : En → Option (Bool × En) := fun s => toB (cmpF .NotEq (varF 2) (lstF nilA) s)
def wfor : S := match b1007 with
  | .cons _ (.cons (.whl _ b) _) => b
  | _ => .nil
theorem later_for (v x1 x2 : Option Rv) (l : List Bu) (hw : ∀ b ∈ l, wf b = true) (hl : cl l ≤ 100000) (x3 : Option Rv) (h3 : isOwn x3 = false) (c : Cl) (W : Nat) :
    ∃ x, forL (evS c W (match wfor with
      | .cons _ (.cons (.for _ _ b) _) => b
      | _ => .nil)) (.nm 3) (l.map enc) [v, x1, x2, x3, some (.ol [] false)] = some (.nx, [v, x1, x2, x, some (.ol ((l.flatMap kd).map enc) false)]) ∧ isOwn x = false := by
  have hf := for_fold (e := enc) (E := fun (acc : List Bu) x => [v, x1, x2, x, some (.ol (acc.map enc) false)]) (step := fun acc b => acc ++ kd b) (i := 3)
    (body := evS c W (match wfor with
      | .cons _ (.cons (.for _ _ b) _) => b
      | _ => .nil))
    (P := fun acc l => acc.length + cl l ≤ 100000 ∧ ∀ b ∈ l, wf b = true) (fun acc b l x hx hp => by
      obtain ⟨p1, p2⟩ := hp
      have wb := p2 b (List.mem_cons_self ..)
      simp only [cl, List.map_cons, List.sum_cons] at p1
      have kl : (kd b).length ≤ cnt b := by
        have h1 : (kd b).length ≤ cl (kd b) := cl_len (kd_wf (l := [b]) (fun y hy => by simp at hy; rw [hy]; exact wb) |> fun h y hy => h y (by simpa using hy))
        have h2 := cl_kd [b]
        simp [cl] at h1 h2
        omega
      refine ⟨rfl, rfl, ?_, ?_, fun y hy => p2 y (List.mem_cons_of_mem _ hy)⟩
      · have l1 : acc.length + (kd b).length ≤ LIM := by unfold LIM; omega
        cases b with
        | tip =>
          simp only [kd, List.length_nil, Nat.add_zero] at l1
          simp only [wfor, b1007]
          simp [callK, evS, evE, evA, evO, evI, seqS, retF, asgF, asgPF, asgMF, stiF, expF, iteF, forF, andF, orF, notF, ifeF, bltF, consA, nilA, varF, litF, tupF, lstF, dicF, binF, negF, cmpF, cmp2F, idxF, slcF, calF, mtwF, sclF, noO, someO, rngF, seqF, toB, toI, vws, vw, view, dview, frz, frzs, keep1, keeps, put, puts, prep1, prep, lend, giveBack, updR, isAl, isOl, isOwn, bindT, bindTs, fin, outs, outs1, bltR, isiR, tyN, lenR, absR, intR, lstR, valsR, tuplR, cmpR, idxR, slcR, binR, isNoneD, enc, cut, HT.sIx, l1, kd]
        | knot s bs =>
          have e : enc (.knot s bs) = .tuple (.str s :: bs.l.map enc) := by simp [enc, encs_map]
          simp only [kd] at l1
          simp only [wfor, b1007]
          rw [e]
          simp [callK, evS, evE, evA, evO, evI, seqS, retF, asgF, asgPF, asgMF, stiF, expF, iteF, forF, andF, orF, notF, ifeF, bltF, consA, nilA, varF, litF, tupF, lstF, dicF, binF, negF, cmpF, cmp2F, idxF, slcF, calF, mtwF, sclF, noO, someO, rngF, seqF, toB, toI, vws, vw, view, dview, frz, frzs, keep1, keeps, put, puts, prep1, prep, lend, giveBack, updR, isAl, isOl, isOwn, bindT, bindTs, fin, outs, outs1, bltR, isiR, tyN, lenR, absR, intR, lstR, valsR, tuplR, cmpR, idxR, slcR, binR, isNoneD, cut_tail, l1, kd]
      · simp only [List.length_append]
        show _ + cl l ≤ _
        simp only [cl]
        omega) l [] x3 h3 ⟨by simpa using hl, hw⟩
  obtain ⟨x, hx, hx2⟩ := hf
  refine ⟨x, ?_, hx2⟩
  have fe : ∀ (l acc : List Bu), l.foldl (fun acc b => acc ++ kd b) acc = acc ++ l.flatMap kd := fun l => by
    induction l with
    | nil => intro acc; simp
    | cons a l ih => intro acc; simp [ih]
  rw [fe] at hx
  simpa using hx
def s2 (xs : List D) (o : Bool) : Option Rv := if o then some (.ol xs false) else some (.d (.list xs))
theorem wid_body (c : Cl) (W : Nat) (v : Option Rv) (l : List Bu) (F : List Nat) (x3 x4 : Option Rv) (o : Bool) (h3 : isOwn x3 = false) (h4 : isOwn x4 = false) (hw : ∀ b ∈ l, wf b = true) (hc : cl l ≤ 100000) (hF : F.length ≤ 3000000) :
    ∃ x, evS c W wfor [v, some (.d (.tuple (natsD F))), s2 (l.map enc) o, x3, x4] = some (.nx, [v, some (.d (.tuple (natsD (F ++ [l.length])))), s2 ((l.flatMap kd).map enc) false, x, some (.d (.list ((l.flatMap kd).map enc)))]) ∧ isOwn x = false := by
  obtain ⟨x, hf, hx⟩ := later_for v (some (.d (.tuple (natsD (F ++ [l.length]))))) (some (.d (.list (l.map enc)))) l hw hc x3 h3 c W
  refine ⟨x, ?_, hx⟩
  have p4 : ∀ (u0 u1 u2 u3 : Option Rv) z, put 4 z [u0, u1, u2, u3, x4] = some [u0, u1, u2, u3, some z] := fun u0 u1 u2 u3 z => put_free rfl h4
  have p1 : ∀ (u0 u2 u3 u4 : Option Rv) x z, put 1 z [u0, some (.d x), u2, u3, u4] = some [u0, some z, u2, u3, u4] := fun _ _ _ _ _ _ => rfl
  have l1 : F.length + 1 ≤ LIM := by unfold LIM; omega
  have l2 : 1 ≤ LIM := by decide
  have l3 : 0 ≤ LIM := by decide
  have ln : (natsD F).length = F.length := by simp [natsD]
  have ee : natsD (F ++ [l.length]) = natsD F ++ [.int ((l.map enc).length : Nat)] := by simp [natsD]
  simp only [wfor, b1007] at hf ⊢
  refine evS_cons.trans ((seq_nx (σ1 := [v, some (.d (.tuple (natsD (F ++ [l.length])))), s2 (l.map enc) o, x3, some (.ol [] false)]) ?_).trans ?_)
  · rw [ee]
    generalize l.map enc = L at *
    cases o <;> simp [callK, evS, evE, evA, evO, evI, seqS, retF, asgF, asgPF, asgMF, stiF, expF, iteF, forF, andF, orF, notF, ifeF, bltF, consA, nilA, varF, litF, tupF, lstF, dicF, binF, negF, cmpF, cmp2F, idxF, slcF, calF, mtwF, sclF, noO, someO, rngF, seqF, toB, toI, vws, vw, view, dview, frz, frzs, keep1, keeps, puts, prep1, prep, lend, giveBack, updR, isAl, isOl, isOwn, bindT, bindTs, fin, outs, outs1, bltR, isiR, tyN, lenR, absR, intR, lstR, valsR, tuplR, cmpR, idxR, slcR, binR, isNoneD, s2, p1, p4, l1, l2, l3, ln]
  refine evS_cons.trans ((seq_nx (σ1 := [v, some (.d (.tuple (natsD (F ++ [l.length])))), some (.d (.list (l.map enc))), x, some (.ol ((l.flatMap kd).map enc) false)]) ?_).trans ?_)
  · refine (evS_for (xs := l.map enc) (σ1 := [v, some (.d (.tuple (natsD (F ++ [l.length])))), some (.d (.list (l.map enc))), x3, some (.ol [] false)]) ?_).trans hf
    generalize l.map enc = L at *
    cases o <;> simp [callK, evS, evE, evA, evO, evI, seqS, retF, asgF, asgPF, asgMF, stiF, expF, iteF, forF, andF, orF, notF, ifeF, bltF, consA, nilA, varF, litF, tupF, lstF, dicF, binF, negF, cmpF, cmp2F, idxF, slcF, calF, mtwF, sclF, noO, someO, rngF, seqF, toB, toI, vws, vw, view, dview, frz, frzs, keep1, keeps, puts, prep1, prep, lend, giveBack, updR, isAl, isOl, isOwn, bindT, bindTs, fin, outs, outs1, bltR, isiR, tyN, lenR, absR, intR, lstR, valsR, tuplR, cmpR, idxR, slcR, binR, isNoneD, s2]
  · rw [evS_cons]
    generalize (l.flatMap kd).map enc = L2' at *
    simp [callK, evS, evE, evA, evO, evI, seqS, retF, asgF, asgPF, asgMF, stiF, expF, iteF, forF, andF, orF, notF, ifeF, bltF, consA, nilA, varF, litF, tupF, lstF, dicF, binF, negF, cmpF, cmp2F, idxF, slcF, calF, mtwF, sclF, noO, someO, rngF, seqF, toB, toI, vws, vw, view, dview, frz, frzs, keep1, keeps, put, puts, prep1, prep, lend, giveBack, updR, isAl, isOl, isOwn, bindT, bindTs, fin, outs, outs1, bltR, isiR, tyN, lenR, absR, intR, lstR, valsR, tuplR, cmpR, idxR, slcR, binR, isNoneD, s2]
theorem wid_loop (c : Cl) (W : Nat) (v : Option Rv) : ∀ (n : Nat) (l : List Bu) (F : List Nat) (x3 x4 : Option Rv) (o : Bool), isOwn x3 = false → isOwn x4 = false → (∀ b ∈ l, wf b = true) → cl l ≤ 100000 → F.length + n ≤ 3000000 → (l = [] → 0 < n) → (l ≠ [] → hl l + 1 < n) →
    ∃ σ, whlL widC (evS c W wfor) n [v, some (.d (.tuple (natsD F))), s2 (l.map enc) o, x3, x4] = some (.nx, σ) ∧ σ[1]? = some (some (.d (.tuple (natsD (F ++ wl n l)))))
  | 0, l, F, x3, x4, o, _, _, _, _, _, h, h' => by
    by_cases e : l = []
    · exact absurd (h e) (by omega)
    · exact absurd (h' e) (by omega)
  | n + 1, [], F, x3, x4, o, h3, h4, hw, hc, hF, h, h' => by
    have e : dpt (.list []) (.list []) = true := by decide
    refine ⟨[v, some (.d (.tuple (natsD F))), s2 [] o, x3, x4], ?_, by simp [wl]⟩
    cases o <;> simp [whlL, widC, callK, evS, evE, evA, evO, evI, seqS, retF, asgF, asgPF, asgMF, stiF, expF, iteF, forF, andF, orF, notF, ifeF, bltF, consA, nilA, varF, litF, tupF, lstF, dicF, binF, negF, cmpF, cmp2F, idxF, slcF, calF, mtwF, sclF, noO, someO, rngF, seqF, toB, toI, vws, vw, view, dview, frz, frzs, keep1, keeps, put, puts, prep1, prep, lend, giveBack, updR, isAl, isOl, isOwn, bindT, bindTs, fin, outs, outs1, bltR, isiR, tyN, lenR, absR, intR, lstR, valsR, tuplR, cmpR, idxR, slcR, binR, isNoneD, e, s2, PyData.eqv, PyData.eqvAll, LIM]
  | n + 1, a :: l, F, x3, x4, o, h3, h4, hw, hc, hF, h, h' => by
    obtain ⟨x, hb, hx⟩ := wid_body c W v (a :: l) F x3 x4 o h3 h4 hw hc (by omega)
    obtain ⟨h1, h2⟩ := hl_kd (a :: l) hw
    have hh := h' (by simp)
    obtain ⟨σ, ih1, ih2⟩ := wid_loop c W v n ((a :: l).flatMap kd) (F ++ [(a :: l).length]) x (some (.d (.list (((a :: l).flatMap kd).map enc)))) false hx rfl (kd_wf hw) (Nat.le_trans (cl_kd _) hc) (by simp only [List.length_append, List.length_cons, List.length_nil]; omega) (fun _ => by omega) (fun e => by have := h2 e; omega)
    have hc0 : widC [v, some (.d (.tuple (natsD F))), s2 ((a :: l).map enc) o, x3, x4] = some (true, [v, some (.d (.tuple (natsD F))), s2 ((a :: l).map enc) o, x3, x4]) := by
      have e : dpt (.list (enc a :: l.map enc)) (.list []) = true := by
        unfold dpt
        simp [PyData.depth, PyData.depthAll]
      have ne : PyData.eqv (.list (enc a :: l.map enc)) (.list []) = false := by simp [PyData.eqv, PyData.eqvAll]
      cases o <;> simp [widC, callK, evS, evE, evA, evO, evI, seqS, retF, asgF, asgPF, asgMF, stiF, expF, iteF, forF, andF, orF, notF, ifeF, bltF, consA, nilA, varF, litF, tupF, lstF, dicF, binF, negF, cmpF, cmp2F, idxF, slcF, calF, mtwF, sclF, noO, someO, rngF, seqF, toB, toI, vws, vw, view, dview, frz, frzs, keep1, keeps, put, puts, prep1, prep, lend, giveBack, updR, isAl, isOl, isOwn, bindT, bindTs, fin, outs, outs1, bltR, isiR, tyN, lenR, absR, intR, lstR, valsR, tuplR, cmpR, idxR, slcR, binR, isNoneD, e, ne, s2, LIM]
    refine ⟨σ, ?_, ?_⟩
    · simp only [whlL, hc0, hb]
      exact ih1
    · rw [ih2]
      simp [wl]
theorem widths_in_ok (b : Bu) (s : Sm b) (W k : Nat) (hW : 6000 ≤ W) (hW2 : W ≤ 2000000) (hk : 0 < k) : callK FsT W k 1007 [.d (enc b)] = some (.d (widD b), [.d (enc b)]) := by
  obtain ⟨j, rfl⟩ : ∃ j, k = j + 1 := ⟨k - 1, by omega⟩
  have sh := s.h
  have sc := s.c
  obtain ⟨σ, h1, h2⟩ := wid_loop (callK FsT W j) W (some (.d (enc b))) W [b] [] none none true rfl rfl (fun x hx => by simp at hx; rw [hx]; exact s.w) (by simp [cl]; omega) (by simp; omega) (fun e => by cases e) (fun _ => by simp [hl]; omega)
  rw [List.nil_append, wl_one b s.w W (by omega)] at h2
  have e1 : evS (callK FsT W j) W b1007 [some (.d (enc b)), none, none, none, none] = some (.ret (.d (widD b)), σ) := by
    simp only [wfor, b1007] at h1
    unfold b1007
    refine evS_cons.trans ((seq_nx (σ1 := [some (.d (enc b)), some (.d (.tuple (natsD []))), s2 ([b].map enc) true, none, none]) ?_).trans ?_)
    · simp [callK, evS, evE, evA, evO, evI, seqS, retF, asgF, asgPF, asgMF, stiF, expF, iteF, forF, andF, orF, notF, ifeF, bltF, consA, nilA, varF, litF, tupF, lstF, dicF, binF, negF, cmpF, cmp2F, idxF, slcF, calF, mtwF, sclF, noO, someO, rngF, seqF, toB, toI, vws, vw, view, dview, frz, frzs, keep1, keeps, put, puts, prep1, prep, lend, giveBack, updR, isAl, isOl, isOwn, bindT, bindTs, fin, outs, outs1, bltR, isiR, tyN, lenR, absR, intR, lstR, valsR, tuplR, cmpR, idxR, slcR, binR, isNoneD, LIM, natsD, s2]
    refine evS_cons.trans ((seq_nx (σ1 := σ) h1).trans ?_)
    rw [evS_cons]
    simp [callK, evS, evE, evA, evO, evI, seqS, retF, asgF, asgPF, asgMF, stiF, expF, iteF, forF, andF, orF, notF, ifeF, bltF, consA, nilA, varF, litF, tupF, lstF, dicF, binF, negF, cmpF, cmp2F, idxF, slcF, calF, mtwF, sclF, noO, someO, rngF, seqF, toB, toI, vws, vw, view, dview, frz, frzs, keep1, keeps, put, puts, prep1, prep, lend, giveBack, updR, isAl, isOl, isOwn, bindT, bindTs, fin, outs, outs1, bltR, isiR, tyN, lenR, absR, intR, lstR, valsR, tuplR, cmpR, idxR, slcR, binR, isNoneD, h2, widD, natsD]
  rw [call_ret (fd := f1007) rfl rfl e1 rfl, outs_d1]
theorem widths_of_ok (b : Bu) (s : Sm b) (W k : Nat) (hW : 6000 ≤ W) (hW2 : W ≤ 2000000) (hk : 70 < k) : callK FsT W k 1008 [.d (enc b)] = some (.d (widD b), [.d (enc b)]) := by
  obtain ⟨j, rfl⟩ : ∃ j, k = j + 1 := ⟨k - 1, by omega⟩
  have h1 := need_ok b s.w s.h s.c W j (by omega) (by omega)
  have h2 := widths_in_ok b s W j hW hW2 (by omega)
  simp [FsT, f1008, b1008, callK, evS, evE, evA, evO, evI, seqS, retF, asgF, asgPF, asgMF, stiF, expF, iteF, forF, andF, orF, notF, ifeF, bltF, consA, nilA, varF, litF, tupF, lstF, dicF, binF, negF, cmpF, cmp2F, idxF, slcF, calF, mtwF, sclF, noO, someO, rngF, seqF, toB, toI, vws, vw, view, dview, frz, frzs, keep1, keeps, put, puts, prep1, prep, lend, giveBack, updR, isAl, isOl, isOwn, bindT, bindTs, fin, outs, outs1, bltR, isiR, tyN, lenR, absR, intR, lstR, valsR, tuplR, cmpR, idxR, slcR, binR, isNoneD, h1, h2]
end TW
end

section
namespace TW
open PySem
open PySem.W
/-! ### counts by depth, told by a dict -/
def kst (ks : List Nat) (n : Nat) : List Nat := if n ∈ ks then ks else ks ++ [n]
def kk (ds : List Nat) : List Nat := ds.foldl kst []
theorem kk_snoc (ds : List Nat) (n : Nat) : kk (ds ++ [n]) = kst (kk ds) n := by simp [kk, List.foldl_append]
theorem kst_spec : ∀ (ds ks : List Nat), ks.Nodup → (ds.foldl kst ks).Nodup ∧ ∀ n, n ∈ ds.foldl kst ks ↔ n ∈ ks ∨ n ∈ ds
  | [], ks, h => ⟨h, fun n => by simp⟩
  | d :: ds, ks, h => by
    have hn : (kst ks d).Nodup := by
      unfold kst
      split
      · exact h
      · rename_i e
        rw [List.nodup_append]
        refine ⟨h, by simp, fun a ha b hb => ?_⟩
        simp at hb
        rw [hb]
        intro e2
        exact e (e2 ▸ ha)
    obtain ⟨h1, h2⟩ := kst_spec ds (kst ks d) hn
    refine ⟨h1, fun n => ?_⟩
    rw [List.foldl_cons, h2 n]
    unfold kst
    split
    · rename_i e
      constructor
      · rintro (h | h)
        · exact .inl h
        · exact .inr (List.mem_cons_of_mem _ h)
      · rintro (h | h)
        · exact .inl h
        · rcases List.mem_cons.mp h with rfl | h
          · exact .inl e
          · exact .inr h
    · simp [or_assoc]
theorem kk_mem (ds : List Nat) (n : Nat) : n ∈ kk ds ↔ n ∈ ds := by
  have := (kst_spec ds [] List.nodup_nil).2 n
  simpa [kk] using this
theorem kk_nodup (ds : List Nat) : (kk ds).Nodup := (kst_spec ds [] List.nodup_nil).1
theorem kst_len (ks : List Nat) (n : Nat) : (kst ks n).length ≤ ks.length + 1 := by
  unfold kst
  split <;> simp
theorem kk_len : ∀ (ds ks : List Nat), (ds.foldl kst ks).length ≤ ks.length + ds.length
  | [], ks => by simp
  | d :: ds, ks => by
    have h1 := kk_len ds (kst ks d)
    have h2 := kst_len ks d
    simp only [List.foldl_cons, List.length_cons]
    omega
def kvc (ds : List Nat) : List (D × D) := (kk ds).map fun n => (.int (n : Nat), .int ((ds.count n : Nat)))
theorem eqv_nat (a b : Nat) : PyData.eqv (.int (a : Nat)) (.int (b : Nat)) = decide (a = b) := by
  simp only [PyData.eqv]
  by_cases e : a = b
  · simp [e]
  · have : ¬ (a : Int) = (b : Int) := by omega
    simp [e, this]
theorem kvGet_map (f : Nat → D) (n : Nat) : ∀ ks : List Nat, kvGet (.int (n : Nat)) (ks.map fun m => (PyData.int (m : Nat), f m)) = if n ∈ ks then some (f n) else none
  | [] => by simp [kvGet]
  | k :: ks => by
    simp only [List.map_cons, kvGet, eqv_nat]
    by_cases e : k = n
    · subst e; simp
    · have h := kvGet_map f n ks
      have : ¬ n = k := fun h => e h.symm
      simp [e, this, h]
theorem kvGet_kvc (ds : List Nat) (n : Nat) : (kvGet (.int (n : Nat)) (kvc ds)).getD (.int 0) = .int ((ds.count n : Nat)) := by
  unfold kvc
  rw [kvGet_map (fun m => .int ((ds.count m : Nat)))]
  by_cases h : n ∈ kk ds
  · simp [h]
  · have : ds.count n = 0 := List.count_eq_zero.mpr fun e => h ((kk_mem ds n).mpr e)
    simp [h, this]
theorem kvPut_kvc (ds : List Nat) (n : Nat) : kvPut (.int (n : Nat)) (.int ((ds.count n : Nat) + 1 : Int)) (kvc ds) = kvc (ds ++ [n]) := by
  unfold kvPut
  by_cases h : n ∈ kk ds
  · have e1 : ((kvc ds).any fun p => PyData.eqv p.1 (.int (n : Nat))) = true := by
      rw [List.any_eq_true]
      refine ⟨_, List.mem_map.mpr ⟨n, h, rfl⟩, ?_⟩
      simp [eqv_nat]
    rw [if_pos e1]
    unfold kvc
    rw [kk_snoc]
    simp only [kst, h, if_true, List.map_map]
    apply List.map_congr_left
    intro m hm
    simp only [Function.comp, eqv_nat, List.count_append]
    by_cases e : m = n
    · subst e
      simp
    · have : [n].count m = 0 := List.count_eq_zero.mpr (by simpa using e)
      simp [e, this]
  · have e1 : ((kvc ds).any fun p => PyData.eqv p.1 (.int (n : Nat))) = false := by
      rw [List.any_eq_false]
      intro p hp
      obtain ⟨m, hm, rfl⟩ := List.mem_map.mp hp
      simp only [eqv_nat]
      have : ¬ m = n := fun e => h (e ▸ hm)
      simp [this]
    have c0 : ds.count n = 0 := List.count_eq_zero.mpr fun e => h ((kk_mem ds n).mpr e)
    rw [if_neg (by rw [e1]; simp)]
    unfold kvc
    rw [kk_snoc]
    simp only [kst, h, if_false, List.map_append, List.map_cons, List.map_nil]
    congr 1
    · apply List.map_congr_left
      intro m hm
      have : [n].count m = 0 := List.count_eq_zero.mpr (by simp; intro e; exact h (e ▸ hm))
      simp [List.count_append, this]
    · simp [List.count_append, c0]
theorem dataB_int (a b : Nat) : dataB (.int (a : Nat)) (.int (b : Nat)) = !decide (b < a) := by
  simp only [dataB, dataLt_int, Int.ofNat_lt]
theorem srtOk_nat (l : List Nat) : srtOk (l.map fun n => PyData.int (n : Nat)) = true := by
  have h1 : alikeAny (l.map fun n => PyData.int (n : Nat)) = true := by
    unfold alikeAny
    rw [List.all_eq_true]
    intro x hx
    obtain ⟨a, _, rfl⟩ := List.mem_map.mp hx
    rw [List.all_eq_true]
    intro y hy
    obtain ⟨b, _, rfl⟩ := List.mem_map.mp hy
    simp [alike]
  have h2 : (l.map fun n => PyData.int (n : Nat)).all (fun x => decide (x.depth ≤ 150)) = true := by
    rw [List.all_eq_true]
    intro x hx
    obtain ⟨a, _, rfl⟩ := List.mem_map.mp hx
    simp [PyData.depth]
  have h3 : (l.map fun n => PyData.int (n : Nat)).all (fun x => match x with
  | .tuple _ => false
  | .none => false
  | _ => true) = true := by
    rw [List.all_eq_true]
    intro x hx
    obtain ⟨a, _, rfl⟩ := List.mem_map.mp hx
    rfl
  unfold srtOk
  rw [h1, h2]
  simp only [Bool.true_and, Bool.or_eq_true]
  exact .inr h3
theorem nat_sort {ks : List Nat} {m : Nat} (nd : ks.Nodup) (h : ∀ n, n ∈ ks ↔ n < m) : (ks.map fun n => PyData.int (n : Nat)).mergeSort dataB = (List.range m).map fun n => PyData.int (n : Nat) := by
  rw [← List.map_mergeSort (r := fun x y => !decide (y < x)) (fun a _ b _ => (dataB_int a b).symm)]
  congr 1
  refine List.Perm.eq_of_pairwise (le := fun a b : Nat => (!decide (b < a)) = true) ?_ (List.pairwise_mergeSort ?_ ?_ _) ?_ ((List.mergeSort_perm _ _).trans ?_)
  · intro a b _ _ h1 h2
    simp at h1 h2
    omega
  · intro a b c h1 h2
    simp at h1 h2 ⊢
    omega
  · intro a b
    simp
    omega
  · have := List.pairwise_lt_range (n := m)
    exact this.imp fun h => by simp; omega
  · rw [List.perm_ext_iff_of_nodup nd List.nodup_range]
    intro n
    rw [h n, List.mem_range]
theorem srt_kvc (ds : List Nat) (m : Nat) (h : ∀ n, n ∈ ds ↔ n < m) : srtR [.di false (kvc ds)] = some (.fl ((List.range m).map fun n => PyData.int (n : Nat))) := by
  have e : (kvc ds).map (·.1) = (kk ds).map fun n => PyData.int (n : Nat) := by simp [kvc, Function.comp_def]
  have e2 := nat_sort (kk_nodup ds) (m := m) (fun n => by rw [kk_mem, h])
  simp only [srtR]
  rw [e, srtOk_nat, e2]
  rfl
theorem walked_ok (b : Bu) (hw : wf b = true) (hd : ht b ≤ 1000) (hc : cnt b ≤ 5000) (W k : Nat) (hW : 6000 ≤ W) (hk : 1 < k) : callK FsT W k 1001 [.d (enc b)] = some (.d (widD b), [.d (enc b)]) := by
  obtain ⟨j, rfl⟩ : ∃ j, k = j + 1 := ⟨k - 1, by omega⟩
  have h1 := parts_ok b hw hd hc W j hW (by omega)
  have pl : (pts [] b).length ≤ 5000 := by rw [pts_len]; exact hc
  have hf := for_fold (e := fun q : Rd × Bu => rd q.1) (E := fun (ds : List Nat) x => [some (.d (enc b)), some (.od false (kvc ds) false), x, none]) (step := fun ds q => ds ++ [q.1.length]) (i := 2)
    (body := evS (callK FsT W j) W (match b1001 with
      | .cons _ (.cons (.for _ _ b) _) => b
      | _ => .nil))
    (P := fun ds l => ds.length + l.length ≤ 5000) (fun ds q l x hx hp => by
      simp only [List.length_cons] at hp
      refine ⟨rfl, rfl, ?_, by simp; omega⟩
      have g1 := kvGet_kvc ds q.1.length
      have g2 := kvPut_kvc ds q.1.length
      have lr : ∀ r : Rd, (r.map fun i => PyData.int (i : Nat)).length = r.length := fun r => by simp
      have kl : (kvc ds).length < LIM := by
        have := kk_len ds []
        simp only [kvc, List.length_map]
        simp only [kk] at *
        simp at this
        unfold LIM
        omega
      have ko : keyOk false (.int (q.1.length : Nat)) = true := by simp [keyOk, flatK]
      simp only [b1001]
      generalize hr : rd q.1 = R
      unfold rd at hr
      subst hr
      have io : isOwn (some (.od false (kvc ds) false)) = true := rfl
      simp [callK, evS, evE, evA, evO, evI, seqS, retF, asgF, asgPF, asgMF, stiF, expF, iteF, forF, andF, orF, notF, ifeF, bltF, consA, nilA, varF, litF, tupF, lstF, dicF, binF, negF, cmpF, cmp2F, idxF, slcF, calF, mtwF, sclF, noO, someO, rngF, seqF, toB, toI, vws, vw, view, dview, frz, frzs, keep1, keeps, put, puts, prep1, prep, lend, giveBack, updR, isAl, isOl, isOwn, bindT, bindTs, fin, outs, outs1, bltR, isiR, tyN, lenR, absR, intR, lstR, valsR, tuplR, cmpR, idxR, slcR, binR, isNoneD, gttF, lr, ko, g1, kl, g2]) (pts [] b) [] none rfl (by simpa using pl)
  obtain ⟨x, hx, hx2⟩ := hf
  have fe : ∀ (l : List (Rd × Bu)) (acc : List Nat), l.foldl (fun ds q => ds ++ [q.1.length]) acc = acc ++ l.map fun q => q.1.length := fun l => by
    induction l with
    | nil => intro acc; simp
    | cons a l ih => intro acc; simp [ih]
  have ed : (pts [] b).foldl (fun ds q => ds ++ [q.1.length]) [] = dps b := by rw [fe]; rfl
  rw [ed] at hx
  have hs := srt_kvc (dps b) (ht b + 1) (fun n => by rw [dps_mem hw]; omega)
  have lc := lc_map (σ := [some (.d (enc b)), some (.od false (kvc (dps b)) false), x, none]) (i := 3) (l := List.range (ht b + 1)) (e := fun n => PyData.int (n : Nat)) (g := fun n => .int ((cd b n : Nat))) (fe := idxF (varF 1) (varF 3))
    (it := seqF (bltF .srt (consA (varF 1) nilA))) (by simp) (by simp [isOwn]) (by simp [callK, evS, evE, evA, evO, evI, seqS, retF, asgF, asgPF, asgMF, stiF, expF, iteF, forF, andF, orF, notF, ifeF, bltF, consA, nilA, varF, litF, tupF, lstF, dicF, binF, negF, cmpF, cmp2F, idxF, slcF, calF, mtwF, sclF, noO, someO, rngF, seqF, toB, toI, vws, vw, view, dview, frz, frzs, keep1, keeps, put, puts, prep1, prep, lend, giveBack, updR, isAl, isOl, isOwn, bindT, bindTs, fin, outs, outs1, bltR, isiR, tyN, lenR, absR, intR, lstR, valsR, tuplR, cmpR, idxR, slcR, binR, isNoneD, hs]) (by simp; unfold LIM; omega) (fun n hn => by
      have hm : n ∈ kk (dps b) := by rw [kk_mem, dps_mem hw]; have := List.mem_range.mp hn; omega
      have g : kvGet (.int (n : Nat)) (kvc (dps b)) = some (.int ((cd b n : Nat))) := by
        unfold kvc
        rw [kvGet_map (fun m => .int (((dps b).count m : Nat)))]
        simp [hm, dps_count]
      have ko : keyOk false (.int (n : Nat)) = true := by simp [keyOk, flatK]
      simp [callK, evS, evE, evA, evO, evI, seqS, retF, asgF, asgPF, asgMF, stiF, expF, iteF, forF, andF, orF, notF, ifeF, bltF, consA, nilA, varF, litF, tupF, lstF, dicF, binF, negF, cmpF, cmp2F, idxF, slcF, calF, mtwF, sclF, noO, someO, rngF, seqF, toB, toI, vws, vw, view, dview, frz, frzs, keep1, keeps, put, puts, prep1, prep, lend, giveBack, updR, isAl, isOl, isOwn, bindT, bindTs, fin, outs, outs1, bltR, isiR, tyN, lenR, absR, intR, lstR, valsR, tuplR, cmpR, idxR, slcR, binR, isNoneD, ko, g])
  have e1 : evS (callK FsT W j) W b1001 [some (.d (enc b)), none, none, none] = some (.ret (.d (widD b)), [some (.d (enc b)), some (.od false (kvc (dps b)) false), x, none]) := by
    simp only [b1001] at hx
    unfold b1001
    refine evS_cons.trans ((seq_nx (σ1 := [some (.d (enc b)), some (.od false (kvc []) false), none, none]) ?_).trans ?_)
    · simp [callK, evS, evE, evA, evO, evI, seqS, retF, asgF, asgPF, asgMF, stiF, expF, iteF, forF, andF, orF, notF, ifeF, bltF, consA, nilA, varF, litF, tupF, lstF, dicF, binF, negF, cmpF, cmp2F, idxF, slcF, calF, mtwF, sclF, noO, someO, rngF, seqF, toB, toI, vws, vw, view, dview, frz, frzs, keep1, keeps, put, puts, prep1, prep, lend, giveBack, updR, isAl, isOl, isOwn, bindT, bindTs, fin, outs, outs1, bltR, isiR, tyN, lenR, absR, intR, lstR, valsR, tuplR, cmpR, idxR, slcR, binR, isNoneD, kvc, kk]
    refine evS_cons.trans ((seq_nx (σ1 := [some (.d (enc b)), some (.od false (kvc (dps b)) false), x, none]) ?_).trans ?_)
    · exact (evS_for (xs := (pts [] b).map fun q => rd q.1) (σ1 := [some (.d (enc b)), some (.od false (kvc []) false), none, none]) (by simp [callK, evS, evE, evA, evO, evI, seqS, retF, asgF, asgPF, asgMF, stiF, expF, iteF, forF, andF, orF, notF, ifeF, bltF, consA, nilA, varF, litF, tupF, lstF, dicF, binF, negF, cmpF, cmp2F, idxF, slcF, calF, mtwF, sclF, noO, someO, rngF, seqF, toB, toI, vws, vw, view, dview, frz, frzs, keep1, keeps, put, puts, prep1, prep, lend, giveBack, updR, isAl, isOl, isOwn, bindT, bindTs, fin, outs, outs1, bltR, isiR, tyN, lenR, absR, intR, lstR, valsR, tuplR, cmpR, idxR, slcR, binR, isNoneD, h1, kv, Function.comp_def])).trans hx
    · rw [evS_cons]
      simp only [evS, evE, evA, evI, lc, seqS, retF, bltF, consA, nilA, vws, vw, view, bltR, tuplR, Option.map_some]
      simp [widD, wid, wd_range, Function.comp_def]
  rw [call_ret (fd := f1001) rfl rfl e1 rfl, outs_d1]
end TW
end

section
namespace TW
open PySem
/-! ### texts of small data -/
structure Sh (d : D) (n m : Nat) : Prop where
  s : d.showable = true
  h : d.hasDict = false
  p : d.depth ≤ m
  l : d.shown.length ≤ n
  o : PyData.strOk d.shown = true
theorem sh_int {i : Int} (h : i.natAbs.log2 < 1920) : Sh (.int i) 1921 0 :=
  ⟨by simpa [PyData.showable] using h, by simp [PyData.hasDict], by simp [PyData.depth], PyProof.Rows.int_text_len_1921 h, strOk_ofString _⟩
theorem join_ok : ∀ ts : List Str, (∀ t ∈ ts, PyData.strOk t = true) → PyData.strOk (Str.join ", " ts) = true
  | [], _ => by decide +kernel
  | [x], h => h x (List.mem_cons_self ..)
  | x :: y :: r, h => by
    have := join_ok (y :: r) fun t ht => h t (List.mem_cons_of_mem _ ht)
    exact strOk_app (strOk_app (h x (List.mem_cons_self ..)) (strOk_ofString _)) this
theorem from_ok : ∀ (ts : List Str) (k : Nat) (acc : Str), PyData.strOk acc = true → (∀ t ∈ ts, PyData.strOk t = true) → PyData.strOk (textFrom k acc ts) = true ∧ (textFrom k acc ts).length ≤ acc.length + piled ts
  | [], k, acc, h, _ => ⟨h, by simp [textFrom]⟩
  | t :: r, k, acc, h, ht => by
    have h1 : PyData.strOk (acc ++ (if k > 0 then ", " else "" : String) ++ t) = true := strOk_app (strOk_app h (strOk_ofString _)) (ht t (List.mem_cons_self ..))
    obtain ⟨k1, k2⟩ := from_ok r (k + 1) _ h1 fun x hx => ht x (List.mem_cons_of_mem _ hx)
    refine ⟨k1, ?_⟩
    have e : ((if k > 0 then ", " else "" : String) : Str).length ≤ 2 := by split <;> decide +kernel
    rw [strLen_append, strLen_append] at k2
    rw [piled_cons]
    show (textFrom (k + 1) _ r).length ≤ _
    omega
theorem piled_le {n : Nat} : ∀ ts : List Str, (∀ t ∈ ts, t.length ≤ n) → piled ts ≤ (n + 2) * ts.length
  | [], _ => by simp [piled]
  | t :: r, h => by
    have h1 := piled_le r fun x hx => h x (List.mem_cons_of_mem _ hx)
    have h2 := h t (List.mem_cons_self ..)
    rw [piled_cons, List.length_cons, Nat.mul_add]
    omega
theorem shAll {n m : Nat} : ∀ xs : List D, (∀ x ∈ xs, Sh x n m) → PyData.showableAll xs = true ∧ PyData.hasDictAll xs = false ∧ PyData.depthAll xs ≤ m ∧ (∀ t ∈ PyData.shownAll xs, t.length ≤ n ∧ PyData.strOk t = true) ∧ (PyData.shownAll xs).length = xs.length
  | [], _ => ⟨by simp [PyData.showableAll], by simp [PyData.hasDictAll], by simp [PyData.depthAll], fun t ht => by simp [PyData.shownAll] at ht, by simp [PyData.shownAll]⟩
  | x :: xs, h => by
    obtain ⟨h1, h2, h3, h4, h5⟩ := shAll xs fun y hy => h y (List.mem_cons_of_mem _ hy)
    have hx := h x (List.mem_cons_self ..)
    refine ⟨by simp [PyData.showableAll, hx.s, h1], by simp [PyData.hasDictAll, hx.h, h2], ?_, ?_, by simp [PyData.shownAll, h5]⟩
    · simp only [PyData.depthAll]
      have := hx.p
      omega
    · intro t ht
      simp only [PyData.shownAll, List.mem_cons] at ht
      rcases ht with rfl | ht
      · exact ⟨hx.l, hx.o⟩
      · exact h4 t ht
theorem sh_tuple {n m : Nat} {xs : List D} (h : ∀ x ∈ xs, Sh x n m) : Sh (.tuple xs) ((n + 2) * xs.length + 5) (m + 1) := by
  obtain ⟨h1, h2, h3, h4, h5⟩ := shAll xs h
  have e3 : ((if (PyData.shownAll xs).length == 1 then ",)" else ")" : String) : Str).length ≤ 2 := by split <;> decide +kernel
  have e1 : ((("(" : String) : Str)).length = 1 := rfl
  refine ⟨by simpa [PyData.showable] using h1, by simpa [PyData.hasDict] using h2, by simp only [PyData.depth]; omega, ?_, ?_⟩
  · simp only [PyData.shown, tupleText]
    rw [strLen_append, strLen_append, e1]
    have := piled_le (PyData.shownAll xs) fun t ht => (h4 t ht).1
    rw [h5] at this
    by_cases e : PyData.shownAll xs = []
    · rw [e]
      have z : (Str.join ", " []).length = 0 := by decide +kernel
      rw [z]
      rw [e] at e3
      omega
    · have := join_length_add _ e
      omega
  · simp only [PyData.shown, tupleText]
    exact strOk_app (strOk_app (strOk_ofString _) (join_ok _ fun t ht => (h4 t ht).2)) (strOk_ofString _)
theorem sh_list {n m : Nat} {xs : List D} (h : ∀ x ∈ xs, Sh x n m) : Sh (.list xs) ((n + 2) * xs.length + 5) (m + 1) := by
  obtain ⟨h1, h2, h3, h4, h5⟩ := shAll xs h
  have e1 : ((("[" : String) : Str)).length = 1 := rfl
  have e2 : ((("]" : String) : Str)).length = 1 := rfl
  obtain ⟨k1, k2⟩ := from_ok (PyData.shownAll xs) 0 "[" (strOk_ofString _) fun t ht => (h4 t ht).2
  refine ⟨by simpa [PyData.showable] using h1, by simpa [PyData.hasDict] using h2, by simp only [PyData.depth]; omega, ?_, ?_⟩
  · simp only [PyData.shown, listText]
    rw [strLen_append, e2]
    have := piled_le (PyData.shownAll xs) fun t ht => (h4 t ht).1
    rw [h5] at this
    rw [e1] at k2
    omega
  · simp only [PyData.shown, listText]
    exact strOk_app k1 (strOk_ofString _)
theorem Sh.mono {d : D} {n m n' m' : Nat} (h : Sh d n m) (h1 : n ≤ n') (h2 : m ≤ m') : Sh d n' m' := ⟨h.s, h.h, Nat.le_trans h.p h2, Nat.le_trans h.l h1, h.o⟩
theorem Sh.rep {d : D} {n m : Nat} (h : Sh d n m) (h1 : n ≤ 10000000) (h2 : m ≤ 150) : repOk d = true := by
  unfold repOk
  have hp := h.p
  have hl := h.l
  have e1 : decide (d.depth ≤ 150) = true := decide_eq_true (by omega)
  have e2 : decide (d.shown.length ≤ LIM) = true := decide_eq_true (by unfold LIM; omega)
  rw [h.s, h.h, e1, e2, h.o]
  rfl
theorem log_nat {n : Nat} (h : n ≤ 100000) : (n : Int).natAbs.log2 < 1920 := by
  rw [Int.natAbs_natCast]
  by_cases h0 : n = 0
  · subst h0; decide
  · exact (Nat.log2_lt h0 (k := 1920)).mpr (Nat.lt_of_le_of_lt h (Nat.lt_of_lt_of_le (by decide : 100000 < 2 ^ 20) (Nat.pow_le_pow_right (by omega) (by omega))))
theorem sh_nats {l : List Nat} (h : ∀ n ∈ l, n ≤ 100000) : Sh (.tuple (natsD l)) (1923 * l.length + 5) 1 := by
  have := sh_tuple (n := 1921) (m := 0) (xs := natsD l) fun x hx => by
    obtain ⟨n, hn, rfl⟩ := List.mem_map.mp hx
    exact sh_int (log_nat (h n hn))
  simpa [natsD] using this
/-! ### the sizes of one bush -/
def due (b : Bu) : List D := [.int (kn b), .int (tp b), .int (nr b), .int (ht b), widD b]
theorem due_rep (b : Bu) (s : Sm b) : repOk (.list (due b)) = true := by
  have hc := s.c
  have hh := s.h
  simp only [cnt] at hc
  have nb := nr_bound s.w
  have hw : Sh (widD b) (1923 * 61 + 5) 1 := by
    have := sh_nats (l := wid b) fun n hn => by
      have : n ∈ wd (cd b) (ht b + 1) := hn
      rw [wd_range] at this
      obtain ⟨d, _, rfl⟩ := List.mem_map.mp this
      have := cd_le b d
      simp only [cnt] at this
      omega
    refine Sh.mono this ?_ (Nat.le_refl _)
    rw [wid_len]
    omega
  have big : ∀ {i : Int}, i.natAbs.log2 < 1920 → Sh (.int i) (1923 * 61 + 5) 1 := fun h => (sh_int h).mono (by omega) (by omega)
  obtain ⟨v, hv⟩ := Int.eq_ofNat_of_zero_le nb.1
  have := sh_list (n := 1923 * 61 + 5) (m := 1) (xs := due b) fun x hx => by
    simp only [due, List.mem_cons, List.not_mem_nil, or_false] at hx
    rcases hx with rfl | rfl | rfl | rfl | rfl
    · exact big (log_nat (by omega))
    · exact big (log_nat (by omega))
    · rw [hv]; exact big (log_nat (by omega))
    · exact big (log_nat (by omega))
    · exact hw
  exact this.rep (by simp [due]) (by omega)
theorem sum_nats (l : List Nat) : (l.map fun n : Nat => (n : Int)).sum = (l.sum : Nat) := by
  induction l with
  | nil => rfl
  | cons a l ih => simp only [List.map_cons, List.sum_cons, ih]; omega
theorem right7_ok (b : Bu) (s : Sm b) (W k : Nat) (hW : 6000 ≤ W) (hW2 : W ≤ 2000000) (hk : 80 < k) : callK FsT W k 1009 [.d (enc b)] = some (.d (.bool true), [.d (enc b)]) := by
  obtain ⟨j, rfl⟩ : ∃ j, k = j + 1 := ⟨k - 1, by omega⟩
  have hc := s.c
  have hh := s.h
  have h1 := depths_ok b s.w (by omega) (by omega) W j hW (by omega)
  have h2 := walked_ok b s.w (by omega) (by omega) W j hW (by omega)
  have h3 := knots_ok b s.w (by omega) (by omega) W j hW (by omega)
  have h4 := knots_of_ok b s W j hW (by omega)
  have h5 := tips_of_ok b s W j hW (by omega)
  have h6 := near_of_ok b s W j hW (by omega)
  have h7 := height_of_ok b s W j hW (by omega)
  have h8 := widths_of_ok b s W j hW hW2 (by omega)
  have l1 := len_dl b
  have m1 := min_dl s.w
  rw [mn_nr s.w] at m1
  have m2 := max_dl s.w
  have rp := due_rep b s
  simp only [due] at rp
  have e0 : ∀ x : Str, dpt (.str x) (.str x) = true := fun x => by simp [dpt, PyData.depth]
  have e1 : ∀ a b : Int, dpt (.int a) (.int b) = true := fun a b => by simp [dpt, PyData.depth]
  have sw : intL (natsD (wid b)) = some ((wid b).map fun n : Nat => (n : Int)) := intL_map _ _
  have ss := sum_nats (wid b)
  rw [wid_sum] at ss
  have lw : (natsD (wid b)).length = ht b + 1 := by simp [natsD, wid_len]
  have wD : widD b = .tuple (natsD (wid b)) := rfl
  have a0 : ∀ a b c d e : D, L2.atI [a, b, c, d, e] 0 = some a := fun a b c d e => by simp [L2.atI, L2.ixN]
  have a1 : ∀ a b c d e : D, L2.atI [a, b, c, d, e] 1 = some b := fun a b c d e => by simp [L2.atI, L2.ixN]
  have a3 : ∀ a b c d e : D, L2.atI [a, b, c, d, e] 3 = some d := fun a b c d e => by simp [L2.atI, L2.ixN]
  have eq1 : (((cnt b : Nat) : Int) == (kn b : Int) + (tp b : Int)) = true := by simp [cnt]
  have e1' : evS (callK FsT W j) W b1009 [some (.d (enc b)), none, none, none] = some (.ret (.d (.bool true)), [some (.d (enc b)), some (.ol [.int (kn b), .int (tp b), .int (nr b), .int (ht b), widD b] false), some (.ol (dlD b) false), some (.d (widD b))]) := by
    unfold b1009
    refine evS_cons.trans ((seq_nx (σ1 := [some (.d (enc b)), none, some (.ol (dlD b) false), some (.d (widD b))]) ?_).trans ?_)
    · simp [callK, evS, evE, evA, evO, evI, seqS, retF, asgF, asgPF, asgMF, stiF, expF, iteF, forF, andF, orF, notF, ifeF, bltF, consA, nilA, varF, litF, tupF, lstF, dicF, binF, negF, cmpF, cmp2F, idxF, slcF, calF, mtwF, sclF, noO, someO, rngF, seqF, toB, toI, vws, vw, view, dview, frz, frzs, keep1, keeps, put, puts, prep1, prep, lend, giveBack, updR, isAl, isOl, isOwn, bindT, bindTs, fin, outs, outs1, bltR, isiR, tyN, lenR, absR, intR, lstR, valsR, tuplR, cmpR, idxR, slcR, binR, isNoneD, h1, h2]
    refine evS_cons.trans ((seq_nx (σ1 := [some (.d (enc b)), some (.ol [.int (kn b), .int (tp b), .int (nr b), .int (ht b), widD b] false), some (.ol (dlD b) false), some (.d (widD b))]) ?_).trans ?_)
    · simp [callK, evS, evE, evA, evO, evI, seqS, retF, asgF, asgPF, asgMF, stiF, expF, iteF, forF, andF, orF, notF, ifeF, bltF, consA, nilA, varF, litF, tupF, lstF, dicF, binF, negF, cmpF, cmp2F, idxF, slcF, calF, mtwF, sclF, noO, someO, rngF, seqF, toB, toI, vws, vw, view, dview, frz, frzs, keep1, keeps, put, puts, prep1, prep, lend, giveBack, updR, isAl, isOl, isOwn, bindT, bindTs, fin, outs, outs1, bltR, isiR, tyN, lenR, absR, intR, lstR, valsR, tuplR, cmpR, idxR, slcR, binR, isNoneD, h3, l1, m1, m2, LIM]
    refine evS_cons.trans ((seq_nx (σ1 := [some (.d (enc b)), some (.ol [.int (kn b), .int (tp b), .int (nr b), .int (ht b), widD b] false), some (.ol (dlD b) false), some (.d (widD b))]) ?_).trans ?_)
    · simp [callK, evS, evE, evA, evO, evI, seqS, retF, asgF, asgPF, asgMF, stiF, expF, iteF, forF, andF, orF, notF, ifeF, bltF, consA, nilA, varF, litF, tupF, lstF, dicF, binF, negF, cmpF, cmp2F, idxF, slcF, calF, mtwF, sclF, noO, someO, rngF, seqF, toB, toI, vws, vw, view, dview, frz, frzs, keep1, keeps, put, puts, prep1, prep, lend, giveBack, updR, isAl, isOl, isOwn, bindT, bindTs, fin, outs, outs1, bltR, isiR, tyN, lenR, absR, intR, lstR, valsR, tuplR, cmpR, idxR, slcR, binR, isNoneD, h4, h5, h6, h7, h8, LIM, repR, rp, e0, PyData.eqv]
    · rw [evS_cons]
      rw [wD]
      simp [callK, evS, evE, evA, evO, evI, seqS, retF, asgF, asgPF, asgMF, stiF, expF, iteF, forF, andF, orF, notF, ifeF, bltF, consA, nilA, varF, litF, tupF, lstF, dicF, binF, negF, cmpF, cmp2F, idxF, slcF, calF, mtwF, sclF, noO, someO, rngF, seqF, toB, toI, vws, vw, view, dview, frz, frzs, keep1, keeps, put, puts, prep1, prep, lend, giveBack, updR, isAl, isOl, isOwn, bindT, bindTs, fin, outs, outs1, bltR, isiR, tyN, lenR, absR, intR, lstR, valsR, tuplR, cmpR, idxR, slcR, binR, isNoneD, sumR, sw, ss, lw, a0, a1, a3, e1, PyData.eqv, cnt]
  rw [call_ret (fd := f1009) rfl rfl e1' rfl, outs_d1]
end TW
end

section
namespace TW
open PySem
/-! ### bushes near another one -/
theorem set_kns : ∀ {bs : Bus} {j : Nat} {c c' : Bu}, bs.l[j]? = some c → kns (bs.set j c') + kn c = kns bs + kn c'
  | .nil, j, c, c', h => by simp [Bus.l] at h
  | .cons b bs, 0, c, c', h => by
    simp [Bus.l] at h
    subst h
    simp only [Bus.set, kns]
    omega
  | .cons b bs, j + 1, c, c', h => by
    simp [Bus.l] at h
    have := set_kns (c' := c') h
    simp only [Bus.set, kns]
    omega
theorem set_hts : ∀ {bs : Bus} {j : Nat} {c c' : Bu}, bs.l[j]? = some c → hts (bs.set j c') ≤ max (hts bs) (ht c') ∧ ht c ≤ hts bs ∧ kn c ≤ kns bs
  | .nil, j, c, c', h => by simp [Bus.l] at h
  | .cons b bs, 0, c, c', h => by
    simp [Bus.l] at h
    subst h
    simp only [Bus.set, hts, kns]
    omega
  | .cons b bs, j + 1, c, c', h => by
    simp [Bus.l] at h
    have := set_hts (c' := c') h
    simp only [Bus.set, hts, kns]
    omega
mutual
theorem pu_pre : ∀ (r : Rd) (b : Bu), wf b = true → ∀ q ∈ pre r b, ∃ t, q.1 = r ++ t ∧ t.length ≤ ht b ∧ wf q.2 = true ∧ kn q.2 ≤ kn b ∧ ht q.2 ≤ ht b ∧ ∀ g, ∃ b', pu g t b = some b' ∧ kn b' ≤ kn b + kn g ∧ ht b' ≤ ht b + ht g
  | r, .tip, w, q, h => by
    simp only [pre, List.mem_singleton] at h
    subst h
    exact ⟨[], by simp, by simp, rfl, Nat.le_refl _, Nat.le_refl _, fun g => ⟨g, rfl, by simp [kn], by simp [ht]⟩⟩
  | r, .knot s bs, w, q, h => by
    have w' := w
    simp only [wf, Bool.and_eq_true] at w
    simp only [pre, List.mem_cons] at h
    rcases h with h | h
    · subst h
      exact ⟨[], by simp, by simp, w', Nat.le_refl _, Nat.le_refl _, fun g => ⟨g, rfl, by omega, by omega⟩⟩
    · obtain ⟨j, c, t, h1, h2, h3, h4, h5, h6, h7⟩ := pu_preL r 0 bs w.2 q h
      rw [Nat.zero_add] at h2
      refine ⟨j :: t, h2, ?_, h4, ?_, ?_, fun g => ?_⟩
      · simp only [List.length_cons, ht]; omega
      · simp only [kn]; omega
      · simp only [ht]; omega
      · obtain ⟨c', k1, k2, k3⟩ := h7 g
        have s1 := set_kns (c' := c') h1
        have s2 := set_hts (c' := c') h1
        refine ⟨.knot s (bs.set j c'), by simp only [pu, h1, k1, Option.map_some], ?_, ?_⟩
        · simp only [kn]; omega
        · simp only [ht]; omega
theorem pu_preL : ∀ (r : Rd) (i : Nat) (bs : Bus), wfs bs = true → ∀ q ∈ preL r i bs, ∃ j c t, bs.l[j]? = some c ∧ q.1 = r ++ (i + j) :: t ∧ t.length ≤ hts bs ∧ wf q.2 = true ∧ kn q.2 ≤ kns bs ∧ ht q.2 ≤ hts bs ∧ ∀ g, ∃ c', pu g t c = some c' ∧ kn c' ≤ kn c + kn g ∧ ht c' ≤ ht c + ht g
  | r, i, .nil, w, q, h => by simp [preL] at h
  | r, i, .cons b bs, w, q, h => by
    simp only [wfs, Bool.and_eq_true] at w
    simp only [preL, List.mem_append] at h
    rcases h with h | h
    · obtain ⟨t, h1, h2, h3, h4, h5, h6⟩ := pu_pre (r ++ [i]) b w.1 q h
      exact ⟨0, b, t, by simp [Bus.l], by rw [h1]; simp, by simp only [hts]; omega, h3, by simp only [kns]; omega, by simp only [hts]; omega, h6⟩
    · obtain ⟨j, c, t, h1, h2, h3, h4, h5, h6, h7⟩ := pu_preL r (i + 1) bs w.2 q h
      exact ⟨j + 1, c, t, by simpa [Bus.l] using h1, by rw [h2]; congr 2; omega, by simp only [hts]; omega, h4, by simp only [kns]; omega, by simp only [hts]; omega, h7⟩
end
theorem dwn00 {α : Type} (xs : List α) : dwn xs none (some 0) = xs.tail.reverse := by
  unfold dwn
  simp only
  have e1 : ((xs.length : Int) - 1 + 1).toNat = xs.length := by omega
  rw [e1, List.take_length]
  cases xs with
  | nil => simp
  | cons x xs =>
    have e2 : (if (0 : Int) < 0 then max (0 + (((x :: xs).length : Nat) : Int)) (-1) else min 0 ((((x :: xs).length : Nat) : Int) - 1)) = 0 := by
      rw [if_neg (by omega), List.length_cons]
      omega
    rw [e2]
    rfl
theorem kns_l : ∀ bs : Bus, kns bs = (bs.l.map kn).sum
  | .nil => rfl
  | .cons b bs => by simp [kns, Bus.l, kns_l bs]
theorem sum_take (l : List Nat) (n : Nat) : (l.take n).sum ≤ l.sum := by
  have h := List.sum_append (l₁ := l.take n) (l₂ := l.drop n)
  rw [List.take_append_drop] at h
  omega
theorem hts_le {bs : Bus} {b : Bu} (h : b ∈ bs.l) : ht b ≤ hts bs := by
  have := hts_mem (j := hts bs + 1) (by omega) b h
  omega
theorem near_parts (s s' : Str) (bs : Bus) (hw : wf (.knot s bs) = true) (hs' : letB s' = true) :
    (wf (.knot s' bs) = true ∧ kn (.knot s' bs) ≤ kn (.knot s bs) ∧ ht (.knot s' bs) ≤ ht (.knot s bs)) ∧
    (wf (.knot s (Bus.of bs.l.reverse)) = true ∧ kn (.knot s (Bus.of bs.l.reverse)) ≤ kn (.knot s bs) ∧ ht (.knot s (Bus.of bs.l.reverse)) ≤ ht (.knot s bs)) ∧
    (wf (.knot s (Bus.of ((bs.l ++ [Bu.tip]).take 6))) = true ∧ kn (.knot s (Bus.of ((bs.l ++ [Bu.tip]).take 6))) ≤ kn (.knot s bs) ∧ ht (.knot s (Bus.of ((bs.l ++ [Bu.tip]).take 6))) ≤ ht (.knot s bs)) := by
  have w := hw
  simp only [wf, Bool.and_eq_true, decide_eq_true_eq] at w
  obtain ⟨⟨w1, w2, w3⟩, w4⟩ := w
  have wm := fun b hb => wfs_mem w4 b hb
  refine ⟨⟨?_, ?_, ?_⟩, ⟨?_, ?_, ?_⟩, ⟨?_, ?_, ?_⟩⟩
  · simp only [wf, Bool.and_eq_true, decide_eq_true_eq]
    exact ⟨⟨hs', w2, w3⟩, w4⟩
  · simp only [kn]; omega
  · simp only [ht]; omega
  · simp only [wf, Bool.and_eq_true, decide_eq_true_eq, Bus.l_of, List.length_reverse]
    exact ⟨⟨w1, w2, w3⟩, of_wfs _ fun b hb => wm b (List.mem_reverse.mp hb)⟩
  · simp only [kn, kns_l, Bus.l_of, List.map_reverse, List.sum_reverse]
    omega
  · have := of_hts (q := hts bs) bs.l.reverse fun b hb => hts_le (List.mem_reverse.mp hb)
    simp only [ht]; omega
  · simp only [wf, Bool.and_eq_true, decide_eq_true_eq, Bus.l_of, List.length_take, List.length_append, List.length_cons, List.length_nil]
    refine ⟨⟨w1, by omega, by omega⟩, of_wfs _ fun b hb => ?_⟩
    rcases List.mem_append.mp (List.mem_of_mem_take hb) with hb | hb
    · exact wm b hb
    · simp at hb; rw [hb]; rfl
  · have t := sum_take ((bs.l ++ [Bu.tip]).map kn) 6
    have e : ((bs.l ++ [Bu.tip]).map kn).sum = (bs.l.map kn).sum := by simp [kn]
    rw [e] at t
    simp only [kn, kns_l, Bus.l_of, List.map_take]
    omega
  · have := of_hts (q := hts bs) ((bs.l ++ [Bu.tip]).take 6) fun b hb => by
      rcases List.mem_append.mp (List.mem_of_mem_take hb) with hb | hb
      · exact hts_le hb
      · simp at hb; rw [hb]; simp [ht]
    simp only [ht]; omega
theorem near_bush_ok (xs : List D) (hc : Cup xs) (b : Bu) (w : wf b = true) (hh : ht b ≤ 100) (hcn : cnt b ≤ 1000) (W k : Nat) (hW : 6000 ≤ W) (hk : 120 < k) :
    ∃ b' xs', callK FsT W k 1010 [.ol xs true, .d (enc b)] = some (.d (enc b'), [.ol xs' true, .d (enc b)]) ∧ Cup xs' ∧ wf b' = true ∧ kn b' ≤ 2 * kn b + 2 ∧ ht b' ≤ 2 * ht b + 2 := by
  obtain ⟨j, rfl⟩ : ∃ j, k = j + 1 := ⟨k - 1, by omega⟩
  have h20 := parts_ok b w (by omega) (by omega) W j hW (by omega)
  have hs := srt_kv b
  have pn := pts_len [] b
  have pp := (pts_perm [] b).length_eq
  have pc := cnt_pos b w
  obtain ⟨y, x1, r1, c1, hy⟩ := some_ok xs hc ((pre [] b).map fun q => rd q.1) (by
    intro e
    have := List.map_eq_nil_iff.mp e
    rw [this, List.length_nil] at pp
    omega) (by simp; omega) W j (by omega)
  obtain ⟨q, hq, rfl⟩ := List.mem_map.mp hy
  obtain ⟨t, e1, e2, wq, kq, hq2, hput⟩ := pu_pre [] b w q hq
  rw [List.nil_append] at e1
  have kg := kvGet_kv ((pts_perm [] b).mem_iff.mpr hq) (nodup_pts [] b)
  obtain ⟨v, x2, r2, c2, v0, v1⟩ := roll_ok x1 c1 4 (by omega) (by omega) W j (by omega)
  have e0 : ∀ a b : Int, dpt (.int a) (.int b) = true := fun a b => by simp [dpt, PyData.depth]
  generalize hkv : (pts [] b).map kv = K at h20 hs kg
  -- what stands ahead of the ways
  have st : ∀ (s : S) (r : D) (x3 : List D) (σ2 : En), evS (callK FsT W j) W s [some (.ol x2 true), some (.d (enc b)), some (.d (.list ((pre [] b).map fun q => rd q.1))), some (.d (rd q.1)), some (.d (enc q.2)), some (.d (.int v))] = some (.ret (.d r), [some (.ol x3 true), some (.d (enc b)), some (.d (.list ((pre [] b).map fun q => rd q.1))), some (.d (rd q.1)), some (.d (enc q.2)), some (.d (.int v))]) →
      (match b1010 with
        | .cons _ (.cons _ (.cons _ s)) => s
        | _ => .nil) = s → callK FsT W (j + 1) 1010 [.ol xs true, .d (enc b)] = some (.d r, [.ol x3 true, .d (enc b)]) := fun s r x3 _ hs2 e => by
    subst e
    have e1' : evS (callK FsT W j) W b1010 [some (.ol xs true), some (.d (enc b)), none, none, none, none] = some (.ret (.d r), [some (.ol x3 true), some (.d (enc b)), some (.d (.list ((pre [] b).map fun q => rd q.1))), some (.d (rd q.1)), some (.d (enc q.2)), some (.d (.int v))]) := by
      simp only [b1010] at hs2
      unfold b1010
      generalize (pre [] b).map (fun q => rd q.1) = R at *
      refine evS_cons.trans ((seq_nx (σ1 := [some (.ol xs true), some (.d (enc b)), some (.ol R false), none, none, none]) ?_).trans ?_)
      · simp [callK, evS, evE, evA, evO, evI, seqS, retF, asgF, asgPF, asgMF, stiF, expF, iteF, forF, andF, orF, notF, ifeF, bltF, consA, nilA, varF, litF, tupF, lstF, dicF, binF, negF, cmpF, cmp2F, idxF, slcF, calF, mtwF, sclF, noO, someO, rngF, seqF, toB, toI, vws, vw, view, dview, frz, frzs, keep1, keeps, put, puts, prep1, prep, lend, giveBack, updR, isAl, isOl, isOwn, bindT, bindTs, fin, outs, outs1, bltR, isiR, tyN, lenR, absR, intR, lstR, valsR, tuplR, cmpR, idxR, slcR, binR, isNoneD, h20, hs]
      refine evS_cons.trans ((seq_nx (σ1 := [some (.ol x1 true), some (.d (enc b)), some (.d (.list R)), some (.d (rd q.1)), none, none]) ?_).trans ?_)
      · simp [callK, evS, evE, evA, evO, evI, seqS, retF, asgF, asgPF, asgMF, stiF, expF, iteF, forF, andF, orF, notF, ifeF, bltF, consA, nilA, varF, litF, tupF, lstF, dicF, binF, negF, cmpF, cmp2F, idxF, slcF, calF, mtwF, sclF, noO, someO, rngF, seqF, toB, toI, vws, vw, view, dview, frz, frzs, keep1, keeps, put, puts, prep1, prep, lend, giveBack, updR, isAl, isOl, isOwn, bindT, bindTs, fin, outs, outs1, bltR, isiR, tyN, lenR, absR, intR, lstR, valsR, tuplR, cmpR, idxR, slcR, binR, isNoneD, r1]
      refine evS_cons.trans ((seq_nx (σ1 := [some (.ol x2 true), some (.d (enc b)), some (.d (.list R)), some (.d (rd q.1)), some (.d (enc q.2)), some (.d (.int v))]) ?_).trans ?_)
      · simp [callK, evS, evE, evA, evO, evI, seqS, retF, asgF, asgPF, asgMF, stiF, expF, iteF, forF, andF, orF, notF, ifeF, bltF, consA, nilA, varF, litF, tupF, lstF, dicF, binF, negF, cmpF, cmp2F, idxF, slcF, calF, mtwF, sclF, noO, someO, rngF, seqF, toB, toI, vws, vw, view, dview, frz, frzs, keep1, keeps, put, puts, prep1, prep, lend, giveBack, updR, isAl, isOl, isOwn, bindT, bindTs, fin, outs, outs1, bltR, isiR, tyN, lenR, absR, intR, lstR, valsR, tuplR, cmpR, idxR, slcR, binR, isNoneD, h20, keyOk_rd, kg, r2]
      exact hs2
    rw [call_ret (fd := f1010) rfl rfl e1' rfl]
    simp [outs, outs1]
  have hput34 : ∀ g, wf g = true → ∃ b', callK FsT W j 34 [.d (enc b), .d (rd q.1), .d (enc g)] = some (.d (enc b'), [.d (enc b), .d (rd q.1), .d (enc g)]) ∧ wf b' = true ∧ kn b' ≤ kn b + kn g ∧ ht b' ≤ ht b + ht g := fun g wg => by
    obtain ⟨b', k1, k2, k3⟩ := hput g
    refine ⟨b', ?_, pu_wf wg w k1, k2, k3⟩
    rw [e1]
    exact put_ok wg w k1 W j (by omega)
  have et := eqv_enc_tip q.2
  generalize hR : (pre [] b).map (fun q => rd q.1) = R at *
  by_cases hv : v = 0 ∨ isTip q.2 = true
  · obtain ⟨g, x3, r3, c3, wg, hg, kg2⟩ := bush_ok 2 (by omega) x2 c2 W j (by omega)
    have r3' : callK FsT W j 4 [.ol x2 true, .d (.int 2)] = some (.d (enc g), [.ol x3 true, .d (.int 2)]) := r3
    obtain ⟨b', p1, p2, p3, p4⟩ := hput34 g wg
    refine ⟨b', x3, st _ _ x3 [] ?_ rfl, c3, p2, by omega, by omega⟩
    simp only [b1010]
    refine evS_cons.trans (seq_ret ?_)
    by_cases h0 : v = 0
    · subst h0
      simp [callK, evS, evE, evA, evO, evI, seqS, retF, asgF, asgPF, asgMF, stiF, expF, iteF, forF, andF, orF, notF, ifeF, bltF, consA, nilA, varF, litF, tupF, lstF, dicF, binF, negF, cmpF, cmp2F, idxF, slcF, calF, mtwF, sclF, noO, someO, rngF, seqF, toB, toI, vws, vw, view, dview, frz, frzs, keep1, keeps, put, puts, prep1, prep, lend, giveBack, updR, isAl, isOl, isOwn, bindT, bindTs, fin, outs, outs1, bltR, isiR, tyN, lenR, absR, intR, lstR, valsR, tuplR, cmpR, idxR, slcR, binR, isNoneD, e0, PyData.eqv, LIM, r3', p1]
    · have hv0 : (v == 0) = false := by simpa using h0
      rcases hv with hv | hv
      · exact absurd hv h0
      · rw [hv] at et
        simp [callK, evS, evE, evA, evO, evI, seqS, retF, asgF, asgPF, asgMF, stiF, expF, iteF, forF, andF, orF, notF, ifeF, bltF, consA, nilA, varF, litF, tupF, lstF, dicF, binF, negF, cmpF, cmp2F, idxF, slcF, calF, mtwF, sclF, noO, someO, rngF, seqF, toB, toI, vws, vw, view, dview, frz, frzs, keep1, keeps, put, puts, prep1, prep, lend, giveBack, updR, isAl, isOl, isOwn, bindT, bindTs, fin, outs, outs1, bltR, isiR, tyN, lenR, absR, intR, lstR, valsR, tuplR, cmpR, idxR, slcR, binR, isNoneD, e0, PyData.eqv, hv0, LIM, et, dpt_nil, r3', p1]
  · have hv0 : (v == 0) = false := by simp; exact fun h => hv (.inl h)
    have ht0 : isTip q.2 = false := by
      cases h : isTip q.2
      · rfl
      · exact absurd (.inr h) hv
    rw [ht0] at et
    have skip : evS (callK FsT W j) W (match b1010 with
        | .cons _ (.cons _ (.cons _ (.cons s _))) => s
        | _ => .nil) [some (.ol x2 true), some (.d (enc b)), some (.d (.list R)), some (.d (rd q.1)), some (.d (enc q.2)), some (.d (.int v))] = some (.nx, [some (.ol x2 true), some (.d (enc b)), some (.d (.list R)), some (.d (rd q.1)), some (.d (enc q.2)), some (.d (.int v))]) := by
      simp only [b1010]
      simp [callK, evS, evE, evA, evO, evI, seqS, retF, asgF, asgPF, asgMF, stiF, expF, iteF, forF, andF, orF, notF, ifeF, bltF, consA, nilA, varF, litF, tupF, lstF, dicF, binF, negF, cmpF, cmp2F, idxF, slcF, calF, mtwF, sclF, noO, someO, rngF, seqF, toB, toI, vws, vw, view, dview, frz, frzs, keep1, keeps, put, puts, prep1, prep, lend, giveBack, updR, isAl, isOl, isOwn, bindT, bindTs, fin, outs, outs1, bltR, isiR, tyN, lenR, absR, intR, lstR, valsR, tuplR, cmpR, idxR, slcR, binR, isNoneD, e0, PyData.eqv, hv0, LIM, et, dpt_nil]
    cases hqq : q.2 with
    | tip => rw [hqq] at ht0; simp [isTip] at ht0
    | knot s bs =>
      rw [hqq] at wq kq hq2
      have wb := wq
      simp only [wf, Bool.and_eq_true, decide_eq_true_eq] at wb
      have ee : enc (.knot s bs) = .tuple (.str s :: bs.l.map enc) := by simp [enc, encs_map]
      rw [hqq, ee] at skip st
      simp only [b1010] at skip
      have l1 : 1 ≤ LIM := by decide
      have l0 : 0 ≤ LIM := by decide
      have l7 : 1 + bs.l.length ≤ LIM := by unfold LIM; omega
      have l8 : bs.l.length + 1 + 1 ≤ LIM := by unfold LIM; omega
      by_cases h1 : v = 1
      · obtain ⟨y, x3, r3, c3, hy⟩ := some_ok x2 c2 [.str "a", .str "b", .str "f"] (by simp) (by simp) W j (by omega)
        obtain ⟨s', rfl, hs'⟩ : ∃ s', y = .str s' ∧ letB s' = true := by
          simp only [List.mem_cons, List.not_mem_nil, or_false] at hy
          rcases hy with h | h | h <;> exact ⟨_, h, by decide⟩
        obtain ⟨⟨n1, n2, n3⟩, _, _⟩ := near_parts s s' bs wq hs'
        obtain ⟨b', p1, p2, p3, p4⟩ := hput34 (.knot s' bs) n1
        have ee' : enc (.knot s' bs) = .tuple (.str s' :: bs.l.map enc) := by simp [enc, encs_map]
        rw [ee'] at p1
        refine ⟨b', x3, st _ _ x3 [] ?_ rfl, c3, p2, by omega, by omega⟩
        simp only [b1010]
        refine evS_cons.trans ((seq_nx skip).trans (evS_cons.trans (seq_ret ?_)))
        subst h1
        have l3 : 3 ≤ LIM := by decide
        simp [callK, evS, evE, evA, evO, evI, seqS, retF, asgF, asgPF, asgMF, stiF, expF, iteF, forF, andF, orF, notF, ifeF, bltF, consA, nilA, varF, litF, tupF, lstF, dicF, binF, negF, cmpF, cmp2F, idxF, slcF, calF, mtwF, sclF, noO, someO, rngF, seqF, toB, toI, vws, vw, view, dview, frz, frzs, keep1, keeps, put, puts, prep1, prep, lend, giveBack, updR, isAl, isOl, isOwn, bindT, bindTs, fin, outs, outs1, bltR, isiR, tyN, lenR, absR, intR, lstR, valsR, tuplR, cmpR, idxR, slcR, binR, isNoneD, e0, PyData.eqv, r3, cut_tail, l1, l3, l7, p1]
      · have hv1 : (v == 1) = false := by simpa using h1
        have skip2 : evS (callK FsT W j) W (match b1010 with
            | .cons _ (.cons _ (.cons _ (.cons _ (.cons s _)))) => s
            | _ => .nil) [some (.ol x2 true), some (.d (enc b)), some (.d (.list R)), some (.d (rd q.1)), some (.d (.tuple (.str s :: bs.l.map enc))), some (.d (.int v))] = some (.nx, [some (.ol x2 true), some (.d (enc b)), some (.d (.list R)), some (.d (rd q.1)), some (.d (.tuple (.str s :: bs.l.map enc))), some (.d (.int v))]) := by
          simp only [b1010]
          simp [callK, evS, evE, evA, evO, evI, seqS, retF, asgF, asgPF, asgMF, stiF, expF, iteF, forF, andF, orF, notF, ifeF, bltF, consA, nilA, varF, litF, tupF, lstF, dicF, binF, negF, cmpF, cmp2F, idxF, slcF, calF, mtwF, sclF, noO, someO, rngF, seqF, toB, toI, vws, vw, view, dview, frz, frzs, keep1, keeps, put, puts, prep1, prep, lend, giveBack, updR, isAl, isOl, isOwn, bindT, bindTs, fin, outs, outs1, bltR, isiR, tyN, lenR, absR, intR, lstR, valsR, tuplR, cmpR, idxR, slcR, binR, isNoneD, e0, PyData.eqv, hv1]
        simp only [b1010] at skip2
        obtain ⟨_, ⟨n1, n2, n3⟩, ⟨m1, m2, m3⟩⟩ := near_parts s s bs wq wb.1.1
        by_cases h2 : v = 2
        · obtain ⟨b', p1, p2, p3, p4⟩ := hput34 _ n1
          rw [enc_of, List.map_reverse] at p1
          refine ⟨b', x2, st _ _ x2 [] ?_ rfl, c2, p2, by omega, by omega⟩
          simp only [b1010]
          refine evS_cons.trans ((seq_nx skip).trans (evS_cons.trans ((seq_nx skip2).trans (evS_cons.trans (seq_ret ?_)))))
          subst h2
          have dw : dwn (PyData.str s :: bs.l.map enc) none (some 0) = (bs.l.reverse).map enc := by
            rw [dwn00]
            simp
          simp [callK, evS, evE, evA, evO, evI, seqS, retF, asgF, asgPF, asgMF, stiF, expF, iteF, forF, andF, orF, notF, ifeF, bltF, consA, nilA, varF, litF, tupF, lstF, dicF, binF, negF, cmpF, cmp2F, idxF, slcF, calF, mtwF, sclF, noO, someO, rngF, seqF, toB, toI, vws, vw, view, dview, frz, frzs, keep1, keeps, put, puts, prep1, prep, lend, giveBack, updR, isAl, isOl, isOwn, bindT, bindTs, fin, outs, outs1, bltR, isiR, tyN, lenR, absR, intR, lstR, valsR, tuplR, cmpR, idxR, slcR, binR, isNoneD, slmR, dw, cut_head, e0, PyData.eqv, l1, l7, p1]
        · have hv2 : (v == 2) = false := by simpa using h2
          obtain ⟨b', p1, p2, p3, p4⟩ := hput34 _ m1
          rw [enc_of] at p1
          refine ⟨b', x2, st _ _ x2 [] ?_ rfl, c2, p2, by omega, by omega⟩
          simp only [b1010]
          refine evS_cons.trans ((seq_nx skip).trans (evS_cons.trans ((seq_nx skip2).trans (evS_cons.trans ((seq_nx (σ1 := [some (.ol x2 true), some (.d (enc b)), some (.d (.list R)), some (.d (rd q.1)), some (.d (.tuple (.str s :: bs.l.map enc))), some (.d (.int v))]) ?_).trans ?_)))))
          · simp [callK, evS, evE, evA, evO, evI, seqS, retF, asgF, asgPF, asgMF, stiF, expF, iteF, forF, andF, orF, notF, ifeF, bltF, consA, nilA, varF, litF, tupF, lstF, dicF, binF, negF, cmpF, cmp2F, idxF, slcF, calF, mtwF, sclF, noO, someO, rngF, seqF, toB, toI, vws, vw, view, dview, frz, frzs, keep1, keeps, put, puts, prep1, prep, lend, giveBack, updR, isAl, isOl, isOwn, bindT, bindTs, fin, outs, outs1, bltR, isiR, tyN, lenR, absR, intR, lstR, valsR, tuplR, cmpR, idxR, slcR, binR, isNoneD, e0, PyData.eqv, hv2]
          · rw [evS_cons]
            have ct : cut (PyData.str s :: (bs.l.map enc ++ [.tuple []])) none (some 7) = .str s :: ((bs.l ++ [Bu.tip]).take 6).map enc := by
              have e5 : PyData.str s :: (bs.l.map enc ++ [.tuple []]) = .str s :: (bs.l ++ [Bu.tip]).map enc := by simp [enc]
              rw [e5]
              unfold cut
              have : HT.sIx (PyData.str s :: (bs.l ++ [Bu.tip]).map enc).length (PyData.str s :: (bs.l ++ [Bu.tip]).map enc).length (some 7) = min 7 (PyData.str s :: (bs.l ++ [Bu.tip]).map enc).length := HT.sIx_nat _ _ 7
              rw [this, HT.sIx_none]
              simp only [List.drop_zero, Nat.sub_zero]
              rw [← List.take_eq_take_min]
              simp [List.map_take]
            generalize ((bs.l ++ [Bu.tip]).take 6).map enc = T6 at ct p1
            simp [callK, evS, evE, evA, evO, evI, seqS, retF, asgF, asgPF, asgMF, stiF, expF, iteF, forF, andF, orF, notF, ifeF, bltF, consA, nilA, varF, litF, tupF, lstF, dicF, binF, negF, cmpF, cmp2F, idxF, slcF, calF, mtwF, sclF, noO, someO, rngF, seqF, toB, toI, vws, vw, view, dview, frz, frzs, keep1, keeps, put, puts, prep1, prep, lend, giveBack, updR, isAl, isOl, isOwn, bindT, bindTs, fin, outs, outs1, bltR, isiR, tyN, lenR, absR, intR, lstR, valsR, tuplR, cmpR, idxR, slcR, binR, isNoneD, ct, l0, l1, l8, p1]
end TW
end

section
namespace TW
open PySem
/-! ### law_k07 -/
def L7 (ns : List Int) (σ : En) : Prop := ∃ (xs : List D) (x2 x4 : Option Rv), σ = [some (.sc ns), some (.ol xs false), x2, none, x4, none, none, none] ∧ isOwn x2 = false ∧ isOwn x4 = false ∧ Cup xs
def l7for : S := match b1011 with
  | .cons _ (.cons (.for _ _ b) _) => b
  | _ => .nil
theorem sm_of {b : Bu} (w : wf b = true) (h1 : kn b ≤ 60) (h2 : ht b ≤ 60) : Sm b := by
  have := tp_kn b w
  exact ⟨w, h2, by simp only [cnt]; omega⟩
theorem l7_body (ns : List Int) (W j : Nat) (hW : 6000 ≤ W) (hW2 : W ≤ 2000000) (hj : 210 ≤ j) (n : Nat) (σ : En) (h : L7 ns σ) : ∃ σ1 σ2, bindT (.nm 2) (.int (n : Nat)) σ = some σ1 ∧ evS (callK FsT W j) W l7for σ1 = some (.nx, σ2) ∧ L7 ns σ2 := by
  obtain ⟨xs, x2, x4, rfl, h2, h4, hc⟩ := h
  obtain ⟨b, y1, r1, c1, wb, hb, kb⟩ := bush_ok 20 (by omega) xs hc W j (by omega)
  have r1' : callK FsT W j 4 [.ol xs true, .d (.int 20)] = some (.d (enc b), [.ol y1 true, .d (.int 20)]) := r1
  have sb : Sm b := sm_of wb (by omega) (by omega)
  obtain ⟨b', y2, r2, c2, wb', kb', hb'⟩ := near_bush_ok y1 c1 b wb (by omega) (by have := sb.c; omega) W j hW (by omega)
  have sb' : Sm b' := sm_of wb' (by omega) (by omega)
  have q1 := right7_ok b sb W j hW hW2 (by omega)
  have q2 := right7_ok b' sb' W j hW hW2 (by omega)
  have p2 : put 2 (.d (.int (n : Nat))) [some (.sc ns), some (.ol xs false), x2, none, x4, none, none, none] = some [some (.sc ns), some (.ol xs false), some (.d (.int (n : Nat))), none, x4, none, none, none] := put_free rfl h2
  have p4 : ∀ (u0 u1 u2 u3 : Option Rv) z, put 4 z [u0, u1, u2, u3, x4, none, none, none] = some [u0, u1, u2, u3, some z, none, none, none] := fun _ _ _ _ _ => put_free rfl h4
  refine ⟨_, [some (.sc ns), some (.ol y2 false), some (.d (.int (n : Nat))), none, some (.d (enc b)), none, none, none], p2, ?_, ⟨y2, _, _, rfl, rfl, rfl, c2⟩⟩
  simp only [l7for, b1011]
  refine evS_cons.trans ((seq_nx (σ1 := [some (.sc ns), some (.ol y1 false), some (.d (.int (n : Nat))), none, some (.d (enc b)), none, none, none]) ?_).trans ?_)
  · simp [callK, evS, evE, evA, evO, evI, seqS, retF, asgF, asgPF, asgMF, stiF, expF, iteF, forF, andF, orF, notF, ifeF, bltF, consA, nilA, varF, litF, tupF, lstF, dicF, binF, negF, cmpF, cmp2F, idxF, slcF, calF, mtwF, sclF, noO, someO, rngF, seqF, toB, toI, vws, vw, view, dview, frz, frzs, keep1, keeps, puts, prep1, prep, lend, giveBack, updR, isAl, isOl, isOwn, bindT, bindTs, fin, outs, outs1, bltR, isiR, tyN, lenR, absR, intR, lstR, valsR, tuplR, cmpR, idxR, slcR, binR, isNoneD, r1', p4]
  refine evS_cons.trans ((seq_nx (σ1 := [some (.sc ns), some (.ol y2 false), some (.d (.int (n : Nat))), none, some (.d (enc b)), none, none, none]) ?_).trans ?_)
  · simp [callK, evS, evE, evA, evO, evI, seqS, retF, asgF, asgPF, asgMF, stiF, expF, iteF, forF, andF, orF, notF, ifeF, bltF, consA, nilA, varF, litF, tupF, lstF, dicF, binF, negF, cmpF, cmp2F, idxF, slcF, calF, mtwF, sclF, noO, someO, rngF, seqF, toB, toI, vws, vw, view, dview, frz, frzs, keep1, keeps, puts, prep1, prep, lend, giveBack, updR, isAl, isOl, isOwn, bindT, bindTs, fin, outs, outs1, bltR, isiR, tyN, lenR, absR, intR, lstR, valsR, tuplR, cmpR, idxR, slcR, binR, isNoneD, r2, q1, q2]
  · simp only [evS]
/-! the rows by hand -/
theorem for_all {α : Type} {e : α → D} {p : Tg} {body : En → Option (Flow × En)} (I : En → Prop) (l : List α) (h : ∀ a ∈ l, ∀ σ, I σ → ∃ σ1 σ2, bindT p (e a) σ = some σ1 ∧ body σ1 = some (.nx, σ2) ∧ I σ2) :
    ∀ σ, I σ → ∃ σ', forL body p (l.map e) σ = some (.nx, σ') ∧ I σ' := by
  induction l with
  | nil => exact fun σ hi => ⟨σ, rfl, hi⟩
  | cons a l ih =>
    intro σ hi
    obtain ⟨σ1, σ2, h1, h2, h3⟩ := h a (List.mem_cons_self ..) σ hi
    obtain ⟨σ', h4, h5⟩ := ih (fun b hb => h b (List.mem_cons_of_mem _ hb)) σ2 h3
    refine ⟨σ', ?_, h5⟩
    simp only [List.map_cons, forL, h1, h2]
    exact h4
def eI (p : Bu × D) : D := .tuple [enc p.1, .tuple [.int (kn p.1), .int (tp p.1), .int (nr p.1), .int (ht p.1), p.2]]
def bA1 : Bu := .knot "f" (Bus.of [kF, .tip])
def bA2 : Bu := .knot "f" (Bus.of [bS, kF, .tip])
def bA3 : Bu := .knot "g" (Bus.of [kF, kF, kF, kF, kF, kF])
def IT1 : List (Bu × D) := [(.tip, widD .tip), (bA1, widD bA1), (bS, widD bS), (chain 60, widD (chain 60))]
def IT2 : List (Bu × D) := [(bG2, .none), (bA2, widD bA2), (bA3, widD bA3)]
theorem it_nums : wid .tip = [1] ∧ wid bA1 = [1, 2, 2] ∧ wid bS = [1, 1] ∧ wid (chain 60) = List.replicate 61 1 ∧ wid bA2 = [1, 3, 3] ∧ wid bA3 = [1, 6, 12] ∧
    (kn .tip, tp .tip, nr .tip, ht .tip) = (0, 1, 0, 0) ∧ (kn bA1, tp bA1, nr bA1, ht bA1) = (2, 3, 1, 2) ∧ (kn bS, tp bS, nr bS, ht bS) = (1, 1, 1, 1) ∧ (kn (chain 60), tp (chain 60), nr (chain 60), ht (chain 60)) = (60, 1, 60, 60) ∧
    (kn bG2, tp bG2, nr bG2, ht bG2) = (69, 331, 3, 6) ∧ (kn bA2, tp bA2, nr bA2, ht bA2) = (3, 4, 1, 2) ∧ (kn bA3, tp bA3, nr bA3, ht bA3) = (7, 12, 2, 2) := by decide +kernel
theorem it_sm : (([.tip, bA1, bS, chain 60, bG2, bA2, bA3] : List Bu).all fun b => wf b && decide (ht b ≤ 60) && decide (cnt b ≤ 400)) = true := by decide +kernel
theorem it_all : ∀ p ∈ IT1 ++ IT2, Sm p.1 ∧ (p.2 = .none ∨ p.2 = widD p.1) := fun p hp => by
  have key : ∀ b ∈ ([.tip, bA1, bS, chain 60, bG2, bA2, bA3] : List Bu), Sm b := fun b hb => by
    have := List.all_eq_true.mp it_sm b hb
    simp only [Bool.and_eq_true, decide_eq_true_eq] at this
    exact ⟨this.1.1, this.1.2, this.2⟩
  simp only [IT1, IT2, List.cons_append, List.nil_append, List.mem_cons, List.not_mem_nil, or_false] at hp
  rcases hp with rfl | rfl | rfl | rfl | rfl | rfl | rfl <;> exact ⟨key _ (by simp), by first | exact .inr rfl | exact .inl rfl⟩
def E1 : List D := [.tuple [.tuple [], .tuple [.int 0, .int 1, .int 0, .int 0, .tuple [.int 1]]], .tuple [.tuple [.str "f", dF, .tuple []], .tuple [.int 2, .int 3, .int 1, .int 2, .tuple [.int 1, .int 2, .int 2]]],
  .tuple [dS, .tuple [.int 1, .int 1, .int 1, .int 1, .tuple [.int 1, .int 1]]], .tuple [enc (chain 60), .tuple [.int 60, .int 1, .int 60, .int 60, .tuple (List.replicate 61 (.int 1))]]]
def E2 : List D := [.tuple [enc bG2, .tuple [.int 69, .int 331, .int 3, .int 6, .none]], .tuple [.tuple [.str "f", dS, dF, .tuple []], .tuple [.int 3, .int 4, .int 1, .int 2, .tuple [.int 1, .int 3, .int 3]]],
  .tuple [.tuple [.str "g", dF, dF, dF, dF, dF, dF], .tuple [.int 7, .int 12, .int 2, .int 2, .tuple [.int 1, .int 6, .int 12]]]]
theorem E_eq : E1 = IT1.map eI ∧ E2 = IT2.map eI := by
  obtain ⟨w1, w2, w3, w4, w5, w6, n1, n2, n3, n4, n5, n6, n7⟩ := it_nums
  simp only [Prod.mk.injEq] at n1 n2 n3 n4 n5 n6 n7
  have eF : enc kF = dF := by simp [kF, Bus.of, enc, encs, dF]
  have eS : enc bS = dS := by simp [bS, Bus.of, enc, encs, dS]
  have e1 : enc bA1 = .tuple [.str "f", dF, .tuple []] := by simp [bA1, enc_of, eF, enc]
  have e2 : enc bA2 = .tuple [.str "f", dS, dF, .tuple []] := by simp [bA2, enc_of, eF, eS, enc]
  have e3 : enc bA3 = .tuple [.str "g", dF, dF, dF, dF, dF, dF] := by simp [bA3, enc_of, eF]
  have e0 : enc .tip = .tuple [] := rfl
  constructor
  · simp only [E1, IT1, List.map_cons, List.map_nil, eI, e0, e1, eS, n1, n2, n3, n4, widD, w1, w2, w3, w4, List.map_replicate]
    rfl
  · simp only [E2, IT2, List.map_cons, List.map_nil, eI, e2, e3, n5, n6, n7, widD, w5, w6]
    rfl
def h7for : S := match b1011 with
  | .cons _ (.cons _ (.cons _ (.cons _ (.cons _ (.cons (.for _ _ b) _))))) => b
  | _ => .nil
def H7 (ns : List Int) (xs : List D) (x2 x3 : Option Rv) (σ : En) : Prop := ∃ x4 x7, σ = [some (.sc ns), some (.ol xs false), x2, x3, x4, some (.d dF), some (.d dS), x7] ∧ isOwn x4 = false ∧ isOwn x7 = false
theorem h7_body (ns : List Int) (xs : List D) (x2 x3 : Option Rv) (W j : Nat) (hW : 6000 ≤ W) (hW2 : W ≤ 2000000) (hj : 210 ≤ j) (p : Bu × D) (hs : Sm p.1) (hw : p.2 = .none ∨ p.2 = widD p.1) (σ : En) (h : H7 ns xs x2 x3 σ) :
    ∃ σ1 σ2, bindT (.tp (.cons (.nm 4) (.cons (.nm 7) .nil))) (eI p) σ = some σ1 ∧ evS (callK FsT W j) W h7for σ1 = some (.nx, σ2) ∧ H7 ns xs x2 x3 σ2 := by
  obtain ⟨x4, x7, rfl, h4, h7⟩ := h
  obtain ⟨b, w⟩ := p
  have hs : Sm b := hs
  have hw : w = .none ∨ w = widD b := hw
  have k1 := knots_of_ok b hs W j hW (by omega)
  have k2 := tips_of_ok b hs W j hW (by omega)
  have k3 := near_of_ok b hs W j hW (by omega)
  have k4 := height_of_ok b hs W j hW (by omega)
  have k5 := widths_of_ok b hs W j hW hW2 (by omega)
  have k6 := right7_ok b hs W j hW hW2 (by omega)
  have p4 : ∀ (u0 u1 u2 u3 u5 u6 u7 : Option Rv) z, put 4 z [u0, u1, u2, u3, x4, u5, u6, u7] = some [u0, u1, u2, u3, some z, u5, u6, u7] := fun _ _ _ _ _ _ _ _ => put_free rfl h4
  have p7 : ∀ (u0 u1 u2 u3 u4 u5 u6 : Option Rv) z, put 7 z [u0, u1, u2, u3, u4, u5, u6, x7] = some [u0, u1, u2, u3, u4, u5, u6, some z] := fun _ _ _ _ _ _ _ _ => put_free rfl h7
  have D1 : D := .tuple [.int (kn b), .int (tp b), .int (nr b), .int (ht b), w]
  refine ⟨[some (.sc ns), some (.ol xs false), x2, x3, some (.d (enc b)), some (.d dF), some (.d dS), some (.d (.tuple [.int (kn b), .int (tp b), .int (nr b), .int (ht b), w]))], [some (.sc ns), some (.ol xs false), x2, x3, some (.d (enc b)), some (.d dF), some (.d dS), some (.d (.tuple [.int (kn b), .int (tp b), .int (nr b), .int (ht b), w]))], ?_, ?_, ⟨_, _, rfl, rfl, rfl⟩⟩
  · simp [eI, bindT, bindTs, p4, p7]
  · have ct : cut [PyData.int (kn b), .int (tp b), .int (nr b), .int (ht b), w] none (some 4) = [PyData.int (kn b), .int (tp b), .int (nr b), .int (ht b)] := by
      have := cut_to (xs := [PyData.int (kn b), .int (tp b), .int (nr b), .int (ht b), w]) (n := 4) (by simp)
      exact this
    have a4 : L2.atI [PyData.int (kn b), .int (tp b), .int (nr b), .int (ht b), w] 4 = some w := by simp [L2.atI, L2.ixN]
    have l4 : 4 ≤ LIM := by decide
    have ev : PyData.eqv (.tuple [PyData.int (kn b), .int (tp b), .int (nr b), .int (ht b)]) (.tuple [PyData.int (kn b), .int (tp b), .int (nr b), .int (ht b)]) = true := by simp [PyData.eqv, PyData.eqvAll]
    have dp : dpt (.tuple [PyData.int (kn b), .int (tp b), .int (nr b), .int (ht b)]) (.tuple [PyData.int (kn b), .int (tp b), .int (nr b), .int (ht b)]) = true := by simp [dpt, PyData.depth, PyData.depthAll]
    have evn : ∀ l : List Nat, PyData.eqvAll (natsD l) (natsD l) = true := fun l => by
      have := eqv_ints l l
      simpa [natsD] using this
    have dpn : ∀ l : List Nat, PyData.depthAll (natsD l) ≤ 10 := fun l => depth_ints l
    have ew : PyData.eqv (widD b) (widD b) = true := evn _
    have dw : dpt (widD b) (widD b) = true := by
      have := dpn (wid b)
      unfold dpt
      apply decide_eq_true
      show min (PyData.depthAll (natsD (wid b)) + 1) _ ≤ _
      omega
    have nw : isNoneD (widD b) = false := rfl
    simp only [h7for, b1011]
    refine evS_cons.trans ((seq_nx (σ1 := [some (.sc ns), some (.ol xs false), x2, x3, some (.d (enc b)), some (.d dF), some (.d dS), some (.d (.tuple [.int (kn b), .int (tp b), .int (nr b), .int (ht b), w]))]) ?_).trans ?_)
    · simp [callK, evS, evE, evA, evO, evI, seqS, retF, asgF, asgPF, asgMF, stiF, expF, iteF, forF, andF, orF, notF, ifeF, bltF, consA, nilA, varF, litF, tupF, lstF, dicF, binF, negF, cmpF, cmp2F, idxF, slcF, calF, mtwF, sclF, noO, someO, rngF, seqF, toB, toI, vws, vw, view, dview, frz, frzs, keep1, keeps, puts, prep1, prep, lend, giveBack, updR, isAl, isOl, isOwn, bindT, bindTs, fin, outs, outs1, bltR, isiR, tyN, lenR, absR, intR, lstR, valsR, tuplR, cmpR, idxR, slcR, binR, isNoneD, k1, k2, k3, k4, k6, l4, ct, ev, dp]
    refine evS_cons.trans ((seq_nx (σ1 := [some (.sc ns), some (.ol xs false), x2, x3, some (.d (enc b)), some (.d dF), some (.d dS), some (.d (.tuple [.int (kn b), .int (tp b), .int (nr b), .int (ht b), w]))]) ?_).trans ?_)
    · rcases hw with rfl | rfl
      · simp [callK, evS, evE, evA, evO, evI, seqS, retF, asgF, asgPF, asgMF, stiF, expF, iteF, forF, andF, orF, notF, ifeF, bltF, consA, nilA, varF, litF, tupF, lstF, dicF, binF, negF, cmpF, cmp2F, idxF, slcF, calF, mtwF, sclF, noO, someO, rngF, seqF, toB, toI, vws, vw, view, dview, frz, frzs, keep1, keeps, puts, prep1, prep, lend, giveBack, updR, isAl, isOl, isOwn, bindT, bindTs, fin, outs, outs1, bltR, isiR, tyN, lenR, absR, intR, lstR, valsR, tuplR, cmpR, idxR, slcR, binR, isNoneD, a4]
      · obtain ⟨X, hX⟩ : ∃ X, widD b = .tuple X := ⟨_, rfl⟩
        rw [hX] at a4 k5 ew dw ⊢
        simp [callK, evS, evE, evA, evO, evI, seqS, retF, asgF, asgPF, asgMF, stiF, expF, iteF, forF, andF, orF, notF, ifeF, bltF, consA, nilA, varF, litF, tupF, lstF, dicF, binF, negF, cmpF, cmp2F, idxF, slcF, calF, mtwF, sclF, noO, someO, rngF, seqF, toB, toI, vws, vw, view, dview, frz, frzs, keep1, keeps, puts, prep1, prep, lend, giveBack, updR, isAl, isOl, isOwn, bindT, bindTs, fin, outs, outs1, bltR, isiR, tyN, lenR, absR, intR, lstR, valsR, tuplR, cmpR, idxR, slcR, binR, isNoneD, a4, k5, ew, dw]
    · simp only [evS]
theorem law7_at (ns : List Int) (hn : ns.length ≤ 63) (W j : Nat) (hW : 6000 ≤ W) (hW2 : W ≤ 2000000) (hj : 210 ≤ j) : ∃ os, callK FsT W (j + 1) 1011 [.sc ns] = some (.d (.bool true), os) := by
  obtain ⟨xs, r0, c0⟩ := cup_ok ns hn W j (by omega)
  obtain ⟨σ', hf, hI⟩ := for_inv (p := .nm 2) (body := evS (callK FsT W j) W l7for) (N := 8) (fun _ σ => L7 ns σ) (fun n σ _ h => l7_body ns W j hW hW2 hj n σ h) 8 0 [some (.sc ns), some (.ol xs false), none, none, none, none, none, none] (by omega) ⟨xs, none, none, rfl, rfl, rfl, c0⟩
  have hr : (List.range' 0 8).map (fun i => PyData.int (i : Nat)) = rngI 0 (8 : Int) := (rngI_range 8).symm
  rw [hr] at hf
  obtain ⟨ys, x2, x4, rfl, g2, g4, cy⟩ := hI
  obtain ⟨e1, e2⟩ := E_eq
  obtain ⟨σ2, hf2, hI2⟩ := for_all (e := eI) (p := .tp (.cons (.nm 4) (.cons (.nm 7) .nil))) (body := evS (callK FsT W j) W h7for) (H7 ns ys x2 (some (.d (.list (E1 ++ E2))))) (IT1 ++ IT2) (fun a ha σ hσ => h7_body ns ys x2 _ W j hW hW2 hj a (it_all a ha).1 (it_all a ha).2 σ hσ)
    [some (.sc ns), some (.ol ys false), x2, some (.d (.list (E1 ++ E2))), x4, some (.d dF), some (.d dS), none] ⟨x4, none, rfl, g4, rfl⟩
  rw [List.map_append, ← e1, ← e2] at hf2
  have t60 : callK FsT W j 127 [.d (.int 60)] = some (.d (enc (chain 60)), [.d (.int 60)]) := chain_ok 60 (by omega) W j (by omega)
  have gt := great_ok W j hW (by omega)
  have r61 : (List.replicate (Int.toNat 61) [PyData.int 1]).flatten = List.replicate 61 (PyData.int 1) := by simp
  have e1' : evS (callK FsT W j) W b1011 [some (.sc ns), none, none, none, none, none, none, none] = some (.ret (.d (.bool true)), σ2) := by
    simp only [l7for, b1011] at hf
    simp only [h7for, b1011] at hf2
    unfold b1011
    refine evS_cons.trans ((seq_nx (σ1 := [some (.sc ns), some (.ol xs false), none, none, none, none, none, none]) ?_).trans ?_)
    · simp [callK, evS, evE, evA, evO, evI, seqS, retF, asgF, asgPF, asgMF, stiF, expF, iteF, forF, andF, orF, notF, ifeF, bltF, consA, nilA, varF, litF, tupF, lstF, dicF, binF, negF, cmpF, cmp2F, idxF, slcF, calF, mtwF, sclF, noO, someO, rngF, seqF, toB, toI, vws, vw, view, dview, frz, frzs, keep1, keeps, put, puts, prep1, prep, lend, giveBack, updR, isAl, isOl, isOwn, bindT, bindTs, fin, outs, outs1, bltR, isiR, tyN, lenR, absR, intR, lstR, valsR, tuplR, cmpR, idxR, slcR, binR, isNoneD, r0]
    refine evS_cons.trans ((seq_nx (σ1 := [some (.sc ns), some (.ol ys false), x2, none, x4, none, none, none]) ?_).trans ?_)
    · exact (evS_for (xs := rngI 0 (8 : Int)) (σ1 := [some (.sc ns), some (.ol xs false), none, none, none, none, none, none]) (by simp [callK, evS, evE, evA, evO, evI, seqS, retF, asgF, asgPF, asgMF, stiF, expF, iteF, forF, andF, orF, notF, ifeF, bltF, consA, nilA, varF, litF, tupF, lstF, dicF, binF, negF, cmpF, cmp2F, idxF, slcF, calF, mtwF, sclF, noO, someO, rngF, seqF, toB, toI, vws, vw, view, dview, frz, frzs, keep1, keeps, put, puts, prep1, prep, lend, giveBack, updR, isAl, isOl, isOwn, bindT, bindTs, fin, outs, outs1, bltR, isiR, tyN, lenR, absR, intR, lstR, valsR, tuplR, cmpR, idxR, slcR, binR, isNoneD, b62])).trans hf
    refine evS_cons.trans ((seq_nx (σ1 := [some (.sc ns), some (.ol ys false), x2, none, x4, some (.d dF), some (.d dS), none]) ?_).trans ?_)
    · simp [callK, evS, evE, evA, evO, evI, seqS, retF, asgF, asgPF, asgMF, stiF, expF, iteF, forF, andF, orF, notF, ifeF, bltF, consA, nilA, varF, litF, tupF, lstF, dicF, binF, negF, cmpF, cmp2F, idxF, slcF, calF, mtwF, sclF, noO, someO, rngF, seqF, toB, toI, vws, vw, view, dview, frz, frzs, keep1, keeps, put, puts, prep1, prep, lend, giveBack, updR, isAl, isOl, isOwn, bindT, bindTs, fin, outs, outs1, bltR, isiR, tyN, lenR, absR, intR, lstR, valsR, tuplR, cmpR, idxR, slcR, binR, isNoneD, LIM, dF, dS]
    refine evS_cons.trans ((seq_nx (σ1 := [some (.sc ns), some (.ol ys false), x2, some (.ol E1 false), x4, some (.d dF), some (.d dS), none]) ?_).trans ?_)
    · unfold E1
      generalize enc (chain 60) = c60 at *
      generalize dF = f at *
      generalize dS = s at *
      simp [callK, evS, evE, evA, evO, evI, seqS, retF, asgF, asgPF, asgMF, stiF, expF, iteF, forF, andF, orF, notF, ifeF, bltF, consA, nilA, varF, litF, tupF, lstF, dicF, binF, negF, cmpF, cmp2F, idxF, slcF, calF, mtwF, sclF, noO, someO, rngF, seqF, toB, toI, vws, vw, view, dview, frz, frzs, keep1, keeps, put, puts, prep1, prep, lend, giveBack, updR, isAl, isOl, isOwn, bindT, bindTs, fin, outs, outs1, bltR, isiR, tyN, lenR, absR, intR, lstR, valsR, tuplR, cmpR, idxR, slcR, binR, isNoneD, LIM, t60]
    refine evS_cons.trans ((seq_nx (σ1 := [some (.sc ns), some (.ol ys false), x2, some (.ol (E1 ++ E2) false), x4, some (.d dF), some (.d dS), none]) ?_).trans ?_)
    · have l1 : E1.length = 4 := rfl
      unfold E2
      generalize E1 = e at *
      generalize enc bG2 = g2 at *
      generalize dF = f at *
      generalize dS = s at *
      simp [callK, evS, evE, evA, evO, evI, seqS, retF, asgF, asgPF, asgMF, stiF, expF, iteF, forF, andF, orF, notF, ifeF, bltF, consA, nilA, varF, litF, tupF, lstF, dicF, binF, negF, cmpF, cmp2F, idxF, slcF, calF, mtwF, sclF, noO, someO, rngF, seqF, toB, toI, vws, vw, view, dview, frz, frzs, keep1, keeps, put, puts, prep1, prep, lend, giveBack, updR, isAl, isOl, isOwn, bindT, bindTs, fin, outs, outs1, bltR, isiR, tyN, lenR, absR, intR, lstR, valsR, tuplR, cmpR, idxR, slcR, binR, isNoneD, LIM, gt, l1, List.replicate]
    refine evS_cons.trans ((seq_nx (σ1 := σ2) ?_).trans ?_)
    · refine (evS_for (xs := E1 ++ E2) (σ1 := [some (.sc ns), some (.ol ys false), x2, some (.d (.list (E1 ++ E2))), x4, some (.d dF), some (.d dS), none]) ?_).trans hf2
      generalize E1 ++ E2 = e
      simp [callK, evS, evE, evA, evO, evI, seqS, retF, asgF, asgPF, asgMF, stiF, expF, iteF, forF, andF, orF, notF, ifeF, bltF, consA, nilA, varF, litF, tupF, lstF, dicF, binF, negF, cmpF, cmp2F, idxF, slcF, calF, mtwF, sclF, noO, someO, rngF, seqF, toB, toI, vws, vw, view, dview, frz, frzs, keep1, keeps, put, puts, prep1, prep, lend, giveBack, updR, isAl, isOl, isOwn, bindT, bindTs, fin, outs, outs1, bltR, isiR, tyN, lenR, absR, intR, lstR, valsR, tuplR, cmpR, idxR, slcR, binR, isNoneD]
    · rw [evS_cons]
      simp [callK, evS, evE, evA, evO, evI, seqS, retF, asgF, asgPF, asgMF, stiF, expF, iteF, forF, andF, orF, notF, ifeF, bltF, consA, nilA, varF, litF, tupF, lstF, dicF, binF, negF, cmpF, cmp2F, idxF, slcF, calF, mtwF, sclF, noO, someO, rngF, seqF, toB, toI, vws, vw, view, dview, frz, frzs, keep1, keeps, put, puts, prep1, prep, lend, giveBack, updR, isAl, isOl, isOwn, bindT, bindTs, fin, outs, outs1, bltR, isiR, tyN, lenR, absR, intR, lstR, valsR, tuplR, cmpR, idxR, slcR, binR, isNoneD]
  exact ⟨_, call_ret (fd := f1011) rfl rfl e1' rfl⟩
theorem law7_ok (ns : List Int) (hn : ns.length ≤ 63) : ∃ os, callK FsT WW 230 1011 [.sc ns] = some (.d (.bool true), os) := law7_at ns hn WW 229 (by decide) (by decide) (by omega)
end TW
end

section
namespace TW
open PySem
structure Goo (pt : Nat) (gs : List Bu) : Prop where
  g : ∀ g ∈ gs, wf g = true ∧ ht g ≤ 4 ∧ kn g ≤ 4
  p : (F3 gs).1 + (F3 gs).2.1 ≤ pt
def RJ (yr pt : Nat) (n : Nat) (σ : En) : Prop := ∃ (xs : List D) (gs : List Bu) (x4 x5 x6 x7 x8 x9 x10 : Option Rv), σ = [some (.ol xs true), some (.d (.int (yr : Nat))), some (.d (.int (pt : Nat))), some (.d (.tuple (gs.map enc))), x4, x5, x6, x7, x8, x9, x10] ∧
  isOwn x4 = false ∧ isOwn x5 = false ∧ isOwn x6 = false ∧ isOwn x7 = false ∧ isOwn x8 = false ∧ isOwn x9 = false ∧ isOwn x10 = false ∧ Cup xs ∧ gs.length ≤ n ∧ Goo pt gs
theorem row_bodyJ (yr pt : Nat) (hyr : yr ≤ 900) (hpt : 1 ≤ pt) (W j : Nat) (hW : 6000 ≤ W) (hj : 20 ≤ j) (n : Nat) (σ : En) (hn : n < yr + 1) (h : RJ yr pt n σ) : ∃ σ1 σ2, bindT (.nm 4) (.int (n : Nat)) σ = some σ1 ∧ evS (callK FsT W j) W rfor σ1 = some (.nx, σ2) ∧ RJ yr pt (n + 1) σ2 := by
  obtain ⟨xs, gs, x4, x5, x6, x7, x8, x9, x10, rfl, h4, h5, h6, h7, h8, h9, h10, hc, hl, hg⟩ := h
  obtain ⟨v, y1, r1, c1, v0, v1⟩ := roll_ok xs hc 9 (by omega) (by omega) W j (by omega)
  have e0 : ∀ a b : Int, dpt (.int a) (.int b) = true := fun a b => by simp [dpt, PyData.depth]
  -- the growth
  have hB : ∃ g y2, ifeF (cmpF .Eq (varF 5) (litF (.int 0))) (tupF nilA) (ifeF (cmpF .Lt (varF 5) (litF (.int 5))) (calF (callK FsT W j) 5 [true] (consA (varF 0) nilA)) (calF (callK FsT W j) 42 [true, false] (consA (varF 0) (consA (litF (.int 4)) nilA))))
      [some (.ol y1 true), some (.d (.int (yr : Nat))), some (.d (.int (pt : Nat))), some (.d (.tuple (gs.map enc))), some (.d (.int (n : Nat))), some (.d (.int v)), x6, x7, x8, x9, x10] =
      some (.d (enc g), [some (.ol y2 true), some (.d (.int (yr : Nat))), some (.d (.int (pt : Nat))), some (.d (.tuple (gs.map enc))), some (.d (.int (n : Nat))), some (.d (.int v)), x6, x7, x8, x9, x10]) ∧ Cup y2 ∧ wf g = true ∧ ht g ≤ 4 ∧ kn g ≤ 4 := by
    by_cases hv : v = 0
    · subst hv
      refine ⟨.tip, y1, ?_, c1, rfl, by simp [ht], by simp [kn]⟩
      simp [callK, evS, evE, evA, evO, evI, seqS, retF, asgF, asgPF, asgMF, stiF, expF, iteF, forF, andF, orF, notF, ifeF, bltF, consA, nilA, varF, litF, tupF, lstF, dicF, binF, negF, cmpF, cmp2F, idxF, slcF, calF, mtwF, sclF, noO, someO, rngF, seqF, toB, toI, vws, vw, view, dview, frz, frzs, keep1, keeps, puts, prep1, prep, lend, giveBack, updR, isAl, isOl, isOwn, bindT, bindTs, fin, outs, outs1, bltR, isiR, tyN, lenR, absR, intR, lstR, valsR, tuplR, cmpR, idxR, slcR, binR, isNoneD, e0, PyData.eqv, enc, LIM]
    · have ev : (v == 0) = false := by simpa using hv
      by_cases hv5 : v < 5
      · obtain ⟨g, y2, r2, c2, w⟩ := known_ok y1 c1 W j (by omega)
        refine ⟨g, y2, ?_, c2, w⟩
        simp [callK, evS, evE, evA, evO, evI, seqS, retF, asgF, asgPF, asgMF, stiF, expF, iteF, forF, andF, orF, notF, ifeF, bltF, consA, nilA, varF, litF, tupF, lstF, dicF, binF, negF, cmpF, cmp2F, idxF, slcF, calF, mtwF, sclF, noO, someO, rngF, seqF, toB, toI, vws, vw, view, dview, frz, frzs, keep1, keeps, puts, prep1, prep, lend, giveBack, updR, isAl, isOl, isOwn, bindT, bindTs, fin, outs, outs1, bltR, isiR, tyN, lenR, absR, intR, lstR, valsR, tuplR, cmpR, idxR, slcR, binR, isNoneD, e0, PyData.eqv, ev, hv5, r2]
      · obtain ⟨g, y2, r2, c2, w⟩ := growth_ok y1 c1 W j (by omega)
        refine ⟨g, y2, ?_, c2, w⟩
        simp [callK, evS, evE, evA, evO, evI, seqS, retF, asgF, asgPF, asgMF, stiF, expF, iteF, forF, andF, orF, notF, ifeF, bltF, consA, nilA, varF, litF, tupF, lstF, dicF, binF, negF, cmpF, cmp2F, idxF, slcF, calF, mtwF, sclF, noO, someO, rngF, seqF, toB, toI, vws, vw, view, dview, frz, frzs, keep1, keeps, puts, prep1, prep, lend, giveBack, updR, isAl, isOl, isOwn, bindT, bindTs, fin, outs, outs1, bltR, isiR, tyN, lenR, absR, intR, lstR, valsR, tuplR, cmpR, idxR, slcR, binR, isNoneD, e0, PyData.eqv, ev, hv5, r2]
  obtain ⟨g, y2, hB, c2, hgg⟩ := hB
  have hall : ∀ x ∈ gs ++ [g], wf x = true ∧ ht x ≤ 4 ∧ kn x ≤ 4 := fun x hx => by
    rcases List.mem_append.mp hx with hx | hx
    · exact hg.g x hx
    · simp at hx; rw [hx]; exact hgg
  have h41 := sizes_ok (gs ++ [g]) (sz_pre hall) W j hW (by omega)
  have l1 : gs.length + 1 ≤ LIM := by unfold LIM; omega
  have l2 : 1 ≤ LIM := by decide
  simp only [List.map_append, List.map_cons, List.map_nil] at h41
  have p4 : put 4 (.d (.int (n : Nat))) [some (.ol xs true), some (.d (.int (yr : Nat))), some (.d (.int (pt : Nat))), some (.d (.tuple (gs.map enc))), x4, x5, x6, x7, x8, x9, x10] = some [some (.ol xs true), some (.d (.int (yr : Nat))), some (.d (.int (pt : Nat))), some (.d (.tuple (gs.map enc))), some (.d (.int (n : Nat))), x5, x6, x7, x8, x9, x10] := put_free rfl h4
  have p5 : ∀ (u0 u1 u2 u3 u4 : Option Rv) z, put 5 z [u0, u1, u2, u3, u4, x5, x6, x7, x8, x9, x10] = some [u0, u1, u2, u3, u4, some z, x6, x7, x8, x9, x10] := fun _ _ _ _ _ _ => put_free rfl h5
  have p6 : ∀ (u0 u1 u2 u3 u4 u5 : Option Rv) z, put 6 z [u0, u1, u2, u3, u4, u5, x6, x7, x8, x9, x10] = some [u0, u1, u2, u3, u4, u5, some z, x7, x8, x9, x10] := fun _ _ _ _ _ _ _ => put_free rfl h6
  have p7 : ∀ (u0 u1 u2 u3 u4 u5 u6 : Option Rv) z, put 7 z [u0, u1, u2, u3, u4, u5, u6, x7, x8, x9, x10] = some [u0, u1, u2, u3, u4, u5, u6, some z, x8, x9, x10] := fun _ _ _ _ _ _ _ _ => put_free rfl h7
  have p8 : ∀ (u0 u1 u2 u3 u4 u5 u6 u7 : Option Rv) z, put 8 z [u0, u1, u2, u3, u4, u5, u6, u7, x8, x9, x10] = some [u0, u1, u2, u3, u4, u5, u6, u7, some z, x9, x10] := fun _ _ _ _ _ _ _ _ _ => put_free rfl h8
  have p9 : ∀ (u0 u1 u2 u3 u4 u5 u6 u7 u8 : Option Rv) z, put 9 z [u0, u1, u2, u3, u4, u5, u6, u7, u8, x9, x10] = some [u0, u1, u2, u3, u4, u5, u6, u7, u8, some z, x10] := fun _ _ _ _ _ _ _ _ _ _ => put_free rfl h9
  have p10 : ∀ (u0 u1 u2 u3 u4 u5 u6 u7 u8 u9 : Option Rv) z, put 10 z [u0, u1, u2, u3, u4, u5, u6, u7, u8, u9, x10] = some [u0, u1, u2, u3, u4, u5, u6, u7, u8, u9, some z] := fun _ _ _ _ _ _ _ _ _ _ _ => put_free rfl h10
  have p3 : ∀ (u0 u1 u2 u4 u5 u6 u7 u8 u9 u10 : Option Rv) x z, put 3 z [u0, u1, u2, some (.d x), u4, u5, u6, u7, u8, u9, u10] = some [u0, u1, u2, some z, u4, u5, u6, u7, u8, u9, u10] := fun _ _ _ _ _ _ _ _ _ _ _ _ => rfl
  obtain ⟨K, T, N, H, hF⟩ : ∃ (K T : Nat) (N : Int) (H : Nat), (F3 (gs ++ [g])).1 = K ∧ (F3 (gs ++ [g])).2.1 = T ∧ NR (gs ++ [g]) = N ∧ (F3 (gs ++ [g])).2.2 = H := ⟨_, _, _, _, rfl, rfl, rfl, rfl⟩
  obtain ⟨f1, f2, f3, f4⟩ := hF
  rw [f1, f2, f3, f4] at h41
  have hABC : ∀ (s4 : S) (σ2 : En), evS (callK FsT W j) W s4 [some (.ol y2 true), some (.d (.int (yr : Nat))), some (.d (.int (pt : Nat))), some (.d (.tuple (gs.map enc))), some (.d (.int (n : Nat))), some (.d (.int v)), some (.d (enc g)), some (.d (.int K)), some (.d (.int T)), some (.d (.int N)), some (.d (.int H))] = some (.nx, σ2) →
      (match rfor with
        | .cons _ (.cons _ (.cons _ s)) => s
        | _ => .nil) = s4 → evS (callK FsT W j) W rfor [some (.ol xs true), some (.d (.int (yr : Nat))), some (.d (.int (pt : Nat))), some (.d (.tuple (gs.map enc))), some (.d (.int (n : Nat))), x5, x6, x7, x8, x9, x10] = some (.nx, σ2) := fun s4 σ2 hs e => by
    subst e
    simp only [rfor, b157] at hs ⊢
    refine evS_cons.trans ((seq_nx (σ1 := [some (.ol y1 true), some (.d (.int (yr : Nat))), some (.d (.int (pt : Nat))), some (.d (.tuple (gs.map enc))), some (.d (.int (n : Nat))), some (.d (.int v)), x6, x7, x8, x9, x10]) ?_).trans ?_)
    · simp [callK, evS, evE, evA, evO, evI, seqS, retF, asgF, asgPF, asgMF, stiF, expF, iteF, forF, andF, orF, notF, ifeF, bltF, consA, nilA, varF, litF, tupF, lstF, dicF, binF, negF, cmpF, cmp2F, idxF, slcF, calF, mtwF, sclF, noO, someO, rngF, seqF, toB, toI, vws, vw, view, dview, frz, frzs, keep1, keeps, puts, prep1, prep, lend, giveBack, updR, isAl, isOl, isOwn, bindT, bindTs, fin, outs, outs1, bltR, isiR, tyN, lenR, absR, intR, lstR, valsR, tuplR, cmpR, idxR, slcR, binR, isNoneD, r1, p5]
    refine evS_cons.trans ((seq_nx (σ1 := [some (.ol y2 true), some (.d (.int (yr : Nat))), some (.d (.int (pt : Nat))), some (.d (.tuple (gs.map enc))), some (.d (.int (n : Nat))), some (.d (.int v)), some (.d (enc g)), x7, x8, x9, x10]) ?_).trans ?_)
    · simp only [evS, evE, evA, asgF, hB, keep1, frz, p6, Option.map_some]
    refine evS_cons.trans ((seq_nx (σ1 := [some (.ol y2 true), some (.d (.int (yr : Nat))), some (.d (.int (pt : Nat))), some (.d (.tuple (gs.map enc))), some (.d (.int (n : Nat))), some (.d (.int v)), some (.d (enc g)), some (.d (.int K)), some (.d (.int T)), some (.d (.int N)), some (.d (.int H))]) ?_).trans ?_)
    · simp [callK, evS, evE, evA, evO, evI, seqS, retF, asgF, asgPF, asgMF, stiF, expF, iteF, forF, andF, orF, notF, ifeF, bltF, consA, nilA, varF, litF, tupF, lstF, dicF, binF, negF, cmpF, cmp2F, idxF, slcF, calF, mtwF, sclF, noO, someO, rngF, seqF, toB, toI, vws, vw, view, dview, frz, frzs, keep1, keeps, puts, prep1, prep, lend, giveBack, updR, isAl, isOl, isOwn, bindT, bindTs, fin, outs, outs1, bltR, isiR, tyN, lenR, absR, intR, lstR, valsR, tuplR, cmpR, idxR, slcR, binR, isNoneD, h41, l1, l2, p7, p8, p9, p10]
    exact hs
  by_cases hk : ((K : Int) + (T : Int) ≤ pt ∧ (H : Int) ≤ 60)
  · refine ⟨_, [some (.ol y2 true), some (.d (.int (yr : Nat))), some (.d (.int (pt : Nat))), some (.d (.tuple ((gs ++ [g]).map enc))), some (.d (.int (n : Nat))), some (.d (.int v)), some (.d (enc g)), some (.d (.int K)), some (.d (.int T)), some (.d (.int N)), some (.d (.int H))], p4, hABC _ _ ?_ rfl, ⟨y2, gs ++ [g], _, _, _, _, _, _, _, rfl, rfl, rfl, rfl, rfl, rfl, rfl, rfl, c2, by simp; omega, ⟨hall, by rw [f1, f2]; omega⟩⟩⟩
    obtain ⟨hk1, hk2⟩ := hk
    simp only [rfor, b157]
    simp [callK, evS, evE, evA, evO, evI, seqS, retF, asgF, asgPF, asgMF, stiF, expF, iteF, forF, andF, orF, notF, ifeF, bltF, consA, nilA, varF, litF, tupF, lstF, dicF, binF, negF, cmpF, cmp2F, idxF, slcF, calF, mtwF, sclF, noO, someO, rngF, seqF, toB, toI, vws, vw, view, dview, frz, frzs, keep1, keeps, puts, prep1, prep, lend, giveBack, updR, isAl, isOl, isOwn, bindT, bindTs, fin, outs, outs1, bltR, isiR, tyN, lenR, absR, intR, lstR, valsR, tuplR, cmpR, idxR, slcR, binR, isNoneD, hk1, hk2, p3, l1, l2]
  · refine ⟨_, [some (.ol y2 true), some (.d (.int (yr : Nat))), some (.d (.int (pt : Nat))), some (.d (.tuple (gs.map enc))), some (.d (.int (n : Nat))), some (.d (.int v)), some (.d (enc g)), some (.d (.int K)), some (.d (.int T)), some (.d (.int N)), some (.d (.int H))], p4, hABC _ _ ?_ rfl, ⟨y2, gs, _, _, _, _, _, _, _, rfl, rfl, rfl, rfl, rfl, rfl, rfl, rfl, c2, by omega, hg⟩⟩
    simp only [rfor, b157]
    by_cases hk1 : (K : Int) + (T : Int) ≤ pt
    · have hk2 : ¬ (H : Int) ≤ 60 := fun h => hk ⟨hk1, h⟩
      simp [callK, evS, evE, evA, evO, evI, seqS, retF, asgF, asgPF, asgMF, stiF, expF, iteF, forF, andF, orF, notF, ifeF, bltF, consA, nilA, varF, litF, tupF, lstF, dicF, binF, negF, cmpF, cmp2F, idxF, slcF, calF, mtwF, sclF, noO, someO, rngF, seqF, toB, toI, vws, vw, view, dview, frz, frzs, keep1, keeps, puts, prep1, prep, lend, giveBack, updR, isAl, isOl, isOwn, bindT, bindTs, fin, outs, outs1, bltR, isiR, tyN, lenR, absR, intR, lstR, valsR, tuplR, cmpR, idxR, slcR, binR, isNoneD, hk1, hk2, p3, l1, l2]
    · simp [callK, evS, evE, evA, evO, evI, seqS, retF, asgF, asgPF, asgMF, stiF, expF, iteF, forF, andF, orF, notF, ifeF, bltF, consA, nilA, varF, litF, tupF, lstF, dicF, binF, negF, cmpF, cmp2F, idxF, slcF, calF, mtwF, sclF, noO, someO, rngF, seqF, toB, toI, vws, vw, view, dview, frz, frzs, keep1, keeps, puts, prep1, prep, lend, giveBack, updR, isAl, isOl, isOwn, bindT, bindTs, fin, outs, outs1, bltR, isiR, tyN, lenR, absR, intR, lstR, valsR, tuplR, cmpR, idxR, slcR, binR, isNoneD, hk1, p3, l1, l2]
theorem row_okJ (yr pt : Nat) (hyr : yr ≤ 900) (hpt : 1 ≤ pt) (xs : List D) (hc : Cup xs) (W k : Nat) (hW : 6000 ≤ W) (hk : 30 ≤ k) : ∃ gs xs', callK FsT W k 157 [.ol xs true, .d (.int (yr : Nat)), .d (.int (pt : Nat))] = some (.d (.tuple (gs.map enc)), [.ol xs' true, .d (.int (yr : Nat)), .d (.int (pt : Nat))]) ∧ Cup xs' ∧ gs.length ≤ yr ∧ Goo pt gs := by
  obtain ⟨j, rfl⟩ : ∃ j, k = j + 1 := ⟨k - 1, by omega⟩
  obtain ⟨v, y1, r1, c1, v0, v1⟩ := roll_ok xs hc (yr + 1) (by omega) (by omega) W j (by omega)
  obtain ⟨m, rfl⟩ := Int.eq_ofNat_of_zero_le v0
  obtain ⟨σ', hf, hI⟩ := for_inv (N := m) (RJ yr pt) (fun n σ hn h => row_bodyJ yr pt hyr hpt W j hW (by omega) n σ (by omega) h) m 0 _ (by omega) ⟨y1, [], none, none, none, none, none, none, none, rfl, rfl, rfl, rfl, rfl, rfl, rfl, rfl, c1, Nat.le_refl _, ⟨(fun g hg => by cases hg), by simp [F3, mof, kn, tp]; omega⟩⟩
  rw [← rngI_range] at hf
  obtain ⟨y2, gs, x4, x5, x6, x7, x8, x9, x10, rfl, _, _, _, _, _, _, _, c2, hl, hg⟩ := hI
  refine ⟨gs, y2, ?_, c2, by omega, hg⟩
  have e1 : evS (callK FsT W j) W b157 [some (.ol xs true), some (.d (.int (yr : Nat))), some (.d (.int (pt : Nat))), none, none, none, none, none, none, none, none] = some (.ret (.d (.tuple (gs.map enc))), [some (.ol y2 true), some (.d (.int (yr : Nat))), some (.d (.int (pt : Nat))), some (.d (.tuple (gs.map enc))), x4, x5, x6, x7, x8, x9, x10]) := by
    have bm : b62 (m : Int) = true := b62_small (by omega) (by omega)
    unfold b157
    refine evS_cons.trans ((seq_nx (σ1 := [some (.ol xs true), some (.d (.int (yr : Nat))), some (.d (.int (pt : Nat))), some (.d (.tuple [])), none, none, none, none, none, none, none]) ?_).trans ?_)
    · simp [callK, evS, evE, evA, evO, evI, seqS, retF, asgF, asgPF, asgMF, stiF, expF, iteF, forF, andF, orF, notF, ifeF, bltF, consA, nilA, varF, litF, tupF, lstF, dicF, binF, negF, cmpF, cmp2F, idxF, slcF, calF, mtwF, sclF, noO, someO, rngF, seqF, toB, toI, vws, vw, view, dview, frz, frzs, keep1, keeps, put, puts, prep1, prep, lend, giveBack, updR, isAl, isOl, isOwn, bindT, bindTs, fin, outs, outs1, bltR, isiR, tyN, lenR, absR, intR, lstR, valsR, tuplR, cmpR, idxR, slcR, binR, isNoneD, LIM]
    refine evS_cons.trans ((seq_nx (σ1 := [some (.ol y2 true), some (.d (.int (yr : Nat))), some (.d (.int (pt : Nat))), some (.d (.tuple (gs.map enc))), x4, x5, x6, x7, x8, x9, x10]) ?_).trans ?_)
    · simp only [rfor, b157] at hf
      exact (evS_for (xs := rngI 0 (m : Int)) (σ1 := [some (.ol y1 true), some (.d (.int (yr : Nat))), some (.d (.int (pt : Nat))), some (.d (.tuple [])), none, none, none, none, none, none, none]) (by simp [callK, evS, evE, evA, evO, evI, seqS, retF, asgF, asgPF, asgMF, stiF, expF, iteF, forF, andF, orF, notF, ifeF, bltF, consA, nilA, varF, litF, tupF, lstF, dicF, binF, negF, cmpF, cmp2F, idxF, slcF, calF, mtwF, sclF, noO, someO, rngF, seqF, toB, toI, vws, vw, view, dview, frz, frzs, keep1, keeps, put, puts, prep1, prep, lend, giveBack, updR, isAl, isOl, isOwn, bindT, bindTs, fin, outs, outs1, bltR, isiR, tyN, lenR, absR, intR, lstR, valsR, tuplR, cmpR, idxR, slcR, binR, isNoneD, r1, bm])).trans hf
    · rw [evS_cons]
      simp [callK, evS, evE, evA, evO, evI, seqS, retF, asgF, asgPF, asgMF, stiF, expF, iteF, forF, andF, orF, notF, ifeF, bltF, consA, nilA, varF, litF, tupF, lstF, dicF, binF, negF, cmpF, cmp2F, idxF, slcF, calF, mtwF, sclF, noO, someO, rngF, seqF, toB, toI, vws, vw, view, dview, frz, frzs, keep1, keeps, put, puts, prep1, prep, lend, giveBack, updR, isAl, isOl, isOwn, bindT, bindTs, fin, outs, outs1, bltR, isiR, tyN, lenR, absR, intR, lstR, valsR, tuplR, cmpR, idxR, slcR, binR, isNoneD]
  rw [call_ret (fd := f157) rfl rfl e1 rfl]
  simp [outs, outs1]
end TW
end

section
namespace TW
open PySem
/-! ### sums of growing: plain laws -/
mutual
theorem gr_ht_eq (g : Bu) : ∀ b : Bu, wf b = true → ht (gr g b) = ht b + ht g
  | .tip, _ => by simp [gr, ht]
  | .knot s bs, h => by
    simp only [wf, Bool.and_eq_true, decide_eq_true_eq] at h
    have ne : bs.l ≠ [] := fun e => by rw [e] at h; simp at h
    have := grs_ht_eq g bs h.2 ne
    simp only [gr, ht, this]
    omega
theorem grs_ht_eq (g : Bu) : ∀ bs : Bus, wfs bs = true → bs.l ≠ [] → hts (grs g bs) = hts bs + ht g
  | .nil, _, h => absurd rfl h
  | .cons b .nil, h, _ => by
    simp only [wfs, Bool.and_eq_true] at h
    have := gr_ht_eq g b h.1
    simp only [grs, hts, this]
    omega
  | .cons b (.cons c bs), h, _ => by
    simp only [wfs, Bool.and_eq_true] at h
    have h1 := gr_ht_eq g b h.1
    have h2 := grs_ht_eq g (.cons c bs) (by simp [wfs, h.2.1, h.2.2]) (by simp [Bus.l])
    have e1 : hts (grs g (.cons b (.cons c bs))) = max (ht (gr g b)) (hts (grs g (.cons c bs))) := rfl
    have e2 : hts (.cons b (.cons c bs)) = max (ht b) (hts (.cons c bs)) := rfl
    rw [e1, e2, h1, h2]
    omega
end
theorem minI_add (c : Int) : ∀ (l : List Int) (x : Int), minI (x + c) (l.map (· + c)) = minI x l + c
  | [], x => rfl
  | y :: l, x => by
    have e : (if y + c < x + c then y + c else x + c) = (if y < x then y else x) + c := by split <;> split <;> omega
    simp only [List.map_cons, minI, e, minI_add c l]
theorem lmI_add (c : Int) {l : List Int} (h : l ≠ []) : lmI (l.map (· + c)) = lmI l + c := by
  cases l with
  | nil => exact absurd rfl h
  | cons x l => exact minI_add c l x
mutual
theorem gr_nr (g : Bu) : ∀ b : Bu, wf b = true → nr (gr g b) = nr b + nr g
  | .tip, _ => by simp [gr, nr]
  | .knot s bs, h => by
    simp only [wf, Bool.and_eq_true, decide_eq_true_eq] at h
    have ne : nrs bs ≠ [] := by
      cases bs with
      | nil => simp [Bus.l] at h
      | cons c cs => simp [nrs]
    have := grs_nr g bs h.2
    simp only [gr, nr, this, lmI_add _ ne]
    omega
theorem grs_nr (g : Bu) : ∀ bs : Bus, wfs bs = true → nrs (grs g bs) = (nrs bs).map (· + nr g)
  | .nil, _ => rfl
  | .cons b bs, h => by
    simp only [wfs, Bool.and_eq_true] at h
    simp [grs, nrs, gr_nr g b h.1, grs_nr g bs h.2]
end
mutual
theorem gr_assoc (x y : Bu) : ∀ b : Bu, gr y (gr x b) = gr (gr y x) b
  | .tip => rfl
  | .knot s bs => by simp only [gr, grs_assoc x y bs]
theorem grs_assoc (x y : Bu) : ∀ bs : Bus, grs y (grs x bs) = grs (gr y x) bs
  | .nil => rfl
  | .cons b bs => by simp only [grs, gr_assoc x y b, grs_assoc x y bs]
end
mutual
theorem gr_tip : ∀ b : Bu, gr .tip b = b
  | .tip => rfl
  | .knot s bs => by simp only [gr, grs_tip bs]
theorem grs_tip : ∀ bs : Bus, grs .tip bs = bs
  | .nil => rfl
  | .cons b bs => by simp only [grs, gr_tip b, grs_tip bs]
end
theorem gr_own {c b : Bu} (w : wf b = true) (h : gr c b = c) (hc : 1 ≤ kn c) : b = .tip := by
  cases b with
  | tip => rfl
  | knot s bs =>
    exfalso
    have h1 := congrArg kn h
    rw [gr_kn] at h1
    have h2 := tp_pos _ w
    have h3 : kn c ≤ tp (.knot s bs) * kn c := Nat.le_mul_of_pos_left _ h2
    have h4 : 1 ≤ kn (.knot s bs) := by simp only [kn]; omega
    omega
mutual
theorem gr_inj {c : Bu} (hc : 1 ≤ kn c) : ∀ (a b : Bu), wf a = true → wf b = true → gr c a = gr c b → a = b
  | .tip, b, _, wb, h => (gr_own wb h.symm hc).symm
  | .knot s bs, .tip, wa, _, h => gr_own wa h hc
  | .knot s bs, .knot s' bs', wa, wb, h => by
    simp only [gr, Bu.knot.injEq] at h
    simp only [wf, Bool.and_eq_true] at wa wb
    rw [h.1, grs_inj hc bs bs' wa.2 wb.2 h.2]
theorem grs_inj {c : Bu} (hc : 1 ≤ kn c) : ∀ (a b : Bus), wfs a = true → wfs b = true → grs c a = grs c b → a = b
  | .nil, .nil, _, _, _ => rfl
  | .nil, .cons _ _, _, _, h => by simp [grs] at h
  | .cons _ _, .nil, _, _, h => by simp [grs] at h
  | .cons a as, .cons b bs, wa, wb, h => by
    simp only [grs, Bus.cons.injEq] at h
    simp only [wfs, Bool.and_eq_true] at wa wb
    rw [gr_inj hc a b wa.1 wb.1 h.1, grs_inj hc as bs wa.2 wb.2 h.2]
end
theorem gr_cancel {c a b : Bu} (wa : wf a = true) (wb : wf b = true) : gr c a = gr c b ↔ a = b := by
  constructor
  · intro h
    cases c with
    | tip => rwa [gr_tip, gr_tip] at h
    | knot s bs => exact gr_inj (by simp only [kn]; omega) a b wa wb h
  · intro h; rw [h]
mutual
theorem gr_injg {x y : Bu} : ∀ c : Bu, wf c = true → gr x c = gr y c → x = y
  | .tip, _, h => h
  | .knot s bs, w, h => by
    simp only [wf, Bool.and_eq_true, decide_eq_true_eq] at w
    simp only [gr, Bu.knot.injEq, true_and] at h
    exact grs_injg bs w.2 (fun e => by rw [e] at w; simp at w) h
theorem grs_injg {x y : Bu} : ∀ bs : Bus, wfs bs = true → bs.l ≠ [] → grs x bs = grs y bs → x = y
  | .nil, _, h, _ => absurd rfl h
  | .cons b bs, w, _, h => by
    simp only [wfs, Bool.and_eq_true] at w
    simp only [grs, Bus.cons.injEq] at h
    exact gr_injg b w.1 h.1
end
mutual
theorem eqv_iff : ∀ a b : Bu, PyData.eqv (enc a) (enc b) = true ↔ a = b
  | .tip, .tip => by simp [enc, PyData.eqv, PyData.eqvAll]
  | .tip, .knot s bs => by simp [enc, PyData.eqv, PyData.eqvAll]
  | .knot s bs, .tip => by simp [enc, PyData.eqv, PyData.eqvAll]
  | .knot s bs, .knot s' bs' => by
    have := eqvs_iff bs bs'
    simp only [enc, PyData.eqv, PyData.eqvAll, Bool.and_eq_true, this, Bu.knot.injEq]
    simp
theorem eqvs_iff : ∀ a b : Bus, PyData.eqvAll (encs a) (encs b) = true ↔ a = b
  | .nil, .nil => by simp [encs, PyData.eqvAll]
  | .nil, .cons b bs => by simp [encs, PyData.eqvAll]
  | .cons b bs, .nil => by simp [encs, PyData.eqvAll]
  | .cons a as, .cons b bs => by
    simp only [encs, PyData.eqvAll, Bool.and_eq_true, eqv_iff a b, eqvs_iff as bs, Bus.cons.injEq]
end
theorem eqv_bool {a b c d : Bu} (h : a = b ↔ c = d) : PyData.eqv (enc a) (enc b) = PyData.eqv (enc c) (enc d) := by
  rw [Bool.eq_iff_iff, eqv_iff, eqv_iff]
  exact h
/-! numbers of the bush of a row -/
theorem fold_gr : ∀ (gs : List Bu) (p : List Bu × Bu), (∀ g ∈ gs, wf g = true) → wf p.2 = true → mof (gs.foldl ystep p).2 = gs.foldl mstep (mof p.2) ∧ nr (gs.foldl ystep p).2 = nr p.2 + (gs.map nr).sum ∧ wf (gs.foldl ystep p).2 = true
  | [], p, _, wp => ⟨rfl, by simp, wp⟩
  | g :: gs, p, w, wp => by
    have wg := w g (List.mem_cons_self ..)
    obtain ⟨h1, h2, h3⟩ := fold_gr gs (ystep p g) (fun x hx => w x (List.mem_cons_of_mem _ hx)) (gr_wf g wg p.2 wp)
    have e : mof (ystep p g).2 = mstep (mof p.2) g := by simp [ystep, mof, mstep, gr_kn, gr_tp, gr_ht_eq g p.2 wp]
    refine ⟨?_, ?_, h3⟩
    · rw [List.foldl_cons, h1, e]; rfl
    · rw [List.foldl_cons, h2]
      simp only [ystep, gr_nr g p.2 wp, List.map_cons, List.sum_cons]
      omega
theorem NR_fold : ∀ (gs : List Bu) (n : Int), (∀ g ∈ gs, wf g = true) → gs.foldl (fun n g => n + mn g) n = n + (gs.map nr).sum
  | [], n, _ => by simp
  | g :: gs, n, w => by
    have := NR_fold gs (n + mn g) fun x hx => w x (List.mem_cons_of_mem _ hx)
    rw [List.foldl_cons, this, mn_nr (w g (List.mem_cons_self ..))]
    simp only [List.map_cons, List.sum_cons]
    omega
theorem NR_sum {gs : List Bu} (w : ∀ g ∈ gs, wf g = true) : NR gs = (gs.map nr).sum := by
  have := NR_fold gs 0 w
  simpa [NR] using this
theorem nr_sum_bound : ∀ {gs : List Bu}, (∀ g ∈ gs, wf g = true) → 0 ≤ (gs.map nr).sum ∧ (gs.map nr).sum ≤ ((gs.map ht).sum : Nat)
  | [], _ => by simp
  | g :: gs, w => by
    have h1 := nr_bound (w g (List.mem_cons_self ..))
    have h2 := nr_sum_bound (gs := gs) fun x hx => w x (List.mem_cons_of_mem _ hx)
    simp only [List.map_cons, List.sum_cons]
    omega
theorem F3_ht (gs : List Bu) : (F3 gs).2.2 = (gs.map ht).sum := by
  have := fold_ht gs (mof .tip)
  simp only [F3]
  rw [this]
  simp [mof, ht]
end TW
end

section
namespace TW
open PySem
/-! ### counts of rows -/
theorem needg2_ok (gs : List Bu) (h : ∀ g ∈ gs, Sm g) (hn : gs.length ≤ 12) (W k : Nat) (hW : 500 ≤ W) (hk : 6 < k) : callK FsT W k 47 [.d (.tuple (gs.map enc))] = some (.d .none, [.d (.tuple (gs.map enc))]) := by
  obtain ⟨j, rfl⟩ : ∃ j, k = j + 1 := ⟨k - 1, by omega⟩
  have h46 : callK FsT W j 46 [.d (.tuple (gs.map enc))] = some (.d (.bool true), [.d (.tuple (gs.map enc))]) := by
    obtain ⟨i, rfl⟩ : ∃ i, j = i + 1 := ⟨j - 1, by omega⟩
    have h6 := ev6 W i (by omega) (gs.map enc) 0 12
    have d6 : decide ((0 : Int) ≤ ((gs.map enc).length : Nat) ∧ (((gs.map enc).length : Nat) : Int) ≤ 12) = true := by
      apply decide_eq_true
      simp
      omega
    rw [d6] at h6
    have hlc := lc_map (σ := [some (.d (.tuple (gs.map enc))), none]) (i := 1) (l := gs) (e := enc) (g := fun _ => .bool true) (fe := calF (callK FsT W i) 9 [false] (consA (varF 1) nilA)) (it := seqF (varF 0))
      (by simp) (by simp [isOwn]) (by simp [callK, evS, evE, evA, evO, evI, seqS, retF, asgF, asgPF, asgMF, stiF, expF, iteF, forF, andF, orF, notF, ifeF, bltF, consA, nilA, varF, litF, tupF, lstF, dicF, binF, negF, cmpF, cmp2F, idxF, slcF, calF, mtwF, sclF, noO, someO, rngF, seqF, toB, toI, vws, vw, view, dview, frz, frzs, keep1, keeps, put, puts, prep1, prep, lend, giveBack, updR, isAl, isOl, isOwn, bindT, bindTs, fin, outs, outs1, bltR, isiR, tyN, lenR, absR, intR, lstR, valsR, tuplR, cmpR, idxR, slcR, binR, isNoneD]) (Nat.le_trans hn (by decide)) fun b hb => by
        have s := h b hb
        have := fits_ok b s.w s.h s.c W i hW (by omega)
        simp [callK, evS, evE, evA, evO, evI, seqS, retF, asgF, asgPF, asgMF, stiF, expF, iteF, forF, andF, orF, notF, ifeF, bltF, consA, nilA, varF, litF, tupF, lstF, dicF, binF, negF, cmpF, cmp2F, idxF, slcF, calF, mtwF, sclF, noO, someO, rngF, seqF, toB, toI, vws, vw, view, dview, frz, frzs, keep1, keeps, put, puts, prep1, prep, lend, giveBack, updR, isAl, isOl, isOwn, bindT, bindTs, fin, outs, outs1, bltR, isiR, tyN, lenR, absR, intR, lstR, valsR, tuplR, cmpR, idxR, slcR, binR, isNoneD, this]
    simp only [List.map_const'] at hlc
    have bl := boolL_true gs
    simp only [List.map_const'] at bl
    simp [FsT, f46, b46, callK, evS, evE, evA, evO, evI, seqS, retF, asgF, asgPF, asgMF, stiF, expF, iteF, forF, andF, orF, notF, ifeF, bltF, consA, nilA, varF, litF, tupF, lstF, dicF, binF, negF, cmpF, cmp2F, idxF, slcF, calF, mtwF, sclF, noO, someO, rngF, seqF, toB, toI, vws, vw, view, dview, frz, frzs, keep1, keeps, put, puts, prep1, prep, lend, giveBack, updR, isAl, isOl, isOwn, bindT, bindTs, fin, outs, outs1, bltR, isiR, tyN, lenR, absR, intR, lstR, valsR, tuplR, cmpR, idxR, slcR, binR, isNoneD, h6, hlc, allR, bl]
  simp [FsT, f47, b47, callK, evS, evE, evA, evO, evI, seqS, retF, asgF, asgPF, asgMF, stiF, expF, iteF, forF, andF, orF, notF, ifeF, bltF, consA, nilA, varF, litF, tupF, lstF, dicF, binF, negF, cmpF, cmp2F, idxF, slcF, calF, mtwF, sclF, noO, someO, rngF, seqF, toB, toI, vws, vw, view, dview, frz, frzs, keep1, keeps, put, puts, prep1, prep, lend, giveBack, updR, isAl, isOl, isOwn, bindT, bindTs, fin, outs, outs1, bltR, isiR, tyN, lenR, absR, intR, lstR, valsR, tuplR, cmpR, idxR, slcR, binR, isNoneD, h46]
theorem mon2_ok (m : M3) (g : Bu) (hw : wf g = true) (hg : cnt g ≤ 5000) (W k : Nat) (hk : ht g + 2 < k) : callK FsT W k 29 [.d (encM m), .d (enc g)] = some (.d (encM (mstep m g)), [.d (encM m), .d (enc g)]) := by
  obtain ⟨j, rfl⟩ : ∃ j, k = j + 1 := ⟨k - 1, by omega⟩
  have h1 := mof_ok g hw W j (by omega)
  obtain ⟨a, b, c⟩ := m
  simp only [cnt] at hg
  have q1 := mulOk_nat2 (a := b) (b := kn g) (by omega)
  have q2 := mulOk_nat2 (a := b) (b := tp g) (by omega)
  simp [FsT, f29, b29, callK, evS, evE, evA, evO, evI, seqS, retF, asgF, asgPF, asgMF, stiF, expF, iteF, forF, andF, orF, notF, ifeF, bltF, consA, nilA, varF, litF, tupF, lstF, dicF, binF, negF, cmpF, cmp2F, idxF, slcF, calF, mtwF, sclF, noO, someO, rngF, seqF, toB, toI, vws, vw, view, dview, frz, frzs, keep1, keeps, put, puts, prep1, prep, lend, giveBack, updR, isAl, isOl, isOwn, bindT, bindTs, fin, outs, outs1, bltR, isiR, tyN, lenR, absR, intR, lstR, valsR, tuplR, cmpR, idxR, slcR, binR, isNoneD, h1, encM, mof, mstep, LIM, q1, q2]
theorem meas_ok (gs : List Bu) (h : ∀ g ∈ gs, Sm g) (W k : Nat) (hk : 70 < k) : callK FsT W k 1014 [.d (.tuple (gs.map enc))] = some (.d (encM (F3 gs)), [.d (.tuple (gs.map enc))]) := by
  obtain ⟨j, rfl⟩ : ∃ j, k = j + 1 := ⟨k - 1, by omega⟩
  have h0 := mof_ok .tip rfl W j (by simp [ht]; omega)
  have e0 : enc .tip = .tuple [] := rfl
  rw [e0] at h0
  have hf := for_fold (e := enc) (E := fun m x => [some (.d (.tuple (gs.map enc))), some (.d (encM m)), x]) (step := mstep) (i := 2)
    (body := evS (callK FsT W j) W (match b1014 with
      | .cons _ (.cons (.for _ _ b) _) => b
      | _ => .nil))
    (P := fun _ l => ∀ g ∈ l, Sm g) (fun m g l x hx hp => by
      have s := hp g (List.mem_cons_self ..)
      have c := mon2_ok m g s.w (by have := s.c; omega) W j (by have := s.h; omega)
      refine ⟨rfl, rfl, ?_, fun y hy => hp y (List.mem_cons_of_mem _ hy)⟩
      simp only [b1014]
      simp [callK, evS, evE, evA, evO, evI, seqS, retF, asgF, asgPF, asgMF, stiF, expF, iteF, forF, andF, orF, notF, ifeF, bltF, consA, nilA, varF, litF, tupF, lstF, dicF, binF, negF, cmpF, cmp2F, idxF, slcF, calF, mtwF, sclF, noO, someO, rngF, seqF, toB, toI, vws, vw, view, dview, frz, frzs, keep1, keeps, put, puts, prep1, prep, lend, giveBack, updR, isAl, isOl, isOwn, bindT, bindTs, fin, outs, outs1, bltR, isiR, tyN, lenR, absR, intR, lstR, valsR, tuplR, cmpR, idxR, slcR, binR, isNoneD, c]) gs (mof .tip) none rfl h
  obtain ⟨x, hx, _⟩ := hf
  have e1 : evS (callK FsT W j) W b1014 [some (.d (.tuple (gs.map enc))), none, none] = some (.ret (.d (encM (F3 gs))), [some (.d (.tuple (gs.map enc))), some (.d (encM (F3 gs))), x]) := by
    simp only [b1014] at hx
    unfold b1014
    refine evS_cons.trans ((seq_nx (σ1 := [some (.d (.tuple (gs.map enc))), some (.d (encM (mof .tip))), none]) ?_).trans ?_)
    · simp [callK, evS, evE, evA, evO, evI, seqS, retF, asgF, asgPF, asgMF, stiF, expF, iteF, forF, andF, orF, notF, ifeF, bltF, consA, nilA, varF, litF, tupF, lstF, dicF, binF, negF, cmpF, cmp2F, idxF, slcF, calF, mtwF, sclF, noO, someO, rngF, seqF, toB, toI, vws, vw, view, dview, frz, frzs, keep1, keeps, put, puts, prep1, prep, lend, giveBack, updR, isAl, isOl, isOwn, bindT, bindTs, fin, outs, outs1, bltR, isiR, tyN, lenR, absR, intR, lstR, valsR, tuplR, cmpR, idxR, slcR, binR, isNoneD, LIM, h0]
    refine evS_cons.trans ((seq_nx (σ1 := [some (.d (.tuple (gs.map enc))), some (.d (encM (F3 gs))), x]) ?_).trans ?_)
    · exact (evS_for (xs := gs.map enc) (σ1 := [some (.d (.tuple (gs.map enc))), some (.d (encM (mof .tip))), none]) (by simp [callK, evS, evE, evA, evO, evI, seqS, retF, asgF, asgPF, asgMF, stiF, expF, iteF, forF, andF, orF, notF, ifeF, bltF, consA, nilA, varF, litF, tupF, lstF, dicF, binF, negF, cmpF, cmp2F, idxF, slcF, calF, mtwF, sclF, noO, someO, rngF, seqF, toB, toI, vws, vw, view, dview, frz, frzs, keep1, keeps, put, puts, prep1, prep, lend, giveBack, updR, isAl, isOl, isOwn, bindT, bindTs, fin, outs, outs1, bltR, isiR, tyN, lenR, absR, intR, lstR, valsR, tuplR, cmpR, idxR, slcR, binR, isNoneD])).trans hx
    · rw [evS_cons]
      simp [callK, evS, evE, evA, evO, evI, seqS, retF, asgF, asgPF, asgMF, stiF, expF, iteF, forF, andF, orF, notF, ifeF, bltF, consA, nilA, varF, litF, tupF, lstF, dicF, binF, negF, cmpF, cmp2F, idxF, slcF, calF, mtwF, sclF, noO, someO, rngF, seqF, toB, toI, vws, vw, view, dview, frz, frzs, keep1, keeps, put, puts, prep1, prep, lend, giveBack, updR, isAl, isOl, isOwn, bindT, bindTs, fin, outs, outs1, bltR, isiR, tyN, lenR, absR, intR, lstR, valsR, tuplR, cmpR, idxR, slcR, binR, isNoneD]
  rw [call_ret (fd := f1014) rfl rfl e1 rfl, outs_d1]
def canB (gs : List Bu) : Bool := decide ((((F3 gs).1 : Nat) : Int) + ((F3 gs).2.1 : Nat) ≤ 400) && decide ((((F3 gs).2.2 : Nat) : Int) ≤ 60)
theorem can_ok (gs : List Bu) (h : ∀ g ∈ gs, Sm g) (hn : gs.length ≤ 12) (W k : Nat) (hW : 500 ≤ W) (hk : 80 < k) : callK FsT W k 1015 [.d (.tuple (gs.map enc))] = some (.d (.bool (canB gs)), [.d (.tuple (gs.map enc))]) := by
  obtain ⟨j, rfl⟩ : ∃ j, k = j + 1 := ⟨k - 1, by omega⟩
  have h1 := needg2_ok gs h hn W j hW (by omega)
  have h2 := meas_ok gs h W j (by omega)
  obtain ⟨⟨K, T, H⟩, hm⟩ : ∃ m, F3 gs = m := ⟨_, rfl⟩
  unfold canB
  rw [hm] at h2 ⊢
  simp only [encM] at h2
  generalize gs.map enc = G at *
  by_cases h3 : ((K : Nat) : Int) + (T : Nat) ≤ 400
  · simp [FsT, f1015, b1015, callK, evS, evE, evA, evO, evI, seqS, retF, asgF, asgPF, asgMF, stiF, expF, iteF, forF, andF, orF, notF, ifeF, bltF, consA, nilA, varF, litF, tupF, lstF, dicF, binF, negF, cmpF, cmp2F, idxF, slcF, calF, mtwF, sclF, noO, someO, rngF, seqF, toB, toI, vws, vw, view, dview, frz, frzs, keep1, keeps, put, puts, prep1, prep, lend, giveBack, updR, isAl, isOl, isOwn, bindT, bindTs, fin, outs, outs1, bltR, isiR, tyN, lenR, absR, intR, lstR, valsR, tuplR, cmpR, idxR, slcR, binR, isNoneD, h1, h2, h3]
  · simp [FsT, f1015, b1015, callK, evS, evE, evA, evO, evI, seqS, retF, asgF, asgPF, asgMF, stiF, expF, iteF, forF, andF, orF, notF, ifeF, bltF, consA, nilA, varF, litF, tupF, lstF, dicF, binF, negF, cmpF, cmp2F, idxF, slcF, calF, mtwF, sclF, noO, someO, rngF, seqF, toB, toI, vws, vw, view, dview, frz, frzs, keep1, keeps, put, puts, prep1, prep, lend, giveBack, updR, isAl, isOl, isOwn, bindT, bindTs, fin, outs, outs1, bltR, isiR, tyN, lenR, absR, intR, lstR, valsR, tuplR, cmpR, idxR, slcR, binR, isNoneD, h1, h2, h3]
def dueR (gs : List Bu) : List D := [.int (F3 gs).1, .int (F3 gs).2.1, .int (NR gs), .int (F3 gs).2.2]
theorem rc_ok (gs : List Bu) (h : ∀ g ∈ gs, Sm g) (hn : gs.length ≤ 12) (W k : Nat) (hW : 500 ≤ W) (hk : 80 < k) : callK FsT W k 1016 [.d (.tuple (gs.map enc))] = some (.d (.tuple (dueR gs)), [.d (.tuple (gs.map enc))]) := by
  obtain ⟨j, rfl⟩ : ∃ j, k = j + 1 := ⟨k - 1, by omega⟩
  have h1 := needg2_ok gs h hn W j hW (by omega)
  have h2 := meas_ok gs h W j (by omega)
  have hr := NR_sum (gs := gs) fun g hg => (h g hg).w
  have hlc := fun (a b c : Option Rv) => lc_map (σ := [some (.d (.tuple (gs.map enc))), a, b, c, none]) (i := 4) (l := gs) (e := enc) (g := fun b => .int (nr b)) (fe := calF (callK FsT W j) 1004 [false] (consA (varF 4) nilA)) (it := seqF (varF 0))
    (by simp) (by simp [isOwn]) (by simp [callK, evS, evE, evA, evO, evI, seqS, retF, asgF, asgPF, asgMF, stiF, expF, iteF, forF, andF, orF, notF, ifeF, bltF, consA, nilA, varF, litF, tupF, lstF, dicF, binF, negF, cmpF, cmp2F, idxF, slcF, calF, mtwF, sclF, noO, someO, rngF, seqF, toB, toI, vws, vw, view, dview, frz, frzs, keep1, keeps, put, puts, prep1, prep, lend, giveBack, updR, isAl, isOl, isOwn, bindT, bindTs, fin, outs, outs1, bltR, isiR, tyN, lenR, absR, intR, lstR, valsR, tuplR, cmpR, idxR, slcR, binR, isNoneD]) (Nat.le_trans hn (by decide)) fun b hb => by
      have s := h b hb
      have := near_ok b s.w W j (by have := s.h; omega)
      simp [callK, evS, evE, evA, evO, evI, seqS, retF, asgF, asgPF, asgMF, stiF, expF, iteF, forF, andF, orF, notF, ifeF, bltF, consA, nilA, varF, litF, tupF, lstF, dicF, binF, negF, cmpF, cmp2F, idxF, slcF, calF, mtwF, sclF, noO, someO, rngF, seqF, toB, toI, vws, vw, view, dview, frz, frzs, keep1, keeps, put, puts, prep1, prep, lend, giveBack, updR, isAl, isOl, isOwn, bindT, bindTs, fin, outs, outs1, bltR, isiR, tyN, lenR, absR, intR, lstR, valsR, tuplR, cmpR, idxR, slcR, binR, isNoneD, this]
  have si : intL (gs.map fun b => PyData.int (nr b)) = some (gs.map nr) := intL_map _ _
  obtain ⟨⟨K, T, H⟩, hm⟩ : ∃ m, F3 gs = m := ⟨_, rfl⟩
  unfold dueR
  rw [hr, hm]
  rw [hm] at h2
  simp only [encM] at h2
  generalize gs.map enc = G at *
  generalize gs.map (fun b => PyData.int (nr b)) = N at *
  have l4 : 4 ≤ LIM := by decide
  simp [FsT, f1016, b1016, callK, evS, evE, evA, evO, evI, seqS, retF, asgF, asgPF, asgMF, stiF, expF, iteF, forF, andF, orF, notF, ifeF, bltF, consA, nilA, varF, litF, tupF, lstF, dicF, binF, negF, cmpF, cmp2F, idxF, slcF, calF, mtwF, sclF, noO, someO, rngF, seqF, toB, toI, vws, vw, view, dview, frz, frzs, keep1, keeps, put, puts, prep1, prep, lend, giveBack, updR, isAl, isOl, isOwn, bindT, bindTs, fin, outs, outs1, bltR, isiR, tyN, lenR, absR, intR, lstR, valsR, tuplR, cmpR, idxR, slcR, binR, isNoneD, h1, h2, hlc, sumR, si, l4]
theorem log_big {n : Nat} (h : n ≤ 1000000000000) : (n : Int).natAbs.log2 < 1920 := by
  rw [Int.natAbs_natCast]
  by_cases h0 : n = 0
  · subst h0; decide
  · exact (Nat.log2_lt h0 (k := 1920)).mpr (Nat.lt_of_le_of_lt h (Nat.lt_of_lt_of_le (by decide : 1000000000000 < 2 ^ 40) (Nat.pow_le_pow_right (by omega) (by omega))))
theorem bool_rep (b : Bool) : repOk (.bool b) = true := by
  cases b <;> decide +kernel
/-- a row whose counts can be told -/
structure Tl (gs : List Bu) : Prop where
  g : ∀ g ∈ gs, Sm g
  n : gs.length ≤ 12
  b : (F3 gs).1 + (F3 gs).2.1 ≤ 1000000000
theorem sum_le {n : Nat} : ∀ l : List Nat, (∀ x ∈ l, x ≤ n) → l.sum ≤ n * l.length
  | [], _ => by simp
  | a :: l, h => by
    have h1 := h a (List.mem_cons_self ..)
    have h2 := sum_le l fun x hx => h x (List.mem_cons_of_mem _ hx)
    simp only [List.sum_cons, List.length_cons, Nat.mul_add]
    omega
theorem Tl.hts {gs : List Bu} (t : Tl gs) : (F3 gs).2.2 ≤ 720 := by
  rw [F3_ht]
  have := sum_le (n := 60) (gs.map ht) fun x hx => by
    obtain ⟨g, hg, rfl⟩ := List.mem_map.mp hx
    exact (t.g g hg).h
  have := t.n
  simp at *
  omega
theorem dueR_rep (gs : List Bu) (t : Tl gs) : repOk (.tuple (dueR gs)) = true := by
  have tb := t.b
  have th := t.hts
  have w : ∀ g ∈ gs, wf g = true := fun g hg => (t.g g hg).w
  have nb := nr_sum_bound w
  rw [← F3_ht, ← NR_sum w] at nb
  obtain ⟨v, hv⟩ := Int.eq_ofNat_of_zero_le nb.1
  have := sh_tuple (n := 1921) (m := 0) (xs := dueR gs) fun x hx => by
    simp only [dueR, List.mem_cons, List.not_mem_nil, or_false] at hx
    rcases hx with rfl | rfl | rfl | rfl
    · exact sh_int (log_big (by omega))
    · exact sh_int (log_big (by omega))
    · rw [hv]; exact sh_int (log_big (by omega))
    · exact sh_int (log_big (by omega))
  exact this.rep (by simp [dueR]) (by omega)
theorem sz_sm {gs : List Bu} (h : ∀ g ∈ gs, Sm g) : ∀ g ∈ gs, wf g = true ∧ ht g ≤ 1000 ∧ cnt g ≤ 5000 := fun g hg => by
  have s := h g hg
  have h1 := s.h
  have h2 := s.c
  exact ⟨s.w, by omega, by omega⟩
theorem right11_ok (gs : List Bu) (t : Tl gs) (W k : Nat) (hW : 6000 ≤ W) (hk : 100 < k) : callK FsT W k 1017 [.d (.tuple (gs.map enc))] = some (.d (.bool true), [.d (.tuple (gs.map enc))]) := by
  obtain ⟨j, rfl⟩ : ∃ j, k = j + 1 := ⟨k - 1, by omega⟩
  have h1 := sizes_ok gs (sz_sm t.g) W j hW (by omega)
  have h2 := rc_ok gs t.g t.n W j (by omega) (by omega)
  have h3 := can_ok gs t.g t.n W j (by omega) (by omega)
  have r1 := dueR_rep gs t
  have r2 := bool_rep
  have e0 : ∀ x y : Str, dpt (.str x) (.str y) = true := fun x y => by simp [dpt, PyData.depth]
  have e1 : ∀ x : Str, PyData.eqv (.str x) (.str x) = true := fun x => by simp [PyData.eqv]
  have a0 : ∀ a b c d : D, L2.atI [a, b, c, d] 0 = some a := fun a b c d => by simp [L2.atI, L2.ixN]
  have a1 : ∀ a b c d : D, L2.atI [a, b, c, d] 1 = some b := fun a b c d => by simp [L2.atI, L2.ixN]
  have a3 : ∀ a b c d : D, L2.atI [a, b, c, d] 3 = some d := fun a b c d => by simp [L2.atI, L2.ixN]
  have fit : (((F3 gs).1 : Nat) : Int) + ((F3 gs).2.1 : Nat) ≤ 150 → (((F3 gs).2.2 : Nat) : Int) ≤ 60 → Fit .tip gs := fun p q => by
    refine ⟨rfl, fun g hg => (t.g g hg).w, t.n, ?_, ?_⟩
    · show (F3 gs).1 + (F3 gs).2.1 ≤ 400
      omega
    · rw [F3_ht] at q
      simp only [ht]
      omega
  have nums := fold_gr gs ([], .tip) (fun g hg => (t.g g hg).w) rfl
  have hN : NR gs = nr (years .tip gs).2 := by
    rw [NR_sum fun g hg => (t.g g hg).w]
    have := nums.2.1
    simp only [nr] at this
    show _ = nr (gs.foldl ystep ([], .tip)).2
    omega
  have hM : mof (years .tip gs).2 = F3 gs := nums.1
  have hw : wf (years .tip gs).2 = true := nums.2.2
  unfold canB at h3
  unfold dueR at h2 r1
  have b1 := fun f => bush_of_ok gs f W j (by omega) (by omega)
  generalize hb : (years .tip gs).2 = b at *
  generalize hG : gs.map enc = G at *
  obtain ⟨⟨K, T, H⟩, hm⟩ : ∃ m, F3 gs = m := ⟨_, rfl⟩
  rw [hm] at h1 h2 h3 r1 fit hM
  generalize NR gs = N at *
  simp only at h1 h2 h3 r1 fit
  by_cases p : ((K : Nat) : Int) + (T : Nat) ≤ 150
  · have p' : ¬ (150 : Int) < (K : Nat) + (T : Nat) := by omega
    have p4 : ((K : Nat) : Int) + (T : Nat) ≤ 400 := by omega
    by_cases q : ((H : Nat) : Int) ≤ 60
    · have q' : ¬ (60 : Int) < (H : Nat) := by omega
      have f := fit p q
      have c1 := b1 f
      simp only [mof, Prod.mk.injEq] at hM
      obtain ⟨m1, m2, m3⟩ := hM
      have sb : Sm b := ⟨hw, by omega, by simp only [cnt]; omega⟩
      have k1 := knots_of_ok b sb W j hW (by omega)
      have k2 := tips_of_ok b sb W j hW (by omega)
      have k3 := near_of_ok b sb W j hW (by omega)
      have k4 := height_of_ok b sb W j hW (by omega)
      rw [m1] at k1
      rw [m2] at k2
      rw [← hN] at k3
      rw [m3] at k4
      have ev : PyData.eqv (.tuple [.int (K : Nat), .int (T : Nat), .int N, .int (H : Nat)]) (.tuple [.int (K : Nat), .int (T : Nat), .int N, .int (H : Nat)]) = true := by simp [PyData.eqv, PyData.eqvAll]
      have dp : dpt (.tuple [.int (K : Nat), .int (T : Nat), .int N, .int (H : Nat)]) (.tuple [.int (K : Nat), .int (T : Nat), .int N, .int (H : Nat)]) = true := by simp [dpt, PyData.depth, PyData.depthAll]
      have l4 : 4 ≤ LIM := by decide
      simp [p4, q] at h3
      simp [FsT, f1017, b1017, callK, evS, evE, evA, evO, evI, seqS, retF, asgF, asgPF, asgMF, stiF, expF, iteF, forF, andF, orF, notF, ifeF, bltF, consA, nilA, varF, litF, tupF, lstF, dicF, binF, negF, cmpF, cmp2F, idxF, slcF, calF, mtwF, sclF, noO, someO, rngF, seqF, toB, toI, vws, vw, view, dview, frz, frzs, keep1, keeps, put, puts, prep1, prep, lend, giveBack, updR, isAl, isOl, isOwn, bindT, bindTs, fin, outs, outs1, bltR, isiR, tyN, lenR, absR, intR, lstR, valsR, tuplR, cmpR, idxR, slcR, binR, isNoneD, h1, h2, h3, r1, r2, repR, e0, e1, a0, a1, a3, p4, p', q, q', c1, k1, k2, k3, k4, ev, dp, l4]
    · have q' : (60 : Int) < (H : Nat) := by omega
      simp [p4, q] at h3
      simp [FsT, f1017, b1017, callK, evS, evE, evA, evO, evI, seqS, retF, asgF, asgPF, asgMF, stiF, expF, iteF, forF, andF, orF, notF, ifeF, bltF, consA, nilA, varF, litF, tupF, lstF, dicF, binF, negF, cmpF, cmp2F, idxF, slcF, calF, mtwF, sclF, noO, someO, rngF, seqF, toB, toI, vws, vw, view, dview, frz, frzs, keep1, keeps, put, puts, prep1, prep, lend, giveBack, updR, isAl, isOl, isOwn, bindT, bindTs, fin, outs, outs1, bltR, isiR, tyN, lenR, absR, intR, lstR, valsR, tuplR, cmpR, idxR, slcR, binR, isNoneD, h1, h2, h3, r1, r2, repR, e0, e1, a0, a1, a3, p4, p', q, q']
  · have p' : (150 : Int) < (K : Nat) + (T : Nat) := by omega
    by_cases p4 : ((K : Nat) : Int) + (T : Nat) ≤ 400
    · by_cases q : ((H : Nat) : Int) ≤ 60
      · simp [p4, q] at h3
        simp [FsT, f1017, b1017, callK, evS, evE, evA, evO, evI, seqS, retF, asgF, asgPF, asgMF, stiF, expF, iteF, forF, andF, orF, notF, ifeF, bltF, consA, nilA, varF, litF, tupF, lstF, dicF, binF, negF, cmpF, cmp2F, idxF, slcF, calF, mtwF, sclF, noO, someO, rngF, seqF, toB, toI, vws, vw, view, dview, frz, frzs, keep1, keeps, put, puts, prep1, prep, lend, giveBack, updR, isAl, isOl, isOwn, bindT, bindTs, fin, outs, outs1, bltR, isiR, tyN, lenR, absR, intR, lstR, valsR, tuplR, cmpR, idxR, slcR, binR, isNoneD, h1, h2, h3, r1, r2, repR, e0, e1, a0, a1, a3, p4, p', q]
      · simp [p4, q] at h3
        simp [FsT, f1017, b1017, callK, evS, evE, evA, evO, evI, seqS, retF, asgF, asgPF, asgMF, stiF, expF, iteF, forF, andF, orF, notF, ifeF, bltF, consA, nilA, varF, litF, tupF, lstF, dicF, binF, negF, cmpF, cmp2F, idxF, slcF, calF, mtwF, sclF, noO, someO, rngF, seqF, toB, toI, vws, vw, view, dview, frz, frzs, keep1, keeps, put, puts, prep1, prep, lend, giveBack, updR, isAl, isOl, isOwn, bindT, bindTs, fin, outs, outs1, bltR, isiR, tyN, lenR, absR, intR, lstR, valsR, tuplR, cmpR, idxR, slcR, binR, isNoneD, h1, h2, h3, r1, r2, repR, e0, e1, a0, a1, a3, p4, p', q]
    · simp [p4] at h3
      simp [FsT, f1017, b1017, callK, evS, evE, evA, evO, evI, seqS, retF, asgF, asgPF, asgMF, stiF, expF, iteF, forF, andF, orF, notF, ifeF, bltF, consA, nilA, varF, litF, tupF, lstF, dicF, binF, negF, cmpF, cmp2F, idxF, slcF, calF, mtwF, sclF, noO, someO, rngF, seqF, toB, toI, vws, vw, view, dview, frz, frzs, keep1, keeps, put, puts, prep1, prep, lend, giveBack, updR, isAl, isOl, isOwn, bindT, bindTs, fin, outs, outs1, bltR, isiR, tyN, lenR, absR, intR, lstR, valsR, tuplR, cmpR, idxR, slcR, binR, isNoneD, h1, h2, h3, r1, r2, repR, e0, e1, a0, a1, a3, p4, p']
end TW
end

section
namespace TW
open PySem
theorem lfits_ok (gs : List Bu) (h : ∀ g ∈ gs, Sm g) (W k : Nat) (hW : 6000 ≤ W) (hk : 10 < k) : callK FsT W k 1012 [.d (.tuple (gs.map enc))] = some (.d (.bool (canB gs)), [.d (.tuple (gs.map enc))]) := by
  obtain ⟨j, rfl⟩ : ∃ j, k = j + 1 := ⟨k - 1, by omega⟩
  have h1 := sizes_ok gs (sz_sm h) W j hW (by omega)
  obtain ⟨⟨K, T, H⟩, hm⟩ : ∃ m, F3 gs = m := ⟨_, rfl⟩
  unfold canB
  rw [hm] at h1 ⊢
  simp only at h1 ⊢
  generalize gs.map enc = G at *
  generalize NR gs = N at *
  by_cases h3 : ((K : Nat) : Int) + (T : Nat) ≤ 400
  · simp [FsT, f1012, b1012, callK, evS, evE, evA, evO, evI, seqS, retF, asgF, asgPF, asgMF, stiF, expF, iteF, forF, andF, orF, notF, ifeF, bltF, consA, nilA, varF, litF, tupF, lstF, dicF, binF, negF, cmpF, cmp2F, idxF, slcF, calF, mtwF, sclF, noO, someO, rngF, seqF, toB, toI, vws, vw, view, dview, frz, frzs, keep1, keeps, put, puts, prep1, prep, lend, giveBack, updR, isAl, isOl, isOwn, bindT, bindTs, fin, outs, outs1, bltR, isiR, tyN, lenR, absR, intR, lstR, valsR, tuplR, cmpR, idxR, slcR, binR, isNoneD, h1, h3]
  · simp [FsT, f1012, b1012, callK, evS, evE, evA, evO, evI, seqS, retF, asgF, asgPF, asgMF, stiF, expF, iteF, forF, andF, orF, notF, ifeF, bltF, consA, nilA, varF, litF, tupF, lstF, dicF, binF, negF, cmpF, cmp2F, idxF, slcF, calF, mtwF, sclF, noO, someO, rngF, seqF, toB, toI, vws, vw, view, dview, frz, frzs, keep1, keeps, put, puts, prep1, prep, lend, giveBack, updR, isAl, isOl, isOwn, bindT, bindTs, fin, outs, outs1, bltR, isiR, tyN, lenR, absR, intR, lstR, valsR, tuplR, cmpR, idxR, slcR, binR, isNoneD, h1, h3]
theorem fit_can {b : Bu} {gs : List Bu} (h : canB (b :: gs) = true) (wb : wf b = true) (w : ∀ g ∈ gs, wf g = true) (hn : gs.length ≤ 12) : Fit b gs := by
  unfold canB at h
  simp only [Bool.and_eq_true, decide_eq_true_eq] at h
  obtain ⟨h1, h2⟩ := h
  rw [F3_ht] at h2
  obtain ⟨g1, g2⟩ := fold_12 gs (mstep (mof .tip) b) (mof b) (by simp [mstep, mof, kn, tp]) (by simp [mstep, mof, tp])
  have e : F3 (b :: gs) = gs.foldl mstep (mstep (mof .tip) b) := rfl
  rw [e] at h1
  simp only [List.map_cons, List.sum_cons] at h2
  exact ⟨wb, w, hn, by omega, by omega⟩
theorem fit_pair {a b c : Bu} (wa : wf a = true) (f : Fit a [b, c]) : Fit b [c] ∧ Fit a [gr c b] := by
  have p := f.parts
  have d := f.deep
  have wb := f.wgs b (by simp)
  have wc := f.wgs c (by simp)
  have ta := tp_pos a wa
  simp only [List.foldl_cons, List.foldl_nil, mof, mstep, List.map_cons, List.map_nil, List.sum_cons, List.sum_nil] at p d
  have e : kn a + tp a * kn b + tp a * tp b * kn c + tp a * tp b * tp c = kn a + tp a * (kn b + tp b * kn c + tp b * tp c) := by
    simp only [Nat.mul_add, Nat.mul_assoc, Nat.add_assoc]
  rw [e] at p
  have q : kn b + tp b * kn c + tp b * tp c ≤ tp a * (kn b + tp b * kn c + tp b * tp c) := Nat.le_mul_of_pos_left _ ta
  constructor
  · refine ⟨wb, fun g hg => by simp at hg; rw [hg]; exact wc, by simp, ?_, ?_⟩
    · simp only [List.foldl_cons, List.foldl_nil, mof, mstep]
      omega
    · simp only [List.map_cons, List.map_nil, List.sum_cons, List.sum_nil]
      omega
  · refine ⟨wa, fun g hg => by simp at hg; rw [hg]; exact gr_wf c wc b wb, by simp, ?_, ?_⟩
    · simp only [List.foldl_cons, List.foldl_nil, mof, mstep, gr_kn, gr_tp]
      have e2 : kn a + tp a * (kn b + tp b * kn c) + tp a * (tp b * tp c) = kn a + tp a * (kn b + tp b * kn c + tp b * tp c) := by
        simp only [Nat.mul_add, Nat.add_assoc]
      rw [e2]
      exact p
    · have := gr_ht c b
      simp only [List.map_cons, List.map_nil, List.sum_cons, List.sum_nil]
      omega
def tupE (l : List Bu) : D := .tuple (l.map enc)
theorem grouped_ok (a b c : Bu) (sa : Sm a) (sb : Sm b) (sc : Sm c) (W k : Nat) (hW : 6000 ≤ W) (hk : 100 < k) : callK FsT W k 1013 [.d (enc a), .d (enc b), .d (enc c)] = some (.d (.bool true), [.d (enc a), .d (enc b), .d (enc c)]) := by
  obtain ⟨j, rfl⟩ : ∃ j, k = j + 1 := ⟨k - 1, by omega⟩
  have wa := sa.w
  have wb := sb.w
  have wc := sc.w
  have sm : ∀ l ∈ ([[a, b, c], [a, c], [c, a], [c, b]] : List (List Bu)), ∀ g ∈ l, Sm g := fun l hl g hg => by
    simp only [List.mem_cons, List.not_mem_nil, or_false] at hl
    rcases hl with rfl | rfl | rfl | rfl <;> simp only [List.mem_cons, List.not_mem_nil, or_false] at hg
    · rcases hg with rfl | rfl | rfl <;> assumption
    · rcases hg with rfl | rfl <;> assumption
    · rcases hg with rfl | rfl <;> assumption
    · rcases hg with rfl | rfl <;> assumption
  have l3 : 3 ≤ LIM := by decide
  have l2 : 2 ≤ LIM := by decide
  have l4 : 4 ≤ LIM := by decide
  have l0 : 0 ≤ LIM := by decide
  have lc := lc_pure (σ := [some (.d (enc a)), some (.d (enc b)), some (.d (enc c)), none]) (i := 3) (l := ([[a, b, c], [a, c], [c, a], [c, b]] : List (List Bu))) (e := tupE) (t := fun l => !canB l) (g := tupE)
    (it := seqF (tupF (consA (tupF (consA (varF 0) (consA (varF 1) (consA (varF 2) nilA)))) (consA (tupF (consA (varF 0) (consA (varF 2) nilA))) (consA (tupF (consA (varF 2) (consA (varF 0) nilA))) (consA (tupF (consA (varF 2) (consA (varF 1) nilA))) nilA))))))
    (ft := notF (calF (callK FsT W j) 1012 [false] (consA (varF 3) nilA))) (fe := varF 3) (by simp) (by simp [isOwn]) (by simp [callK, evS, evE, evA, evO, evI, seqS, retF, asgF, asgPF, asgMF, stiF, expF, iteF, forF, andF, orF, notF, ifeF, bltF, consA, nilA, varF, litF, tupF, lstF, dicF, binF, negF, cmpF, cmp2F, idxF, slcF, calF, mtwF, sclF, noO, someO, rngF, seqF, toB, toI, vws, vw, view, dview, frz, frzs, keep1, keeps, put, puts, prep1, prep, lend, giveBack, updR, isAl, isOl, isOwn, bindT, bindTs, fin, outs, outs1, bltR, isiR, tyN, lenR, absR, intR, lstR, valsR, tuplR, cmpR, idxR, slcR, binR, isNoneD, tupE, l2, l3, l4]) (by simp [LIM]) (fun l hl => by
      have := lfits_ok l (sm l hl) W j hW (by omega)
      simp [callK, evS, evE, evA, evO, evI, seqS, retF, asgF, asgPF, asgMF, stiF, expF, iteF, forF, andF, orF, notF, ifeF, bltF, consA, nilA, varF, litF, tupF, lstF, dicF, binF, negF, cmpF, cmp2F, idxF, slcF, calF, mtwF, sclF, noO, someO, rngF, seqF, toB, toI, vws, vw, view, dview, frz, frzs, keep1, keeps, put, puts, prep1, prep, lend, giveBack, updR, isAl, isOl, isOwn, bindT, bindTs, fin, outs, outs1, bltR, isiR, tyN, lenR, absR, intR, lstR, valsR, tuplR, cmpR, idxR, slcR, binR, isNoneD, tupE, this]) (fun l hl _ => by simp [callK, evS, evE, evA, evO, evI, seqS, retF, asgF, asgPF, asgMF, stiF, expF, iteF, forF, andF, orF, notF, ifeF, bltF, consA, nilA, varF, litF, tupF, lstF, dicF, binF, negF, cmpF, cmp2F, idxF, slcF, calF, mtwF, sclF, noO, someO, rngF, seqF, toB, toI, vws, vw, view, dview, frz, frzs, keep1, keeps, put, puts, prep1, prep, lend, giveBack, updR, isAl, isOl, isOwn, bindT, bindTs, fin, outs, outs1, bltR, isiR, tyN, lenR, absR, intR, lstR, valsR, tuplR, cmpR, idxR, slcR, binR, isNoneD, tupE])
  generalize hF : List.map tupE (List.filter (fun l => !canB l) ([[a, b, c], [a, c], [c, a], [c, b]] : List (List Bu))) = F at lc
  have dF : dpt (.list F) (.list []) = true := by
    unfold dpt
    simp [PyData.depth, PyData.depthAll]
  have el : evE (callK FsT W j) (match b1013 with
      | .cons (.ite (.cmp _ l _) _ _) _ => l
      | _ => .nil) [some (.d (enc a)), some (.d (enc b)), some (.d (enc c)), none] = some (.fl F, [some (.d (enc a)), some (.d (enc b)), some (.d (enc c)), none]) := lc
  by_cases hf : F = []
  · have all : ∀ l ∈ ([[a, b, c], [a, c], [c, a], [c, b]] : List (List Bu)), canB l = true := by
      intro l hl
      rw [hf] at hF
      have := List.filter_eq_nil_iff.mp (List.map_eq_nil_iff.mp hF) l hl
      simpa using this
    have f1 : Fit a [b, c] := fit_can (all _ (by simp)) wa (fun g hg => by simp at hg; rcases hg with rfl | rfl <;> assumption) (by simp)
    have f2 : Fit a [c] := fit_can (all _ (by simp)) wa (fun g hg => by simp at hg; rw [hg]; exact wc) (by simp)
    have f3 : Fit c [a] := fit_can (all _ (by simp)) wc (fun g hg => by simp at hg; rw [hg]; exact wa) (by simp)
    have f4 : Fit c [b] := fit_can (all _ (by simp)) wc (fun g hg => by simp at hg; rw [hg]; exact wb) (by simp)
    obtain ⟨f5, f6⟩ := fit_pair wa f1
    have k1 := grown_ok a b f1.one W j (by omega) (by omega)
    have k2 := grown_ok (gr b a) c f1.step W j (by omega) (by omega)
    have k3 := grown_ok b c f5 W j (by omega) (by omega)
    have k4 := grown_ok a (gr c b) f6 W j (by omega) (by omega)
    have k5 := grown_ok a c f2 W j (by omega) (by omega)
    have k6 := grown_ok c a f3 W j (by omega) (by omega)
    have k7 := grown_ok c b f4 W j (by omega) (by omega)
    rw [gr_assoc] at k2
    have v1 := eqv_enc (gr (gr c b) a)
    have v2 : PyData.eqv (enc (gr c a)) (enc (gr c b)) = PyData.eqv (enc a) (enc b) := eqv_bool (gr_cancel wa wb)
    have v3 : PyData.eqv (enc (gr a c)) (enc (gr b c)) = PyData.eqv (enc a) (enc b) := eqv_bool ⟨fun h => gr_injg c wc h, fun h => by rw [h]⟩
    have dp : ∀ x y : Bu, ht x ≤ 100 → dpt (enc x) (enc y) = true := fun x y hx => by
      unfold dpt
      apply decide_eq_true
      have := depth_enc x
      omega
    have da := sa.h
    have d1 : dpt (enc (gr (gr c b) a)) (enc (gr (gr c b) a)) = true := dp _ _ (by have := gr_ht (gr c b) a; have := f6.deep; simp at this; omega)
    have d2 : dpt (enc (gr c a)) (enc (gr c b)) = true := dp _ _ (by have := gr_ht c a; have := f2.deep; simp at this; omega)
    have d3 : dpt (enc (gr a c)) (enc (gr b c)) = true := dp _ _ (by have := gr_ht a c; have := f3.deep; simp at this; omega)
    have d4 : dpt (enc a) (enc b) = true := dp _ _ (by omega)
    have db : ∀ x y : Bool, dpt (.bool x) (.bool y) = true := fun x y => by simp [dpt, PyData.depth]
    have vb : ∀ x : Bool, PyData.eqv (.bool x) (.bool x) = true := fun x => by simp [PyData.eqv]
    have v0 : PyData.eqv (.list []) (.list []) = true := by decide
    subst hf
    have e1 : evS (callK FsT W j) W b1013 [some (.d (enc a)), some (.d (enc b)), some (.d (enc c)), none] = some (.ret (.d (.bool true)), [some (.d (enc a)), some (.d (enc b)), some (.d (enc c)), none]) := by
      simp only [b1013] at el
      unfold b1013
      refine evS_cons.trans ((seq_nx (σ1 := [some (.d (enc a)), some (.d (enc b)), some (.d (enc c)), none]) ?_).trans ?_)
      · simp only [evS, iteF, evE, cmpF] at el ⊢
        rw [el]
        simp [lstF, evA, nilA, frzs, vw, view, cmpR, dF, v0, toB, l0]
      refine evS_cons.trans ((seq_nx (σ1 := [some (.d (enc a)), some (.d (enc b)), some (.d (enc c)), none]) ?_).trans ?_)
      · simp [callK, evS, evE, evA, evO, evI, seqS, retF, asgF, asgPF, asgMF, stiF, expF, iteF, forF, andF, orF, notF, ifeF, bltF, consA, nilA, varF, litF, tupF, lstF, dicF, binF, negF, cmpF, cmp2F, idxF, slcF, calF, mtwF, sclF, noO, someO, rngF, seqF, toB, toI, vws, vw, view, dview, frz, frzs, keep1, keeps, put, puts, prep1, prep, lend, giveBack, updR, isAl, isOl, isOwn, bindT, bindTs, fin, outs, outs1, bltR, isiR, tyN, lenR, absR, intR, lstR, valsR, tuplR, cmpR, idxR, slcR, binR, isNoneD, k1, k2, k3, k4, d1, v1]
      refine evS_cons.trans ((seq_nx (σ1 := [some (.d (enc a)), some (.d (enc b)), some (.d (enc c)), none]) ?_).trans ?_)
      · simp [callK, evS, evE, evA, evO, evI, seqS, retF, asgF, asgPF, asgMF, stiF, expF, iteF, forF, andF, orF, notF, ifeF, bltF, consA, nilA, varF, litF, tupF, lstF, dicF, binF, negF, cmpF, cmp2F, idxF, slcF, calF, mtwF, sclF, noO, someO, rngF, seqF, toB, toI, vws, vw, view, dview, frz, frzs, keep1, keeps, put, puts, prep1, prep, lend, giveBack, updR, isAl, isOl, isOwn, bindT, bindTs, fin, outs, outs1, bltR, isiR, tyN, lenR, absR, intR, lstR, valsR, tuplR, cmpR, idxR, slcR, binR, isNoneD, k5, k3, d2, d4, v2, db, vb]
      · rw [evS_cons]
        simp [callK, evS, evE, evA, evO, evI, seqS, retF, asgF, asgPF, asgMF, stiF, expF, iteF, forF, andF, orF, notF, ifeF, bltF, consA, nilA, varF, litF, tupF, lstF, dicF, binF, negF, cmpF, cmp2F, idxF, slcF, calF, mtwF, sclF, noO, someO, rngF, seqF, toB, toI, vws, vw, view, dview, frz, frzs, keep1, keeps, put, puts, prep1, prep, lend, giveBack, updR, isAl, isOl, isOwn, bindT, bindTs, fin, outs, outs1, bltR, isiR, tyN, lenR, absR, intR, lstR, valsR, tuplR, cmpR, idxR, slcR, binR, isNoneD, k6, k7, d3, d4, v3, db, vb]
    rw [call_ret (fd := f1013) rfl rfl e1 rfl]
    simp [outs, outs1]
  · have nf : PyData.eqv (.list F) (.list []) = false := by
      cases F with
      | nil => exact absurd rfl hf
      | cons x xs => simp [PyData.eqv, PyData.eqvAll]
    have e1 : evS (callK FsT W j) W b1013 [some (.d (enc a)), some (.d (enc b)), some (.d (enc c)), none] = some (.ret (.d (.bool true)), [some (.d (enc a)), some (.d (enc b)), some (.d (enc c)), none]) := by
      simp only [b1013] at el
      unfold b1013
      refine evS_cons.trans (seq_ret ?_)
      simp only [evS, iteF, evE, cmpF] at el ⊢
      rw [el]
      simp [lstF, evA, nilA, frzs, vw, view, cmpR, dF, nf, toB, l0, seqS, retF, litF]
    rw [call_ret (fd := f1013) rfl rfl e1 rfl]
    simp [outs, outs1]
end TW
end

section
namespace TW
open PySem
/-! ### law_k11 -/
theorem cut_to2 {α : Type} (xs : List α) (n : Nat) : cut xs none (some (n : Int)) = xs.take n := by
  unfold cut
  rw [HT.sIx_nat, HT.sIx_none]
  simp only [List.drop_zero, Nat.sub_zero]
  rw [← List.take_eq_take_min]
theorem goo_sm {pt : Nat} {gs : List Bu} (h : Goo pt gs) : ∀ g ∈ gs, Sm g := fun g hg => by
  obtain ⟨h1, h2, h3⟩ := h.g g hg
  exact sm_of h1 (by omega) (by omega)
theorem goo_tl {gs : List Bu} (h : Goo 1000000000 gs) (hn : gs.length ≤ 12) : Tl gs ∧ Tl (gs.take 3) := by
  refine ⟨⟨goo_sm h, hn, h.p⟩, ⟨fun g hg => goo_sm h g (List.mem_of_mem_take hg), by rw [List.length_take]; omega, ?_⟩⟩
  have e : F3 gs = (gs.drop 3).foldl mstep (F3 (gs.take 3)) := by
    unfold F3
    rw [← List.foldl_append, List.take_append_drop]
  have h1 := fold_kn (gs.drop 3) (F3 (gs.take 3))
  have h2 := fold_tips (gs.drop 3) (F3 (gs.take 3)) fun g hg => (h.g g (List.mem_of_mem_drop hg)).1
  have p := h.p
  rw [e] at p
  omega
def L11 (ns : List Int) (σ : En) : Prop := ∃ (xs : List D) (x2 x4 x5 x9 x10 : Option Rv), σ = [some (.sc ns), some (.ol xs false), x2, none, x4, x5, none, none, none, x9, x10] ∧ isOwn x2 = false ∧ isOwn x4 = false ∧ isOwn x5 = false ∧ isOwn x9 = false ∧ isOwn x10 = false ∧ Cup xs
def l11for : S := match b1018 with
  | .cons _ (.cons (.for _ _ b) _) => b
  | _ => .nil
theorem l11_body (ns : List Int) (W j : Nat) (hW : 6000 ≤ W) (hj : 210 ≤ j) (n : Nat) (σ : En) (h : L11 ns σ) : ∃ σ1 σ2, bindT (.nm 2) (.int (n : Nat)) σ = some σ1 ∧ evS (callK FsT W j) W l11for σ1 = some (.nx, σ2) ∧ L11 ns σ2 := by
  obtain ⟨xs, x2, x4, x5, x9, x10, rfl, h2, h4, h5, h9, h10, hc⟩ := h
  obtain ⟨gs, y1, r1, c1, gl, gg⟩ := row_okJ 6 1000000000 (by omega) (by omega) xs hc W j hW (by omega)
  have r1' : callK FsT W j 157 [.ol xs true, .d (.int 6), .d (.int 1000000000)] = some (.d (.tuple (gs.map enc)), [.ol y1 true, .d (.int 6), .d (.int 1000000000)]) := r1
  obtain ⟨t1, t2⟩ := goo_tl gg (by omega)
  have q1 := right11_ok gs t1 W j hW (by omega)
  have q2 := right11_ok (gs.take 3) t2 W j hW (by omega)
  have ct : cut (gs.map enc) none (some 3) = (gs.take 3).map enc := by
    rw [List.map_take]
    exact cut_to2 _ 3
  obtain ⟨a, y2, r2, c2, wa, ha, ka⟩ := bush_ok 4 (by omega) y1 c1 W j (by omega)
  have r2' : callK FsT W j 4 [.ol y1 true, .d (.int 4)] = some (.d (enc a), [.ol y2 true, .d (.int 4)]) := r2
  obtain ⟨c, y3, r3, c3, wc, hcc, kc⟩ := bush_ok 3 (by omega) y2 c2 W j (by omega)
  have r3' : callK FsT W j 4 [.ol y2 true, .d (.int 3)] = some (.d (enc c), [.ol y3 true, .d (.int 3)]) := r3
  obtain ⟨b, y4, r4, c4, wb, hb, kb⟩ := known_ok y3 c3 W j (by omega)
  have sa : Sm a := sm_of wa (by omega) (by omega)
  have sb : Sm b := sm_of wb (by omega) (by omega)
  have sc : Sm c := sm_of wc (by omega) (by omega)
  have q3 := grouped_ok a b c sa sb sc W j hW (by omega)
  obtain ⟨d, y5, r5, c5, wd, kd, hd⟩ := near_bush_ok y4 c4 a wa (by omega) (by have := sa.c; omega) W j hW (by omega)
  have sd : Sm d := sm_of wd (by omega) (by omega)
  have q4 := knots_ok d wd (by omega) (by have := sd.c; omega) W j hW (by omega)
  have q5 := tipsr_ok d wd (by omega) (by have := sd.c; omega) W j hW (by omega)
  have lt : ((tpR d).map rd).length = tp d := by rw [List.length_map, tpR_len]
  obtain ⟨e, y6, r6, c6, we, he, ke⟩ := known_ok y5 c5 W j (by omega)
  have se : Sm e := sm_of we (by omega) (by omega)
  have q6 := grouped_ok a d e sa sd se W j hW (by omega)
  have p2 : put 2 (.d (.int (n : Nat))) [some (.sc ns), some (.ol xs false), x2, none, x4, x5, none, none, none, x9, x10] = some [some (.sc ns), some (.ol xs false), some (.d (.int (n : Nat))), none, x4, x5, none, none, none, x9, x10] := put_free rfl h2
  have p4 : ∀ (u0 u1 u2 u3 u5 u6 u7 u8 u9 u10 : Option Rv) z, put 4 z [u0, u1, u2, u3, x4, u5, u6, u7, u8, u9, u10] = some [u0, u1, u2, u3, some z, u5, u6, u7, u8, u9, u10] := fun _ _ _ _ _ _ _ _ _ _ _ => put_free rfl h4
  have p5 : ∀ (u0 u1 u2 u3 u4 u6 u7 u8 u9 u10 : Option Rv) z, put 5 z [u0, u1, u2, u3, u4, x5, u6, u7, u8, u9, u10] = some [u0, u1, u2, u3, u4, some z, u6, u7, u8, u9, u10] := fun _ _ _ _ _ _ _ _ _ _ _ => put_free rfl h5
  have p9 : ∀ (u0 u1 u2 u3 u4 u5 u6 u7 u8 u10 : Option Rv) z, put 9 z [u0, u1, u2, u3, u4, u5, u6, u7, u8, x9, u10] = some [u0, u1, u2, u3, u4, u5, u6, u7, u8, some z, u10] := fun _ _ _ _ _ _ _ _ _ _ _ => put_free rfl h9
  have p10 : ∀ (u0 u1 u2 u3 u4 u5 u6 u7 u8 u9 : Option Rv) z, put 10 z [u0, u1, u2, u3, u4, u5, u6, u7, u8, u9, x10] = some [u0, u1, u2, u3, u4, u5, u6, u7, u8, u9, some z] := fun _ _ _ _ _ _ _ _ _ _ _ => put_free rfl h10
  obtain ⟨y7, hF, c7⟩ : ∃ y7, evS (callK FsT W j) W (match l11for with
      | .cons _ (.cons _ (.cons _ (.cons _ (.cons _ (.cons s _))))) => s
      | _ => .nil) [some (.sc ns), some (.ol y5 false), some (.d (.int (n : Nat))), none, some (.d (.tuple (gs.map enc))), some (.d (enc d)), none, none, none, some (.d (enc a)), some (.d (enc c))] =
      some (.nx, [some (.sc ns), some (.ol y7 false), some (.d (.int (n : Nat))), none, some (.d (.tuple (gs.map enc))), some (.d (enc d)), none, none, none, some (.d (enc a)), some (.d (enc c))]) ∧ Cup y7 := by
    simp only [l11for, b1018]
    generalize (tpR d).map rd = TT at *
    by_cases m1 : ((kn d : Nat) : Int) < 12
    · by_cases m2 : ((tp d : Nat) : Int) < 12
      · refine ⟨y6, ?_, c6⟩
        simp [callK, evS, evE, evA, evO, evI, seqS, retF, asgF, asgPF, asgMF, stiF, expF, iteF, forF, andF, orF, notF, ifeF, bltF, consA, nilA, varF, litF, tupF, lstF, dicF, binF, negF, cmpF, cmp2F, idxF, slcF, calF, mtwF, sclF, noO, someO, rngF, seqF, toB, toI, vws, vw, view, dview, frz, frzs, keep1, keeps, puts, prep1, prep, lend, giveBack, updR, isAl, isOl, isOwn, bindT, bindTs, fin, outs, outs1, bltR, isiR, tyN, lenR, absR, intR, lstR, valsR, tuplR, cmpR, idxR, slcR, binR, isNoneD, q4, q5, lt, m1, m2, r6, q6]
      · refine ⟨y5, ?_, c5⟩
        simp [callK, evS, evE, evA, evO, evI, seqS, retF, asgF, asgPF, asgMF, stiF, expF, iteF, forF, andF, orF, notF, ifeF, bltF, consA, nilA, varF, litF, tupF, lstF, dicF, binF, negF, cmpF, cmp2F, idxF, slcF, calF, mtwF, sclF, noO, someO, rngF, seqF, toB, toI, vws, vw, view, dview, frz, frzs, keep1, keeps, puts, prep1, prep, lend, giveBack, updR, isAl, isOl, isOwn, bindT, bindTs, fin, outs, outs1, bltR, isiR, tyN, lenR, absR, intR, lstR, valsR, tuplR, cmpR, idxR, slcR, binR, isNoneD, q4, q5, lt, m1, m2]
    · refine ⟨y5, ?_, c5⟩
      simp [callK, evS, evE, evA, evO, evI, seqS, retF, asgF, asgPF, asgMF, stiF, expF, iteF, forF, andF, orF, notF, ifeF, bltF, consA, nilA, varF, litF, tupF, lstF, dicF, binF, negF, cmpF, cmp2F, idxF, slcF, calF, mtwF, sclF, noO, someO, rngF, seqF, toB, toI, vws, vw, view, dview, frz, frzs, keep1, keeps, puts, prep1, prep, lend, giveBack, updR, isAl, isOl, isOwn, bindT, bindTs, fin, outs, outs1, bltR, isiR, tyN, lenR, absR, intR, lstR, valsR, tuplR, cmpR, idxR, slcR, binR, isNoneD, q4, q5, lt, m1]
  refine ⟨_, [some (.sc ns), some (.ol y7 false), some (.d (.int (n : Nat))), none, some (.d (.tuple (gs.map enc))), some (.d (enc d)), none, none, none, some (.d (enc a)), some (.d (enc c))], p2, ?_, ⟨y7, _, _, _, _, _, rfl, rfl, rfl, rfl, rfl, rfl, c7⟩⟩
  simp only [l11for, b1018] at hF ⊢
  generalize hG : gs.map enc = G at *
  generalize hG3 : (gs.take 3).map enc = G3 at *
  refine evS_cons.trans ((seq_nx (σ1 := [some (.sc ns), some (.ol y1 false), some (.d (.int (n : Nat))), none, some (.d (.tuple G)), x5, none, none, none, x9, x10]) ?_).trans ?_)
  · simp [callK, evS, evE, evA, evO, evI, seqS, retF, asgF, asgPF, asgMF, stiF, expF, iteF, forF, andF, orF, notF, ifeF, bltF, consA, nilA, varF, litF, tupF, lstF, dicF, binF, negF, cmpF, cmp2F, idxF, slcF, calF, mtwF, sclF, noO, someO, rngF, seqF, toB, toI, vws, vw, view, dview, frz, frzs, keep1, keeps, puts, prep1, prep, lend, giveBack, updR, isAl, isOl, isOwn, bindT, bindTs, fin, outs, outs1, bltR, isiR, tyN, lenR, absR, intR, lstR, valsR, tuplR, cmpR, idxR, slcR, binR, isNoneD, r1', p4]
  refine evS_cons.trans ((seq_nx (σ1 := [some (.sc ns), some (.ol y1 false), some (.d (.int (n : Nat))), none, some (.d (.tuple G)), x5, none, none, none, x9, x10]) ?_).trans ?_)
  · simp [callK, evS, evE, evA, evO, evI, seqS, retF, asgF, asgPF, asgMF, stiF, expF, iteF, forF, andF, orF, notF, ifeF, bltF, consA, nilA, varF, litF, tupF, lstF, dicF, binF, negF, cmpF, cmp2F, idxF, slcF, calF, mtwF, sclF, noO, someO, rngF, seqF, toB, toI, vws, vw, view, dview, frz, frzs, keep1, keeps, puts, prep1, prep, lend, giveBack, updR, isAl, isOl, isOwn, bindT, bindTs, fin, outs, outs1, bltR, isiR, tyN, lenR, absR, intR, lstR, valsR, tuplR, cmpR, idxR, slcR, binR, isNoneD, q1, q2, ct]
  refine evS_cons.trans ((seq_nx (σ1 := [some (.sc ns), some (.ol y3 false), some (.d (.int (n : Nat))), none, some (.d (.tuple G)), x5, none, none, none, some (.d (enc a)), some (.d (enc c))]) ?_).trans ?_)
  · simp [callK, evS, evE, evA, evO, evI, seqS, retF, asgF, asgPF, asgMF, stiF, expF, iteF, forF, andF, orF, notF, ifeF, bltF, consA, nilA, varF, litF, tupF, lstF, dicF, binF, negF, cmpF, cmp2F, idxF, slcF, calF, mtwF, sclF, noO, someO, rngF, seqF, toB, toI, vws, vw, view, dview, frz, frzs, keep1, keeps, puts, prep1, prep, lend, giveBack, updR, isAl, isOl, isOwn, bindT, bindTs, fin, outs, outs1, bltR, isiR, tyN, lenR, absR, intR, lstR, valsR, tuplR, cmpR, idxR, slcR, binR, isNoneD, r2', r3', p9, p10]
  refine evS_cons.trans ((seq_nx (σ1 := [some (.sc ns), some (.ol y4 false), some (.d (.int (n : Nat))), none, some (.d (.tuple G)), x5, none, none, none, some (.d (enc a)), some (.d (enc c))]) ?_).trans ?_)
  · simp [callK, evS, evE, evA, evO, evI, seqS, retF, asgF, asgPF, asgMF, stiF, expF, iteF, forF, andF, orF, notF, ifeF, bltF, consA, nilA, varF, litF, tupF, lstF, dicF, binF, negF, cmpF, cmp2F, idxF, slcF, calF, mtwF, sclF, noO, someO, rngF, seqF, toB, toI, vws, vw, view, dview, frz, frzs, keep1, keeps, puts, prep1, prep, lend, giveBack, updR, isAl, isOl, isOwn, bindT, bindTs, fin, outs, outs1, bltR, isiR, tyN, lenR, absR, intR, lstR, valsR, tuplR, cmpR, idxR, slcR, binR, isNoneD, r4, q3]
  refine evS_cons.trans ((seq_nx (σ1 := [some (.sc ns), some (.ol y5 false), some (.d (.int (n : Nat))), none, some (.d (.tuple G)), some (.d (enc d)), none, none, none, some (.d (enc a)), some (.d (enc c))]) ?_).trans ?_)
  · simp [callK, evS, evE, evA, evO, evI, seqS, retF, asgF, asgPF, asgMF, stiF, expF, iteF, forF, andF, orF, notF, ifeF, bltF, consA, nilA, varF, litF, tupF, lstF, dicF, binF, negF, cmpF, cmp2F, idxF, slcF, calF, mtwF, sclF, noO, someO, rngF, seqF, toB, toI, vws, vw, view, dview, frz, frzs, keep1, keeps, puts, prep1, prep, lend, giveBack, updR, isAl, isOl, isOwn, bindT, bindTs, fin, outs, outs1, bltR, isiR, tyN, lenR, absR, intR, lstR, valsR, tuplR, cmpR, idxR, slcR, binR, isNoneD, r5, p5]
  refine evS_cons.trans ((seq_nx hF).trans ?_)
  simp only [evS]
/-! the rows by hand -/
def eR (gs : List Bu) : D := .tuple [.tuple (gs.map enc), .tuple (dueR gs)]
def IR1 : List (List Bu) := [[kF, kF, bS], [], List.replicate 12 bA1, List.replicate 12 kF, List.replicate 12 bS]
def IR2 : List (List Bu) := [[chain 60, bS], [chain 60, chain 60], [.tip, .tip, kF]]
theorem ir_nums : (F3 [kF, kF, bS], NR [kF, kF, bS]) = ((7, 4, 3), 3) ∧ (F3 [], NR []) = ((0, 1, 0), 0) ∧ (F3 (List.replicate 12 bA1), NR (List.replicate 12 bA1)) = ((531440, 531441, 24), 12) ∧ (F3 (List.replicate 12 kF), NR (List.replicate 12 kF)) = ((4095, 4096, 12), 12) ∧
    (F3 (List.replicate 12 bS), NR (List.replicate 12 bS)) = ((12, 1, 12), 12) ∧ (F3 [chain 60, bS], NR [chain 60, bS]) = ((61, 1, 61), 61) ∧ (F3 [chain 60, chain 60], NR [chain 60, chain 60]) = ((120, 1, 120), 120) ∧ (F3 [.tip, .tip, kF], NR [.tip, .tip, kF]) = ((1, 2, 1), 1) := by decide +kernel
def smB (b : Bu) : Bool := wf b && decide (ht b ≤ 60) && decide (cnt b ≤ 400)
theorem sm_by {b : Bu} (h : smB b = true) : Sm b := by
  simp only [smB, Bool.and_eq_true, decide_eq_true_eq] at h
  exact ⟨h.1.1, h.1.2, h.2⟩
theorem ir_tl : ((IR1 ++ IR2).all fun gs => gs.all smB && decide (gs.length ≤ 12) && decide ((F3 gs).1 + (F3 gs).2.1 ≤ 1000000000)) = true := by decide +kernel
theorem ir_all : ∀ gs ∈ IR1 ++ IR2, Tl gs := fun gs h => by
  have := List.all_eq_true.mp ir_tl gs h
  simp only [Bool.and_eq_true, decide_eq_true_eq, List.all_eq_true] at this
  exact ⟨fun g hg => sm_by (this.1.1 g hg), this.1.2, this.2⟩
def dA1 : D := .tuple [.str "f", dF, .tuple []]
def ER1 : List D := [.tuple [.tuple [dF, dF, dS], .tuple [.int 7, .int 4, .int 3, .int 3]], .tuple [.tuple [], .tuple [.int 0, .int 1, .int 0, .int 0]], .tuple [.tuple (List.replicate 12 dA1), .tuple [.int 531440, .int 531441, .int 12, .int 24]],
  .tuple [.tuple (List.replicate 12 dF), .tuple [.int 4095, .int 4096, .int 12, .int 12]], .tuple [.tuple (List.replicate 12 dS), .tuple [.int 12, .int 1, .int 12, .int 12]]]
def ER2 : List D := [.tuple [.tuple [enc (chain 60), dS], .tuple [.int 61, .int 1, .int 61, .int 61]], .tuple [.tuple [enc (chain 60), enc (chain 60)], .tuple [.int 120, .int 1, .int 120, .int 120]], .tuple [.tuple [.tuple [], .tuple [], dF], .tuple [.int 1, .int 2, .int 1, .int 1]]]
theorem enc_kF : enc kF = dF := by simp [kF, Bus.of, enc, encs, dF]
theorem enc_bS : enc bS = dS := by simp [bS, Bus.of, enc, encs, dS]
theorem enc_bA1 : enc bA1 = dA1 := by simp [bA1, enc_of, enc_kF, enc, dA1]
theorem ER_eq : ER1 = IR1.map eR ∧ ER2 = IR2.map eR := by
  obtain ⟨n1, n2, n3, n4, n5, n6, n7, n8⟩ := ir_nums
  simp only [Prod.mk.injEq] at n1 n2 n3 n4 n5 n6 n7 n8
  have e0 : enc .tip = .tuple [] := rfl
  constructor
  · simp only [ER1, IR1, List.map_cons, List.map_nil, eR, dueR, n1.1, n1.2, n2.1, n2.2, n3.1, n3.2, n4.1, n4.2, n5.1, n5.2, enc_kF, enc_bS, enc_bA1, List.map_replicate]
    rfl
  · simp only [ER2, IR2, List.map_cons, List.map_nil, eR, dueR, n6.1, n6.2, n7.1, n7.2, n8.1, n8.2, enc_kF, enc_bS, e0]
    rfl
def h11for : S := match b1018 with
  | .cons _ (.cons _ (.cons _ (.cons _ (.cons _ (.cons (.for _ _ b) _))))) => b
  | _ => .nil
def H11 (ns : List Int) (xs : List D) (x2 x3 x5 x9 x10 : Option Rv) (σ : En) : Prop := ∃ x4 x8, σ = [some (.sc ns), some (.ol xs false), x2, x3, x4, x5, some (.d dF), some (.d dS), x8, x9, x10] ∧ isOwn x4 = false ∧ isOwn x8 = false
theorem h11_body (ns : List Int) (xs : List D) (x2 x3 x5 x9 x10 : Option Rv) (W j : Nat) (hW : 6000 ≤ W) (hj : 210 ≤ j) (gs : List Bu) (t : Tl gs) (σ : En) (h : H11 ns xs x2 x3 x5 x9 x10 σ) :
    ∃ σ1 σ2, bindT (.tp (.cons (.nm 4) (.cons (.nm 8) .nil))) (eR gs) σ = some σ1 ∧ evS (callK FsT W j) W h11for σ1 = some (.nx, σ2) ∧ H11 ns xs x2 x3 x5 x9 x10 σ2 := by
  obtain ⟨x4, x8, rfl, h4, h8⟩ := h
  have k1 := rc_ok gs t.g t.n W j (by omega) (by omega)
  have k2 := right11_ok gs t W j hW (by omega)
  have p4 : ∀ (u0 u1 u2 u3 u5 u6 u7 u8 u9 u10 : Option Rv) z, put 4 z [u0, u1, u2, u3, x4, u5, u6, u7, u8, u9, u10] = some [u0, u1, u2, u3, some z, u5, u6, u7, u8, u9, u10] := fun _ _ _ _ _ _ _ _ _ _ _ => put_free rfl h4
  have p8 : ∀ (u0 u1 u2 u3 u4 u5 u6 u7 u9 u10 : Option Rv) z, put 8 z [u0, u1, u2, u3, u4, u5, u6, u7, x8, u9, u10] = some [u0, u1, u2, u3, u4, u5, u6, u7, some z, u9, u10] := fun _ _ _ _ _ _ _ _ _ _ _ => put_free rfl h8
  have ev : PyData.eqv (.tuple (dueR gs)) (.tuple (dueR gs)) = true := by simp [dueR, PyData.eqv, PyData.eqvAll]
  have dp : dpt (.tuple (dueR gs)) (.tuple (dueR gs)) = true := by simp [dueR, dpt, PyData.depth, PyData.depthAll]
  refine ⟨[some (.sc ns), some (.ol xs false), x2, x3, some (.d (.tuple (gs.map enc))), x5, some (.d dF), some (.d dS), some (.d (.tuple (dueR gs))), x9, x10], [some (.sc ns), some (.ol xs false), x2, x3, some (.d (.tuple (gs.map enc))), x5, some (.d dF), some (.d dS), some (.d (.tuple (dueR gs))), x9, x10], ?_, ?_, ⟨_, _, rfl, rfl, rfl⟩⟩
  · simp [eR, bindT, bindTs, p4, p8]
  · simp only [h11for, b1018]
    refine evS_cons.trans ((seq_nx (σ1 := [some (.sc ns), some (.ol xs false), x2, x3, some (.d (.tuple (gs.map enc))), x5, some (.d dF), some (.d dS), some (.d (.tuple (dueR gs))), x9, x10]) ?_).trans ?_)
    · generalize gs.map enc = G at *
      generalize dueR gs = U at *
      simp [callK, evS, evE, evA, evO, evI, seqS, retF, asgF, asgPF, asgMF, stiF, expF, iteF, forF, andF, orF, notF, ifeF, bltF, consA, nilA, varF, litF, tupF, lstF, dicF, binF, negF, cmpF, cmp2F, idxF, slcF, calF, mtwF, sclF, noO, someO, rngF, seqF, toB, toI, vws, vw, view, dview, frz, frzs, keep1, keeps, puts, prep1, prep, lend, giveBack, updR, isAl, isOl, isOwn, bindT, bindTs, fin, outs, outs1, bltR, isiR, tyN, lenR, absR, intR, lstR, valsR, tuplR, cmpR, idxR, slcR, binR, isNoneD, k1, k2, ev, dp]
    · simp only [evS]
/-! a great bush with two stems more -/
def bG0 : Bu := (pu (chain 2) rL bG1).getD .tip
theorem g_0 : pu (chain 2) rL bG1 = some bG0 := by
  have : (pu (chain 2) rL bG1).isSome = true := by decide +kernel
  unfold bG0
  cases h : pu (chain 2) rL bG1 with
  | none => rw [h] at this; cases this
  | some b => rfl
theorem great2_ok (W k : Nat) (hW : 6000 ≤ W) (hk : 207 < k) : callK FsT W k 130 [.d (.int 2)] = some (.d (enc bG0), [.d (.int 2)]) := by
  obtain ⟨j, rfl⟩ : ∃ j, k = j + 1 := ⟨k - 1, by omega⟩
  obtain ⟨w1, w2, w3, w4, w5, w6, w7, w8, w9⟩ := g_w
  have w9 : wf (chain 2) = true := by decide +kernel
  have h129 := lbush_ok [bW, bW, bW] (fit_of w6) W j hW (by omega)
  have h24 := tipsr_ok bW3 w2 (by omega) (by omega) W j hW (by omega)
  have h127 : callK FsT W j 127 [.d (.int 2)] = some (.d (enc (chain 2)), [.d (.int 2)]) := chain_ok 2 (by omega) W j (by omega)
  have hne : tpR bW3 ≠ [] := tpR_ne bW3 w2
  have hlast : tpR bW3 = (tpR bW3).dropLast ++ [rL] := by
    have := List.dropLast_concat_getLast hne
    unfold rL
    rw [List.getLast?_eq_some_getLast hne]
    exact this.symm
  have rLm : rL ∈ tpR bW3 := by rw [hlast]; simp
  have rl3 : ∀ r ∈ tpR bW3, r.length ≤ 3 := fun r hr => by rw [← w3]; exact tpR_short w2 hr
  have h34 := put_ok w9 (r := rL) w8 g_0 W j (by have := rl3 rL rLm; omega)
  obtain ⟨x, hx, _⟩ := pus_for2 (W := W) (callK FsT W j) bW (some (.d (.int 2))) (some (.d (enc bW))) (some (.ol ((tpR bW3).map rd) false)) ((tpR bW3).take 23) bW3 bG1 none rfl g_1 (fun r hr b1 b2 w q => put_ok w1 w q W j (by have := rl3 r (List.mem_of_mem_take hr); omega)) w2 w1 rfl
  have lt : (tpR bW3).length = 216 := by rw [tpR_len, w5]
  have hcut : cut ((tpR bW3).map rd) none (some 23) = ((tpR bW3).take 23).map rd := by
    rw [List.map_take]
    exact cut_to2 _ 23
  have hat : L2.atI ((tpR bW3).map rd) (-1) = some (rd rL) := by
    rw [hlast, List.map_append]
    exact atI_last
  have eW : enc bW = .tuple [.str "g", .tuple [], .tuple [], .tuple [], .tuple [], .tuple [], .tuple []] := by
    simp [bW, Bus.of, enc, encs]
  have e1 : evS (callK FsT W j) W b130 [some (.d (.int 2)), none, none, none, none] = some (.ret (.d (enc bG0)), [some (.d (.int 2)), some (.d (enc bW)), some (.d (enc bG1)), some (.ol ((tpR bW3).map rd) false), x]) := by
    unfold b130
    refine evS_cons.trans ((seq_nx (σ1 := [some (.d (.int 2)), some (.d (enc bW)), none, none, none]) ?_).trans ?_)
    · rw [eW]
      simp [callK, evS, evE, evA, evO, evI, seqS, retF, asgF, asgPF, asgMF, stiF, expF, iteF, forF, andF, orF, notF, ifeF, bltF, consA, nilA, varF, litF, tupF, lstF, dicF, binF, negF, cmpF, cmp2F, idxF, slcF, calF, mtwF, sclF, noO, someO, rngF, seqF, toB, toI, vws, vw, view, dview, frz, frzs, keep1, keeps, put, puts, prep1, prep, lend, giveBack, updR, isAl, isOl, isOwn, bindT, bindTs, fin, outs, outs1, bltR, isiR, tyN, lenR, absR, intR, lstR, valsR, tuplR, cmpR, idxR, slcR, binR, isNoneD, LIM, List.replicate]
    refine evS_cons.trans ((seq_nx (σ1 := [some (.d (.int 2)), some (.d (enc bW)), some (.d (enc bW3)), none, none]) ?_).trans ?_)
    · simp only [List.map_cons, List.map_nil] at h129
      generalize enc bW = w at *
      simp [callK, evS, evE, evA, evO, evI, seqS, retF, asgF, asgPF, asgMF, stiF, expF, iteF, forF, andF, orF, notF, ifeF, bltF, consA, nilA, varF, litF, tupF, lstF, dicF, binF, negF, cmpF, cmp2F, idxF, slcF, calF, mtwF, sclF, noO, someO, rngF, seqF, toB, toI, vws, vw, view, dview, frz, frzs, keep1, keeps, put, puts, prep1, prep, lend, giveBack, updR, isAl, isOl, isOwn, bindT, bindTs, fin, outs, outs1, bltR, isiR, tyN, lenR, absR, intR, lstR, valsR, tuplR, cmpR, idxR, slcR, binR, isNoneD, LIM, h129, bW3]
    refine evS_cons.trans ((seq_nx (σ1 := [some (.d (.int 2)), some (.d (enc bW)), some (.d (enc bW3)), some (.ol ((tpR bW3).map rd) false), none]) ?_).trans ?_)
    · simp [callK, evS, evE, evA, evO, evI, seqS, retF, asgF, asgPF, asgMF, stiF, expF, iteF, forF, andF, orF, notF, ifeF, bltF, consA, nilA, varF, litF, tupF, lstF, dicF, binF, negF, cmpF, cmp2F, idxF, slcF, calF, mtwF, sclF, noO, someO, rngF, seqF, toB, toI, vws, vw, view, dview, frz, frzs, keep1, keeps, put, puts, prep1, prep, lend, giveBack, updR, isAl, isOl, isOwn, bindT, bindTs, fin, outs, outs1, bltR, isiR, tyN, lenR, absR, intR, lstR, valsR, tuplR, cmpR, idxR, slcR, binR, isNoneD, h24]
    refine evS_cons.trans ((seq_nx (σ1 := [some (.d (.int 2)), some (.d (enc bW)), some (.d (enc bG1)), some (.ol ((tpR bW3).map rd) false), x]) ?_).trans ?_)
    · simp only [b130] at hx
      exact (evS_for (xs := ((tpR bW3).take 23).map rd) (σ1 := [some (.d (.int 2)), some (.d (enc bW)), some (.d (enc bW3)), some (.ol ((tpR bW3).map rd) false), none]) (by simp [callK, evS, evE, evA, evO, evI, seqS, retF, asgF, asgPF, asgMF, stiF, expF, iteF, forF, andF, orF, notF, ifeF, bltF, consA, nilA, varF, litF, tupF, lstF, dicF, binF, negF, cmpF, cmp2F, idxF, slcF, calF, mtwF, sclF, noO, someO, rngF, seqF, toB, toI, vws, vw, view, dview, frz, frzs, keep1, keeps, put, puts, prep1, prep, lend, giveBack, updR, isAl, isOl, isOwn, bindT, bindTs, fin, outs, outs1, bltR, isiR, tyN, lenR, absR, intR, lstR, valsR, tuplR, cmpR, idxR, slcR, binR, isNoneD]; rw [hcut]; simp)).trans hx
    · rw [evS_cons]
      simp [callK, evS, evE, evA, evO, evI, seqS, retF, asgF, asgPF, asgMF, stiF, expF, iteF, forF, andF, orF, notF, ifeF, bltF, consA, nilA, varF, litF, tupF, lstF, dicF, binF, negF, cmpF, cmp2F, idxF, slcF, calF, mtwF, sclF, noO, someO, rngF, seqF, toB, toI, vws, vw, view, dview, frz, frzs, keep1, keeps, put, puts, prep1, prep, lend, giveBack, updR, isAl, isOl, isOwn, bindT, bindTs, fin, outs, outs1, bltR, isiR, tyN, lenR, absR, intR, lstR, valsR, tuplR, cmpR, idxR, slcR, binR, isNoneD, hat, h127, h34]
  rw [call_ret (fd := f130) rfl rfl e1 rfl, outs_d1]
theorem cans : canB [kF, kF, kF, kF, kF, kF, kF] = true ∧ canB [kF, kF, kF, kF, kF, kF, kF, kF] = false ∧ canB [chain 60, bS] = false ∧ canB [chain 59, bS] = true ∧ canB [bG2] = true ∧ canB [bG0, bS] = false ∧
    ([kF, bS, chain 60, chain 59, bG2, bG0] : List Bu).all smB = true := by decide +kernel
theorem law11_at (ns : List Int) (hn : ns.length ≤ 63) (W j : Nat) (hW : 6000 ≤ W) (hj : 210 ≤ j) : ∃ os, callK FsT W (j + 1) 1018 [.sc ns] = some (.d (.bool true), os) := by
  obtain ⟨xs, r0, c0⟩ := cup_ok ns hn W j (by omega)
  obtain ⟨σ', hf, hI⟩ := for_inv (p := .nm 2) (body := evS (callK FsT W j) W l11for) (N := 5) (fun _ σ => L11 ns σ) (fun n σ _ h => l11_body ns W j hW hj n σ h) 5 0 [some (.sc ns), some (.ol xs false), none, none, none, none, none, none, none, none, none] (by omega) ⟨xs, none, none, none, none, none, rfl, rfl, rfl, rfl, rfl, rfl, c0⟩
  have hr : (List.range' 0 5).map (fun i => PyData.int (i : Nat)) = rngI 0 (5 : Int) := (rngI_range 5).symm
  rw [hr] at hf
  obtain ⟨ys, x2, x4, x5, x9, x10, rfl, g2, g4, g5, g9, g10, cy⟩ := hI
  obtain ⟨e1, e2⟩ := ER_eq
  obtain ⟨σ2, hf2, x4', x8', rfl, _, _⟩ := for_all (e := eR) (p := .tp (.cons (.nm 4) (.cons (.nm 8) .nil))) (body := evS (callK FsT W j) W h11for) (H11 ns ys x2 (some (.d (.list (ER1 ++ ER2)))) x5 x9 x10) (IR1 ++ IR2) (fun gs hgs σ hσ => h11_body ns ys x2 _ x5 x9 x10 W j hW hj gs (ir_all gs hgs) σ hσ)
    [some (.sc ns), some (.ol ys false), x2, some (.d (.list (ER1 ++ ER2))), x4, x5, some (.d dF), some (.d dS), none, x9, x10] ⟨x4, none, rfl, g4, rfl⟩
  rw [List.map_append, ← e1, ← e2] at hf2
  have t60 : callK FsT W j 127 [.d (.int 60)] = some (.d (enc (chain 60)), [.d (.int 60)]) := chain_ok 60 (by omega) W j (by omega)
  have t59 : callK FsT W j 127 [.d (.int 59)] = some (.d (enc (chain 59)), [.d (.int 59)]) := chain_ok 59 (by omega) W j (by omega)
  have gt3 := great_ok W j hW (by omega)
  have gt2 := great2_ok W j hW (by omega)
  obtain ⟨b1, b2, b3, b4, b5, b6, sms⟩ := cans
  have sm : ∀ b ∈ ([kF, bS, chain 60, chain 59, bG2, bG0] : List Bu), Sm b := fun b hb => sm_by (List.all_eq_true.mp sms b hb)
  have ok : ∀ gs : List Bu, (∀ g ∈ gs, g ∈ ([kF, bS, chain 60, chain 59, bG2, bG0] : List Bu)) → gs.length ≤ 12 → callK FsT W j 1015 [.d (.tuple (gs.map enc))] = some (.d (.bool (canB gs)), [.d (.tuple (gs.map enc))]) := fun gs h hl => can_ok gs (fun g hg => sm g (h g hg)) hl W j (by omega) (by omega)
  have k1 := ok [kF, kF, kF, kF, kF, kF, kF] (by simp) (by simp)
  have k2 := ok [kF, kF, kF, kF, kF, kF, kF, kF] (by simp) (by simp)
  have k3 := ok [chain 60, bS] (by simp) (by simp)
  have k4 := ok [chain 59, bS] (by simp) (by simp)
  have k5 := ok [bG2] (by simp) (by simp)
  have k6 := ok [bG0, bS] (by simp) (by simp)
  simp only [List.map_cons, List.map_nil, enc_kF, enc_bS, b1, b2, b3, b4, b5, b6] at k1 k2 k3 k4 k5 k6
  have e1' : evS (callK FsT W j) W b1018 [some (.sc ns), none, none, none, none, none, none, none, none, none, none] = some (.ret (.d (.bool true)), [some (.sc ns), some (.ol ys false), x2, some (.d (.list (ER1 ++ ER2))), x4', x5, some (.d dF), some (.d dS), x8', x9, x10]) := by
    simp only [l11for, b1018] at hf
    simp only [h11for, b1018] at hf2
    unfold b1018
    refine evS_cons.trans ((seq_nx (σ1 := [some (.sc ns), some (.ol xs false), none, none, none, none, none, none, none, none, none]) ?_).trans ?_)
    · simp [callK, evS, evE, evA, evO, evI, seqS, retF, asgF, asgPF, asgMF, stiF, expF, iteF, forF, andF, orF, notF, ifeF, bltF, consA, nilA, varF, litF, tupF, lstF, dicF, binF, negF, cmpF, cmp2F, idxF, slcF, calF, mtwF, sclF, noO, someO, rngF, seqF, toB, toI, vws, vw, view, dview, frz, frzs, keep1, keeps, put, puts, prep1, prep, lend, giveBack, updR, isAl, isOl, isOwn, bindT, bindTs, fin, outs, outs1, bltR, isiR, tyN, lenR, absR, intR, lstR, valsR, tuplR, cmpR, idxR, slcR, binR, isNoneD, r0]
    refine evS_cons.trans ((seq_nx (σ1 := [some (.sc ns), some (.ol ys false), x2, none, x4, x5, none, none, none, x9, x10]) ?_).trans ?_)
    · exact (evS_for (xs := rngI 0 (5 : Int)) (σ1 := [some (.sc ns), some (.ol xs false), none, none, none, none, none, none, none, none, none]) (by simp [callK, evS, evE, evA, evO, evI, seqS, retF, asgF, asgPF, asgMF, stiF, expF, iteF, forF, andF, orF, notF, ifeF, bltF, consA, nilA, varF, litF, tupF, lstF, dicF, binF, negF, cmpF, cmp2F, idxF, slcF, calF, mtwF, sclF, noO, someO, rngF, seqF, toB, toI, vws, vw, view, dview, frz, frzs, keep1, keeps, put, puts, prep1, prep, lend, giveBack, updR, isAl, isOl, isOwn, bindT, bindTs, fin, outs, outs1, bltR, isiR, tyN, lenR, absR, intR, lstR, valsR, tuplR, cmpR, idxR, slcR, binR, isNoneD, b62])).trans hf
    refine evS_cons.trans ((seq_nx (σ1 := [some (.sc ns), some (.ol ys false), x2, none, x4, x5, some (.d dF), some (.d dS), none, x9, x10]) ?_).trans ?_)
    · simp [callK, evS, evE, evA, evO, evI, seqS, retF, asgF, asgPF, asgMF, stiF, expF, iteF, forF, andF, orF, notF, ifeF, bltF, consA, nilA, varF, litF, tupF, lstF, dicF, binF, negF, cmpF, cmp2F, idxF, slcF, calF, mtwF, sclF, noO, someO, rngF, seqF, toB, toI, vws, vw, view, dview, frz, frzs, keep1, keeps, put, puts, prep1, prep, lend, giveBack, updR, isAl, isOl, isOwn, bindT, bindTs, fin, outs, outs1, bltR, isiR, tyN, lenR, absR, intR, lstR, valsR, tuplR, cmpR, idxR, slcR, binR, isNoneD, LIM, dF, dS]
    refine evS_cons.trans ((seq_nx (σ1 := [some (.sc ns), some (.ol ys false), x2, some (.ol ER1 false), x4, x5, some (.d dF), some (.d dS), none, x9, x10]) ?_).trans ?_)
    · unfold ER1 dA1
      generalize dF = f at *
      generalize dS = s at *
      simp [callK, evS, evE, evA, evO, evI, seqS, retF, asgF, asgPF, asgMF, stiF, expF, iteF, forF, andF, orF, notF, ifeF, bltF, consA, nilA, varF, litF, tupF, lstF, dicF, binF, negF, cmpF, cmp2F, idxF, slcF, calF, mtwF, sclF, noO, someO, rngF, seqF, toB, toI, vws, vw, view, dview, frz, frzs, keep1, keeps, put, puts, prep1, prep, lend, giveBack, updR, isAl, isOl, isOwn, bindT, bindTs, fin, outs, outs1, bltR, isiR, tyN, lenR, absR, intR, lstR, valsR, tuplR, cmpR, idxR, slcR, binR, isNoneD, LIM, List.replicate]
    refine evS_cons.trans ((seq_nx (σ1 := [some (.sc ns), some (.ol ys false), x2, some (.ol (ER1 ++ ER2) false), x4, x5, some (.d dF), some (.d dS), none, x9, x10]) ?_).trans ?_)
    · have l1 : ER1.length = 5 := rfl
      unfold ER2
      generalize ER1 = e at *
      generalize enc (chain 60) = c60 at *
      generalize dF = f at *
      generalize dS = s at *
      simp [callK, evS, evE, evA, evO, evI, seqS, retF, asgF, asgPF, asgMF, stiF, expF, iteF, forF, andF, orF, notF, ifeF, bltF, consA, nilA, varF, litF, tupF, lstF, dicF, binF, negF, cmpF, cmp2F, idxF, slcF, calF, mtwF, sclF, noO, someO, rngF, seqF, toB, toI, vws, vw, view, dview, frz, frzs, keep1, keeps, put, puts, prep1, prep, lend, giveBack, updR, isAl, isOl, isOwn, bindT, bindTs, fin, outs, outs1, bltR, isiR, tyN, lenR, absR, intR, lstR, valsR, tuplR, cmpR, idxR, slcR, binR, isNoneD, LIM, t60, l1]
    refine evS_cons.trans ((seq_nx (σ1 := [some (.sc ns), some (.ol ys false), x2, some (.d (.list (ER1 ++ ER2))), x4', x5, some (.d dF), some (.d dS), x8', x9, x10]) ?_).trans ?_)
    · refine (evS_for (xs := ER1 ++ ER2) (σ1 := [some (.sc ns), some (.ol ys false), x2, some (.d (.list (ER1 ++ ER2))), x4, x5, some (.d dF), some (.d dS), none, x9, x10]) ?_).trans hf2
      generalize ER1 ++ ER2 = e
      simp [callK, evS, evE, evA, evO, evI, seqS, retF, asgF, asgPF, asgMF, stiF, expF, iteF, forF, andF, orF, notF, ifeF, bltF, consA, nilA, varF, litF, tupF, lstF, dicF, binF, negF, cmpF, cmp2F, idxF, slcF, calF, mtwF, sclF, noO, someO, rngF, seqF, toB, toI, vws, vw, view, dview, frz, frzs, keep1, keeps, put, puts, prep1, prep, lend, giveBack, updR, isAl, isOl, isOwn, bindT, bindTs, fin, outs, outs1, bltR, isiR, tyN, lenR, absR, intR, lstR, valsR, tuplR, cmpR, idxR, slcR, binR, isNoneD]
    refine evS_cons.trans ((seq_nx (σ1 := [some (.sc ns), some (.ol ys false), x2, some (.d (.list (ER1 ++ ER2))), x4', x5, some (.d dF), some (.d dS), x8', x9, x10]) ?_).trans ?_)
    · generalize ER1 ++ ER2 = e at *
      generalize enc (chain 60) = c60 at *
      generalize enc (chain 59) = c59 at *
      generalize dF = f at *
      generalize dS = s at *
      simp [callK, evS, evE, evA, evO, evI, seqS, retF, asgF, asgPF, asgMF, stiF, expF, iteF, forF, andF, orF, notF, ifeF, bltF, consA, nilA, varF, litF, tupF, lstF, dicF, binF, negF, cmpF, cmp2F, idxF, slcF, calF, mtwF, sclF, noO, someO, rngF, seqF, toB, toI, vws, vw, view, dview, frz, frzs, keep1, keeps, put, puts, prep1, prep, lend, giveBack, updR, isAl, isOl, isOwn, bindT, bindTs, fin, outs, outs1, bltR, isiR, tyN, lenR, absR, intR, lstR, valsR, tuplR, cmpR, idxR, slcR, binR, isNoneD, LIM, k1, k2, k3, k4, t60, t59, List.replicate, dpt, PyData.depth, PyData.depthAll, PyData.eqv, PyData.eqvAll]
    · rw [evS_cons]
      generalize ER1 ++ ER2 = e at *
      generalize enc bG2 = c2 at *
      generalize enc bG0 = c0 at *
      generalize dF = f at *
      generalize dS = s at *
      simp [callK, evS, evE, evA, evO, evI, seqS, retF, asgF, asgPF, asgMF, stiF, expF, iteF, forF, andF, orF, notF, ifeF, bltF, consA, nilA, varF, litF, tupF, lstF, dicF, binF, negF, cmpF, cmp2F, idxF, slcF, calF, mtwF, sclF, noO, someO, rngF, seqF, toB, toI, vws, vw, view, dview, frz, frzs, keep1, keeps, put, puts, prep1, prep, lend, giveBack, updR, isAl, isOl, isOwn, bindT, bindTs, fin, outs, outs1, bltR, isiR, tyN, lenR, absR, intR, lstR, valsR, tuplR, cmpR, idxR, slcR, binR, isNoneD, LIM, k5, k6, gt3, gt2]
  exact ⟨_, call_ret (fd := f1018) rfl rfl e1' rfl⟩
theorem law11_ok (ns : List Int) (hn : ns.length ≤ 63) : ∃ os, callK FsT WW 230 1018 [.sc ns] = some (.d (.bool true), os) := law11_at ns hn WW 229 (by decide) (by omega)
end TW
end

section
namespace TW
open PySem
/-! ### any value: is it a bush? -/
def SS : List Str := ["a", "b", "c", "f", "g", "s", "z", "A", "{", " ", "ab", "", "F"]
def ltr (s : Str) : Bool := decide (s.length = 1) && !(Builtin.Str.occurrences LETS s 0 LETS.length 1).isEmpty
def AZ : Str × Str := ("a", "z")
theorem ss_ok : (SS.all fun s => (!decide (s.length = 1) || ((!decide (s.cps.toList < AZ.1.cps.toList) && !decide (AZ.2.cps.toList < s.cps.toList)) == ltr s)) && decide (s.length ≤ 100)) = true := by decide +kernel
mutual
def oks : D → Bool
  | .str s => decide (s ∈ SS)
  | .tuple xs => okss xs
  | .dict _ => false
  | _ => true
def okss : List D → Bool
  | [] => true
  | x :: xs => oks x && okss xs
end
theorem okss_mem : ∀ {xs : List D}, okss xs = true → ∀ x ∈ xs, oks x = true
  | y :: ys, h, x, hx => by
    simp only [okss, Bool.and_eq_true] at h
    rcases List.mem_cons.mp hx with rfl | hx
    · exact h.1
    · exact okss_mem h.2 x hx
theorem okss_of : ∀ {xs : List D}, (∀ x ∈ xs, oks x = true) → okss xs = true
  | [], _ => rfl
  | y :: ys, h => by
    simp only [okss, h y (List.mem_cons_self ..), okss_of fun x hx => h x (List.mem_cons_of_mem _ hx), Bool.and_self]
def ltrD : D → Bool
  | .str s => ltr s
  | _ => false
def fitP : D → Bool
  | .tuple [] => true
  | .tuple (h :: r) => decide (1 ≤ r.length ∧ r.length ≤ 6) && ltrD h
  | _ => false
mutual
def isb : D → Nat → Nat
  | .tuple xs, d => if 60 < d then 1000 else isbt xs d
  | _, _ => 1000
def isbt : List D → Nat → Nat
  | [], _ => 1
  | h :: r, d => if (decide (1 ≤ r.length ∧ r.length ≤ 6) && ltrD h) = true then min 1000 (1 + isbs r (d + 1)) else 1000
def isbs : List D → Nat → Nat
  | [], _ => 0
  | x :: xs, d => isb x d + isbs xs d
end
theorem isb_pos : ∀ (x : D) (d : Nat), 1 ≤ isb x d
  | .tuple [], d => by simp only [isb, isbt]; split <;> omega
  | .tuple (h :: r), d => by
    simp only [isb, isbt]
    split
    · omega
    · split <;> omega
  | .none, d => by simp [isb]
  | .bool _, d => by simp [isb]
  | .int _, d => by simp [isb]
  | .str _, d => by simp [isb]
  | .list _, d => by simp [isb]
  | .dict _, d => by simp [isb]
theorem ss_mem {s : Str} (h : oks (.str s) = true) : (s.length = 1 → (!decide (s.cps.toList < AZ.1.cps.toList) && !decide (AZ.2.cps.toList < s.cps.toList)) = ltr s) ∧ s.length ≤ 100 := by
  simp only [oks, decide_eq_true_eq] at h
  have := List.all_eq_true.mp ss_ok s h
  simp only [Bool.and_eq_true, Bool.or_eq_true, Bool.not_eq_true', decide_eq_false_iff_not, beq_iff_eq, decide_eq_true_eq] at this
  refine ⟨fun e => ?_, this.2⟩
  rcases this.1 with h | h
  · exact absurd e h
  · exact h
def tupB : D → Bool
  | .tuple _ => true
  | _ => false
def lenD : D → Nat
  | .tuple xs => xs.length
  | _ => 0
theorem ev6g (W k : Nat) (hk : 0 < k) (x : D) (ox : oks x = true) (lo hi : Int) : callK FsT W k 6 [.d x, .d (.int lo), .d (.int hi)] = some (.d (.bool (tupB x && decide (lo ≤ lenD x ∧ ((lenD x : Nat) : Int) ≤ hi))), [.d x, .d (.int lo), .d (.int hi)]) := by
  cases x with
  | tuple xs =>
    simp only [tupB, lenD, Bool.true_and]
    exact ev6 W k hk xs lo hi
  | dict _ => simp [oks] at ox
  | _ =>
    obtain ⟨j, rfl⟩ : ∃ j, k = j + 1 := ⟨k - 1, by omega⟩
    simp [FsT, f6, b6, callK, evS, evE, evA, evO, evI, seqS, retF, asgF, asgPF, asgMF, stiF, expF, iteF, forF, andF, orF, notF, ifeF, bltF, consA, nilA, varF, litF, tupF, lstF, dicF, binF, negF, cmpF, cmp2F, idxF, slcF, calF, mtwF, sclF, noO, someO, rngF, seqF, toB, toI, vws, vw, view, dview, frz, frzs, keep1, keeps, put, puts, prep1, prep, lend, giveBack, updR, isAl, isOl, isOwn, bindT, bindTs, fin, outs, outs1, bltR, isiR, tyN, lenR, absR, intR, lstR, valsR, tuplR, cmpR, idxR, slcR, binR, isNoneD, tupB]
theorem ev7g (W k : Nat) (hk : 0 < k) (x : D) (ox : oks x = true) : callK FsT W k 7 [.d x] = some (.d (.bool (ltrD x)), [.d x]) := by
  obtain ⟨j, rfl⟩ : ∃ j, k = j + 1 := ⟨k - 1, by omega⟩
  cases x with
  | dict _ => simp [oks] at ox
  | str s =>
    have hl := (ss_mem ox).2
    have l1 : s.length ≤ LIM := by unfold LIM; omega
    have e0 : ∀ a b : Int, dpt (.int a) (.int b) = true := fun a b => by simp [dpt, PyData.depth]
    by_cases h1 : s.length = 1
    · have h4 : dpt (.int 1) (.int 1) = true := by decide
      have h5 : 1 ≤ LIM := by decide
      have hL : ltrD (.str s) = !(Builtin.Str.occurrences (Str.ofString "abcdefghijklmnopqrstuvwxyz") s 0 (Str.ofString "abcdefghijklmnopqrstuvwxyz").length 1).isEmpty := by
        simp only [ltrD, ltr, h1, decide_true, Bool.true_and]
        rfl
      rw [hL]
      simp [FsT, f7, b7, callK, evS, evE, evA, evO, evI, seqS, retF, asgF, asgPF, asgMF, stiF, expF, iteF, forF, andF, orF, notF, ifeF, bltF, consA, nilA, varF, litF, tupF, lstF, dicF, binF, negF, cmpF, cmp2F, idxF, slcF, calF, mtwF, sclF, noO, someO, rngF, seqF, toB, toI, vws, vw, view, dview, frz, frzs, keep1, keeps, put, puts, prep1, prep, lend, giveBack, updR, isAl, isOl, isOwn, bindT, bindTs, fin, outs, outs1, bltR, isiR, tyN, lenR, absR, intR, lstR, valsR, tuplR, cmpR, idxR, slcR, binR, isNoneD, h1, h4, h5, PyData.eqv]
    · have : ¬ (s.length : Int) = 1 := by omega
      have hL : ltrD (.str s) = false := by simp [ltrD, ltr, h1]
      rw [hL]
      have q1 : ((s.length : Int) == 1) = false := by simpa using this
      simp [FsT, f7, b7, callK, evS, evE, evA, evO, evI, seqS, retF, asgF, asgPF, asgMF, stiF, expF, iteF, forF, andF, orF, notF, ifeF, bltF, consA, nilA, varF, litF, tupF, lstF, dicF, binF, negF, cmpF, cmp2F, idxF, slcF, calF, mtwF, sclF, noO, someO, rngF, seqF, toB, toI, vws, vw, view, dview, frz, frzs, keep1, keeps, put, puts, prep1, prep, lend, giveBack, updR, isAl, isOl, isOwn, bindT, bindTs, fin, outs, outs1, bltR, isiR, tyN, lenR, absR, intR, lstR, valsR, tuplR, cmpR, idxR, slcR, binR, isNoneD, l1, e0, PyData.eqv, q1]
  | _ => simp [FsT, f7, b7, callK, evS, evE, evA, evO, evI, seqS, retF, asgF, asgPF, asgMF, stiF, expF, iteF, forF, andF, orF, notF, ifeF, bltF, consA, nilA, varF, litF, tupF, lstF, dicF, binF, negF, cmpF, cmp2F, idxF, slcF, calF, mtwF, sclF, noO, someO, rngF, seqF, toB, toI, vws, vw, view, dview, frz, frzs, keep1, keeps, put, puts, prep1, prep, lend, giveBack, updR, isAl, isOl, isOwn, bindT, bindTs, fin, outs, outs1, bltR, isiR, tyN, lenR, absR, intR, lstR, valsR, tuplR, cmpR, idxR, slcR, binR, isNoneD, ltrD]
theorem ev8g (W k : Nat) (hk : 1 < k) (x : D) (ox : oks x = true) : callK FsT W k 8 [.d x] = some (.d (.bool (fitP x)), [.d x]) := by
  obtain ⟨j, rfl⟩ : ∃ j, k = j + 1 := ⟨k - 1, by omega⟩
  have h1 := ev6g W j (by omega) x ox 0 0
  have h2 := ev6g W j (by omega) x ox 2 7
  by_cases ht : tupB x = true
  · cases x with
    | tuple xs =>
      cases xs with
      | nil =>
        simp [tupB, lenD] at h1
        simp [FsT, f8, b8, callK, evS, evE, evA, evO, evI, seqS, retF, asgF, asgPF, asgMF, stiF, expF, iteF, forF, andF, orF, notF, ifeF, bltF, consA, nilA, varF, litF, tupF, lstF, dicF, binF, negF, cmpF, cmp2F, idxF, slcF, calF, mtwF, sclF, noO, someO, rngF, seqF, toB, toI, vws, vw, view, dview, frz, frzs, keep1, keeps, put, puts, prep1, prep, lend, giveBack, updR, isAl, isOl, isOwn, bindT, bindTs, fin, outs, outs1, bltR, isiR, tyN, lenR, absR, intR, lstR, valsR, tuplR, cmpR, idxR, slcR, binR, isNoneD, h1, fitP]
      | cons h r =>
        have oh : oks h = true := okss_mem (show okss (h :: r) = true from ox) h (List.mem_cons_self ..)
        have h3 := ev7g W j (by omega) h oh
        have d1 : (tupB (.tuple (h :: r)) && decide ((0 : Int) ≤ lenD (.tuple (h :: r)) ∧ ((lenD (.tuple (h :: r)) : Nat) : Int) ≤ 0)) = false := by
          simp only [tupB, lenD, Bool.true_and, List.length_cons]
          apply decide_eq_false
          omega
        rw [d1] at h1
        have a0 : L2.atI (h :: r) 0 = some h := by simp [L2.atI, L2.ixN]
        by_cases hr : 1 ≤ r.length ∧ r.length ≤ 6
        · have d2 : (tupB (.tuple (h :: r)) && decide ((2 : Int) ≤ lenD (.tuple (h :: r)) ∧ ((lenD (.tuple (h :: r)) : Nat) : Int) ≤ 7)) = true := by
            simp only [tupB, lenD, Bool.true_and, List.length_cons]
            apply decide_eq_true
            omega
          rw [d2] at h2
          have e : fitP (.tuple (h :: r)) = ltrD h := by simp [fitP, hr]
          rw [e]
          simp [FsT, f8, b8, callK, evS, evE, evA, evO, evI, seqS, retF, asgF, asgPF, asgMF, stiF, expF, iteF, forF, andF, orF, notF, ifeF, bltF, consA, nilA, varF, litF, tupF, lstF, dicF, binF, negF, cmpF, cmp2F, idxF, slcF, calF, mtwF, sclF, noO, someO, rngF, seqF, toB, toI, vws, vw, view, dview, frz, frzs, keep1, keeps, put, puts, prep1, prep, lend, giveBack, updR, isAl, isOl, isOwn, bindT, bindTs, fin, outs, outs1, bltR, isiR, tyN, lenR, absR, intR, lstR, valsR, tuplR, cmpR, idxR, slcR, binR, isNoneD, h1, h2, h3, a0]
        · have d2 : (tupB (.tuple (h :: r)) && decide ((2 : Int) ≤ lenD (.tuple (h :: r)) ∧ ((lenD (.tuple (h :: r)) : Nat) : Int) ≤ 7)) = false := by
            simp only [tupB, lenD, Bool.true_and, List.length_cons]
            apply decide_eq_false
            omega
          rw [d2] at h2
          have e : fitP (.tuple (h :: r)) = false := by simp [fitP]; intro a b; omega
          rw [e]
          simp [FsT, f8, b8, callK, evS, evE, evA, evO, evI, seqS, retF, asgF, asgPF, asgMF, stiF, expF, iteF, forF, andF, orF, notF, ifeF, bltF, consA, nilA, varF, litF, tupF, lstF, dicF, binF, negF, cmpF, cmp2F, idxF, slcF, calF, mtwF, sclF, noO, someO, rngF, seqF, toB, toI, vws, vw, view, dview, frz, frzs, keep1, keeps, put, puts, prep1, prep, lend, giveBack, updR, isAl, isOl, isOwn, bindT, bindTs, fin, outs, outs1, bltR, isiR, tyN, lenR, absR, intR, lstR, valsR, tuplR, cmpR, idxR, slcR, binR, isNoneD, h1, h2]
    | _ => simp [tupB] at ht
  · have ht : tupB x = false := by simpa using ht
    rw [ht] at h1 h2
    have e : fitP x = false := by
      cases x with
      | tuple xs => simp [tupB] at ht
      | _ => rfl
    rw [e]
    simp only [Bool.false_and] at h1 h2
    simp [FsT, f8, b8, callK, evS, evE, evA, evO, evI, seqS, retF, asgF, asgPF, asgMF, stiF, expF, iteF, forF, andF, orF, notF, ifeF, bltF, consA, nilA, varF, litF, tupF, lstF, dicF, binF, negF, cmpF, cmp2F, idxF, slcF, calF, mtwF, sclF, noO, someO, rngF, seqF, toB, toI, vws, vw, view, dview, frz, frzs, keep1, keeps, put, puts, prep1, prep, lend, giveBack, updR, isAl, isOl, isOwn, bindT, bindTs, fin, outs, outs1, bltR, isiR, tyN, lenR, absR, intR, lstR, valsR, tuplR, cmpR, idxR, slcR, binR, isNoneD, h1, h2]
/-! the while of fits_bush over any values -/
def encX (p : D × Nat) : D := .tuple [p.1, .int p.2]
def chX : D → List D
  | .tuple (_ :: r) => r
  | _ => []
def isbl : List (D × Nat) → Nat
  | [] => 0
  | p :: st => isb p.1 p.2 + isbl st
theorem isbl_app : ∀ a b, isbl (a ++ b) = isbl a + isbl b
  | [], b => by simp [isbl]
  | p :: a, b => by simp [isbl, isbl_app a b, Nat.add_assoc]
theorem isbl_map (d : Nat) : ∀ r : List D, isbl (r.map fun x => (x, d)) = isbs r d
  | [] => rfl
  | x :: r => by simp [isbl, isbs, isbl_map d r]
theorem fit_loop2 (W k : Nat) (hk : 1 < k) (v : D) : ∀ (n : Nat) (st : List (D × Nat)) (m : Nat) (x3 x4 x5 : Option Rv), isOwn x3 = false → isOwn x4 = false → isOwn x5 = false → (∀ q ∈ st, oks q.1 = true) → m ≤ 400 → st.length ≤ 7 * m + 1 → 402 - m ≤ n →
    ∃ σ, whlL fitC (evS (callK FsT W k) W (match b9 with
      | .cons _ (.cons (.whl _ b) _) => b
      | _ => .nil)) n [some (.d v), some (.ol (st.map encX) false), some (.d (.int m)), x3, x4, x5] = some (if m + isbl st ≤ 400 then .nx else .ret (.d (.bool false)), σ)
  | 0, st, m, x3, x4, x5, _, _, _, _, hm, _, hn => by omega
  | n + 1, [], m, x3, x4, x5, h3, h4, h5, hs, hm, hl, hn => by
    have e : dpt (.list []) (.list []) = true := by decide
    have hh : m + isbl [] ≤ 400 := by simp only [isbl]; omega
    refine ⟨[some (.d v), some (.ol [] false), some (.d (.int m)), x3, x4, x5], ?_⟩
    rw [if_pos hh]
    simp [whlL, fitC, callK, evS, evE, evA, evO, evI, seqS, retF, asgF, asgPF, asgMF, stiF, expF, iteF, forF, andF, orF, notF, ifeF, bltF, consA, nilA, varF, litF, tupF, lstF, dicF, binF, negF, cmpF, cmp2F, idxF, slcF, calF, mtwF, sclF, noO, someO, rngF, seqF, toB, toI, vws, vw, view, dview, frz, frzs, keep1, keeps, put, puts, prep1, prep, lend, giveBack, updR, isAl, isOl, isOwn, bindT, bindTs, fin, outs, outs1, bltR, isiR, tyN, lenR, absR, intR, lstR, valsR, tuplR, cmpR, idxR, slcR, binR, isNoneD, e, PyData.eqv, PyData.eqvAll, LIM]
  | n + 1, (x, d) :: st, m, x3, x4, x5, h3, h4, h5, hs, hm, hl, hn => by
    have ox := hs (x, d) (List.mem_cons_self ..)
    have ox : oks x = true := ox
    have ip := isb_pos x d
    have e : dpt (.list (PyData.tuple [x, .int d] :: st.map encX)) (.list []) = true := by
      unfold dpt
      simp [PyData.depth, PyData.depthAll]
    have a0 : L2.atI (PyData.tuple [x, .int (d : Nat)] :: st.map encX) 0 = some (.tuple [x, .int (d : Nat)]) := by simp [L2.atI, L2.ixN]
    have ne : PyData.eqv (.list (PyData.tuple [x, .int (d : Nat)] :: st.map encX)) (.list []) = false := by simp [PyData.eqv, PyData.eqvAll]
    have p3 : ∀ (u0 u1 u2 u4 u5 : Option Rv) z, put 3 z [u0, u1, u2, x3, u4, u5] = some [u0, u1, u2, some z, u4, u5] := fun _ _ _ _ _ _ => put_free rfl h3
    have p4 : ∀ (u0 u1 u2 u3 u5 : Option Rv) z, put 4 z [u0, u1, u2, u3, x4, u5] = some [u0, u1, u2, u3, some z, u5] := fun _ _ _ _ _ _ => put_free rfl h4
    have p1 : ∀ (u0 u2 u3 u4 u5 : Option Rv) (l : List D) z, put 1 z [u0, some (.ol l false), u2, u3, u4, u5] = some [u0, some z, u2, u3, u4, u5] := fun _ _ _ _ _ _ _ => rfl
    have p1' : ∀ (u0 u2 u3 u4 u5 : Option Rv) (l : D) z, put 1 z [u0, some (.d l), u2, u3, u4, u5] = some [u0, some z, u2, u3, u4, u5] := fun _ _ _ _ _ _ _ => rfl
    have p2 : ∀ (u0 u1 u3 u4 u5 : Option Rv) (l : D) z, put 2 z [u0, u1, some (.d l), u3, u4, u5] = some [u0, u1, some z, u3, u4, u5] := fun _ _ _ _ _ _ _ => rfl
    have hc : fitC [some (.d v), some (.ol (PyData.tuple [x, .int (d : Nat)] :: st.map encX) false), some (.d (.int m)), x3, x4, x5] = some (true, [some (.d v), some (.ol (PyData.tuple [x, .int (d : Nat)] :: st.map encX) false), some (.d (.int m)), x3, x4, x5]) := by
      simp [fitC, callK, evS, evE, evA, evO, evI, seqS, retF, asgF, asgPF, asgMF, stiF, expF, iteF, forF, andF, orF, notF, ifeF, bltF, consA, nilA, varF, litF, tupF, lstF, dicF, binF, negF, cmpF, cmp2F, idxF, slcF, calF, mtwF, sclF, noO, someO, rngF, seqF, toB, toI, vws, vw, view, dview, frz, frzs, keep1, keeps, put, puts, prep1, prep, lend, giveBack, updR, isAl, isOl, isOwn, bindT, bindTs, fin, outs, outs1, bltR, isiR, tyN, lenR, absR, intR, lstR, valsR, tuplR, cmpR, idxR, slcR, binR, isNoneD, e, ne, LIM]
    have e8 := ev8g W k hk x ox
    have l3 : 3 ≤ LIM := by decide
    -- the first two statements
    have step1 : evS (callK FsT W k) W (match b9 with
      | .cons _ (.cons (.whl _ (.cons s _)) _) => s
      | _ => .nil) [some (.d v), some (.ol (PyData.tuple [x, .int (d : Nat)] :: st.map encX) false), some (.d (.int m)), x3, x4, x5] = some (.nx, [some (.d v), some (.d (.list (st.map encX))), some (.d (.int ((m : Int) + 1))), some (.d x), some (.d (.int d)), x5]) := by
      simp only [b9]
      simp [callK, evS, evE, evA, evO, evI, seqS, retF, asgF, asgPF, asgMF, stiF, expF, iteF, forF, andF, orF, notF, ifeF, bltF, consA, nilA, varF, litF, tupF, lstF, dicF, binF, negF, cmpF, cmp2F, idxF, slcF, calF, mtwF, sclF, noO, someO, rngF, seqF, toB, toI, vws, vw, view, dview, frz, frzs, keep1, keeps, puts, prep1, prep, lend, giveBack, updR, isAl, isOl, isOwn, bindT, bindTs, fin, outs, outs1, bltR, isiR, tyN, lenR, absR, intR, lstR, valsR, tuplR, cmpR, idxR, slcR, binR, isNoneD, l3, a0, cut_tail, p1, p2, p3, p4]
    simp only [b9] at step1
    by_cases bad : m = 400 ∨ 60 < d ∨ fitP x = false
    · have big : ¬ m + isbl ((x, d) :: st) ≤ 400 := by
        simp only [isbl]
        rcases bad with h | h | h
        · omega
        · have : isb x d = 1000 := by cases x <;> simp [isb, h]
          omega
        · have : isb x d = 1000 := by
            cases x with
            | tuple xs =>
              cases xs with
              | nil => simp [fitP] at h
              | cons y r =>
                have hn : ¬ (decide (1 ≤ r.length ∧ r.length ≤ 6) && ltrD y) = true := by
                  intro e
                  rw [show fitP (.tuple (y :: r)) = (decide (1 ≤ r.length ∧ r.length ≤ 6) && ltrD y) from rfl, e] at h
                  cases h
                simp only [isb, isbt]
                rw [if_neg hn]
                split <;> rfl
            | _ => simp [isb]
          omega
      refine ⟨[some (.d v), some (.d (.list (st.map encX))), some (.d (.int ((m : Int) + 1))), some (.d x), some (.d (.int d)), x5], ?_⟩
      rw [if_neg big]
      show whlL fitC _ (n + 1) _ = _
      simp only [whlL, List.map_cons, encX, hc, b9]
      have step2 : evS (callK FsT W k) W (match b9 with
        | .cons _ (.cons (.whl _ (.cons _ (.cons s _))) _) => s
        | _ => .nil) [some (.d v), some (.d (.list (st.map encX))), some (.d (.int ((m : Int) + 1))), some (.d x), some (.d (.int d)), x5] = some (.ret (.d (.bool false)), [some (.d v), some (.d (.list (st.map encX))), some (.d (.int ((m : Int) + 1))), some (.d x), some (.d (.int d)), x5]) := by
        simp only [b9]
        generalize st.map encX = L at *
        by_cases c1 : (400 : Int) < (m : Int) + 1
        · simp [callK, evS, evE, evA, evO, evI, seqS, retF, asgF, asgPF, asgMF, stiF, expF, iteF, forF, andF, orF, notF, ifeF, bltF, consA, nilA, varF, litF, tupF, lstF, dicF, binF, negF, cmpF, cmp2F, idxF, slcF, calF, mtwF, sclF, noO, someO, rngF, seqF, toB, toI, vws, vw, view, dview, frz, frzs, keep1, keeps, puts, prep1, prep, lend, giveBack, updR, isAl, isOl, isOwn, bindT, bindTs, fin, outs, outs1, bltR, isiR, tyN, lenR, absR, intR, lstR, valsR, tuplR, cmpR, idxR, slcR, binR, isNoneD, c1]
        · by_cases c2 : (60 : Int) < (d : Int)
          · simp [callK, evS, evE, evA, evO, evI, seqS, retF, asgF, asgPF, asgMF, stiF, expF, iteF, forF, andF, orF, notF, ifeF, bltF, consA, nilA, varF, litF, tupF, lstF, dicF, binF, negF, cmpF, cmp2F, idxF, slcF, calF, mtwF, sclF, noO, someO, rngF, seqF, toB, toI, vws, vw, view, dview, frz, frzs, keep1, keeps, puts, prep1, prep, lend, giveBack, updR, isAl, isOl, isOwn, bindT, bindTs, fin, outs, outs1, bltR, isiR, tyN, lenR, absR, intR, lstR, valsR, tuplR, cmpR, idxR, slcR, binR, isNoneD, c1, c2]
          · rcases bad with h | h | h
            · omega
            · omega
            · rw [h] at e8
              simp [callK, evS, evE, evA, evO, evI, seqS, retF, asgF, asgPF, asgMF, stiF, expF, iteF, forF, andF, orF, notF, ifeF, bltF, consA, nilA, varF, litF, tupF, lstF, dicF, binF, negF, cmpF, cmp2F, idxF, slcF, calF, mtwF, sclF, noO, someO, rngF, seqF, toB, toI, vws, vw, view, dview, frz, frzs, keep1, keeps, puts, prep1, prep, lend, giveBack, updR, isAl, isOl, isOwn, bindT, bindTs, fin, outs, outs1, bltR, isiR, tyN, lenR, absR, intR, lstR, valsR, tuplR, cmpR, idxR, slcR, binR, isNoneD, c1, c2, e8]
      simp only [b9] at step2
      rw [evS_cons, seq_nx step1, evS_cons, seq_ret step2]
    · have b1 : ¬ m = 400 := fun h => bad (.inl h)
      have b2 : ¬ 60 < d := fun h => bad (.inr (.inl h))
      have b3 : fitP x = true := by
        cases h : fitP x
        · exact absurd (.inr (.inr h)) bad
        · rfl
      rw [b3] at e8
      have c1 : ¬ (400 : Int) < (m : Int) + 1 := by omega
      have c2 : ¬ (60 : Int) < (d : Int) := by omega
      have chl : (chX x).length ≤ 6 := by
        cases x with
        | tuple xs =>
          cases xs with
          | nil => simp [chX]
          | cons y r =>
            simp only [fitP, Bool.and_eq_true, decide_eq_true_eq] at b3
            simp only [chX]
            omega
        | _ => simp [chX]
      have och : ∀ y ∈ chX x, oks y = true := by
        cases x with
        | tuple xs =>
          cases xs with
          | nil => intro y hy; cases hy
          | cons z r => exact fun y hy => okss_mem (show okss (z :: r) = true from ox) y (List.mem_cons_of_mem _ hy)
        | _ => intro y hy; cases hy
      have hx : ∃ xs, x = .tuple xs ∧ cut xs (some 1) none = chX x := by
        cases x with
        | tuple xs =>
          refine ⟨xs, rfl, ?_⟩
          cases xs with
          | nil => simp [cut, HT.sIx, chX]
          | cons y r => exact cut_tail
        | _ => simp [fitP] at b3
      obtain ⟨xs, ex, ecut⟩ := hx
      have lc := lc_map (σ := [some (.d v), some (.d (.list (st.map encX))), some (.d (.int ((m : Int) + 1))), some (.d x), some (.d (.int d)), x5]) (i := 5) (l := chX x) (e := fun y => y) (g := fun y => encX (y, d + 1)) (fe := tupF (consA (varF 5) (consA (binF .Add (varF 4) (litF (.int 1))) nilA))) (it := seqF (slcF slcR (varF 3) (someO (litF (.int 1))) noO))
        (by simp) (by simpa using h5) (by rw [ex] at ecut ⊢; simp [callK, evS, evE, evA, evO, evI, seqS, retF, asgF, asgPF, asgMF, stiF, expF, iteF, forF, andF, orF, notF, ifeF, bltF, consA, nilA, varF, litF, tupF, lstF, dicF, binF, negF, cmpF, cmp2F, idxF, slcF, calF, mtwF, sclF, noO, someO, rngF, seqF, toB, toI, vws, vw, view, dview, frz, frzs, keep1, keeps, put, puts, prep1, prep, lend, giveBack, updR, isAl, isOl, isOwn, bindT, bindTs, fin, outs, outs1, bltR, isiR, tyN, lenR, absR, intR, lstR, valsR, tuplR, cmpR, idxR, slcR, binR, isNoneD, ecut]) (lim6 chl) (fun y hy => by simp [callK, evS, evE, evA, evO, evI, seqS, retF, asgF, asgPF, asgMF, stiF, expF, iteF, forF, andF, orF, notF, ifeF, bltF, consA, nilA, varF, litF, tupF, lstF, dicF, binF, negF, cmpF, cmp2F, idxF, slcF, calF, mtwF, sclF, noO, someO, rngF, seqF, toB, toI, vws, vw, view, dview, frz, frzs, keep1, keeps, put, puts, prep1, prep, lend, giveBack, updR, isAl, isOl, isOwn, bindT, bindTs, fin, outs, outs1, bltR, isiR, tyN, lenR, absR, intR, lstR, valsR, tuplR, cmpR, idxR, slcR, binR, isNoneD, encX, LIM])
      have eq1 : m + isbl ((x, d) :: st) ≤ 400 ↔ (m + 1) + isbl (((chX x).map fun y => (y, d + 1)) ++ st) ≤ 400 := by
        rw [isbl_app, isbl_map]
        simp only [isbl]
        subst ex
        cases xs with
        | nil => simp [isb, isbt, b2, chX, isbs]; omega
        | cons y r =>
          have : (decide (1 ≤ r.length ∧ r.length ≤ 6) && ltrD y) = true := b3
          simp only [isb, isbt, this, if_true, b2, if_false, chX]
          omega
      obtain ⟨σ, ih⟩ := fit_loop2 W k hk v n (((chX x).map fun y => (y, d + 1)) ++ st) (m + 1) (some (.d x)) (some (.d (.int d))) x5 rfl rfl h5 (fun q hq => by
        rcases List.mem_append.mp hq with hq | hq
        · obtain ⟨y, hy, rfl⟩ := List.mem_map.mp hq
          exact och y hy
        · exact hs q (List.mem_cons_of_mem _ hq)) (by omega) (by simp only [List.length_append, List.length_map, List.length_cons] at hl ⊢; omega) (by omega)
      refine ⟨σ, ?_⟩
      have hif : (if m + isbl ((x, d) :: st) ≤ 400 then Flow.nx else .ret (.d (.bool false))) = if (m + 1) + isbl (((chX x).map fun y => (y, d + 1)) ++ st) ≤ 400 then Flow.nx else .ret (.d (.bool false)) := by
        by_cases h : m + isbl ((x, d) :: st) ≤ 400
        · rw [if_pos h, if_pos (eq1.mp h)]
        · rw [if_neg h, if_neg fun h' => h (eq1.mpr h')]
      rw [hif, ← ih]
      have em : (((chX x).map fun y => (y, d + 1)) ++ st).map encX = (chX x).map (fun y => encX (y, d + 1)) ++ st.map encX := by simp [Function.comp_def]
      rw [em]
      have step2 : evS (callK FsT W k) W (match b9 with
        | .cons _ (.cons (.whl _ (.cons _ (.cons s _))) _) => s
        | _ => .nil) [some (.d v), some (.d (.list (st.map encX))), some (.d (.int ((m : Int) + 1))), some (.d x), some (.d (.int d)), x5] = some (.nx, [some (.d v), some (.d (.list (st.map encX))), some (.d (.int ((m : Int) + 1))), some (.d x), some (.d (.int d)), x5]) := by
        simp only [b9]
        generalize st.map encX = L at *
        simp [callK, evS, evE, evA, evO, evI, seqS, retF, asgF, asgPF, asgMF, stiF, expF, iteF, forF, andF, orF, notF, ifeF, bltF, consA, nilA, varF, litF, tupF, lstF, dicF, binF, negF, cmpF, cmp2F, idxF, slcF, calF, mtwF, sclF, noO, someO, rngF, seqF, toB, toI, vws, vw, view, dview, frz, frzs, keep1, keeps, puts, prep1, prep, lend, giveBack, updR, isAl, isOl, isOwn, bindT, bindTs, fin, outs, outs1, bltR, isiR, tyN, lenR, absR, intR, lstR, valsR, tuplR, cmpR, idxR, slcR, binR, isNoneD, c1, c2, e8]
      simp only [b9] at step2
      have ll : ((chX x).map (fun y => encX (y, d + 1))).length + (st.map encX).length ≤ LIM := by
        simp only [List.length_map, List.length_cons] at hl ⊢
        unfold LIM
        omega
      have step3 : evS (callK FsT W k) W (match b9 with
        | .cons _ (.cons (.whl _ (.cons _ (.cons _ (.cons s _)))) _) => s
        | _ => .nil) [some (.d v), some (.d (.list (st.map encX))), some (.d (.int ((m : Int) + 1))), some (.d x), some (.d (.int d)), x5] = some (.nx, [some (.d v), some (.ol ((chX x).map (fun y => encX (y, d + 1)) ++ st.map encX) false), some (.d (.int ((m : Int) + 1))), some (.d x), some (.d (.int d)), x5]) := by
        simp only [b9]
        generalize st.map encX = L at *
        generalize (chX x).map (fun y => encX (y, d + 1)) = CH at *
        simp only [evS, evE, evA, evI, evO, asgF, binF, lc]
        simp [varF, view, binR, ll, keep1, frz, p1']
      simp only [b9] at step3
      show whlL fitC _ (n + 1) _ = _
      simp only [whlL, List.map_cons, encX, hc, b9]
      rw [evS_cons, seq_nx step1, evS_cons, seq_nx step2, evS_cons, seq_nx step3]
      simp only [evS]
      rw [show ((m + 1 : Nat) : Int) = (m : Int) + 1 from by omega]
      rfl
end TW
end

section
namespace TW
open PySem
theorem fits2_ok (x : D) (ox : oks x = true) (W k : Nat) (hW : 500 ≤ W) (hk : 2 < k) : callK FsT W k 9 [.d x] = some (.d (.bool (decide (isb x 0 ≤ 400))), [.d x]) := by
  obtain ⟨j, rfl⟩ : ∃ j, k = j + 1 := ⟨k - 1, by omega⟩
  obtain ⟨σ, hs⟩ := fit_loop2 W j (by omega) x W [(x, 0)] 0 none none none rfl rfl rfl (fun q hq => by simp at hq; rw [hq]; exact ox) (by omega) (by simp) (by omega)
  have e0 : 0 + isbl [(x, 0)] = isb x 0 := by simp [isbl]
  rw [e0] at hs
  simp only [List.map_cons, List.map_nil, encX] at hs
  have st : asgMF [1, 2] (evA (callK FsT W j) (match b9 with
      | .cons (.asgM _ e) _ => e
      | _ => .nil)) [some (.d x), none, none, none, none, none] = some (.nx, [some (.d x), some (.ol [.tuple [x, .int (0 : Nat)]] false), some (.d (.int (0 : Nat))), none, none, none]) := by
    simp only [b9]
    simp [callK, evS, evE, evA, evO, evI, seqS, retF, asgF, asgPF, asgMF, stiF, expF, iteF, forF, andF, orF, notF, ifeF, bltF, consA, nilA, varF, litF, tupF, lstF, dicF, binF, negF, cmpF, cmp2F, idxF, slcF, calF, mtwF, sclF, noO, someO, rngF, seqF, toB, toI, vws, vw, view, dview, frz, frzs, keep1, keeps, put, puts, prep1, prep, lend, giveBack, updR, isAl, isOl, isOwn, bindT, bindTs, fin, outs, outs1, bltR, isiR, tyN, lenR, absR, intR, lstR, valsR, tuplR, cmpR, idxR, slcR, binR, isNoneD, LIM]
  by_cases h : isb x 0 ≤ 400
  · rw [if_pos h] at hs
    have e1 : evS (callK FsT W j) W b9 [some (.d x), none, none, none, none, none] = some (.ret (.d (.bool true)), σ) := by
      refine (seq_nx st).trans ?_
      refine (seq_nx (σ1 := σ) hs).trans ?_
      rfl
    rw [call_ret (fd := f9) rfl rfl e1 rfl, outs_d1]
    simp [h]
  · rw [if_neg h] at hs
    have e1 : evS (callK FsT W j) W b9 [some (.d x), none, none, none, none, none] = some (.ret (.d (.bool false)), σ) := by
      refine (seq_nx st).trans ?_
      exact seq_ret hs
    rw [call_ret (fd := f9) rfl rfl e1 rfl, outs_d1]
    simp [h]
theorem isbs_sum (d : Nat) : ∀ r : List D, (r.map fun x => ((isb x d : Nat) : Int)).sum = (isbs r d : Nat)
  | [] => rfl
  | x :: r => by simp only [List.map_cons, List.sum_cons, isbs_sum d r, isbs]; omega
mutual
theorem lisb_ok : ∀ (x : D), oks x = true → ∀ (d W k : Nat), 62 - d < k → callK FsT W k 1027 [.d x, .d (.int (d : Nat))] = some (.d (.int (isb x d : Nat)), [.d x, .d (.int (d : Nat))])
  | .none, _, d, W, k, hk => by
    obtain ⟨j, rfl⟩ : ∃ j, k = j + 1 := ⟨k - 1, by omega⟩
    simp [FsT, f1027, b1027, callK, evS, evE, evA, evO, evI, seqS, retF, asgF, asgPF, asgMF, stiF, expF, iteF, forF, andF, orF, notF, ifeF, bltF, consA, nilA, varF, litF, tupF, lstF, dicF, binF, negF, cmpF, cmp2F, idxF, slcF, calF, mtwF, sclF, noO, someO, rngF, seqF, toB, toI, vws, vw, view, dview, frz, frzs, keep1, keeps, put, puts, prep1, prep, lend, giveBack, updR, isAl, isOl, isOwn, bindT, bindTs, fin, outs, outs1, bltR, isiR, tyN, lenR, absR, intR, lstR, valsR, tuplR, cmpR, idxR, slcR, binR, isNoneD, isb]
  | .bool _, _, d, W, k, hk => by
    obtain ⟨j, rfl⟩ : ∃ j, k = j + 1 := ⟨k - 1, by omega⟩
    simp [FsT, f1027, b1027, callK, evS, evE, evA, evO, evI, seqS, retF, asgF, asgPF, asgMF, stiF, expF, iteF, forF, andF, orF, notF, ifeF, bltF, consA, nilA, varF, litF, tupF, lstF, dicF, binF, negF, cmpF, cmp2F, idxF, slcF, calF, mtwF, sclF, noO, someO, rngF, seqF, toB, toI, vws, vw, view, dview, frz, frzs, keep1, keeps, put, puts, prep1, prep, lend, giveBack, updR, isAl, isOl, isOwn, bindT, bindTs, fin, outs, outs1, bltR, isiR, tyN, lenR, absR, intR, lstR, valsR, tuplR, cmpR, idxR, slcR, binR, isNoneD, isb]
  | .int _, _, d, W, k, hk => by
    obtain ⟨j, rfl⟩ : ∃ j, k = j + 1 := ⟨k - 1, by omega⟩
    simp [FsT, f1027, b1027, callK, evS, evE, evA, evO, evI, seqS, retF, asgF, asgPF, asgMF, stiF, expF, iteF, forF, andF, orF, notF, ifeF, bltF, consA, nilA, varF, litF, tupF, lstF, dicF, binF, negF, cmpF, cmp2F, idxF, slcF, calF, mtwF, sclF, noO, someO, rngF, seqF, toB, toI, vws, vw, view, dview, frz, frzs, keep1, keeps, put, puts, prep1, prep, lend, giveBack, updR, isAl, isOl, isOwn, bindT, bindTs, fin, outs, outs1, bltR, isiR, tyN, lenR, absR, intR, lstR, valsR, tuplR, cmpR, idxR, slcR, binR, isNoneD, isb]
  | .str _, _, d, W, k, hk => by
    obtain ⟨j, rfl⟩ : ∃ j, k = j + 1 := ⟨k - 1, by omega⟩
    simp [FsT, f1027, b1027, callK, evS, evE, evA, evO, evI, seqS, retF, asgF, asgPF, asgMF, stiF, expF, iteF, forF, andF, orF, notF, ifeF, bltF, consA, nilA, varF, litF, tupF, lstF, dicF, binF, negF, cmpF, cmp2F, idxF, slcF, calF, mtwF, sclF, noO, someO, rngF, seqF, toB, toI, vws, vw, view, dview, frz, frzs, keep1, keeps, put, puts, prep1, prep, lend, giveBack, updR, isAl, isOl, isOwn, bindT, bindTs, fin, outs, outs1, bltR, isiR, tyN, lenR, absR, intR, lstR, valsR, tuplR, cmpR, idxR, slcR, binR, isNoneD, isb]
  | .list _, _, d, W, k, hk => by
    obtain ⟨j, rfl⟩ : ∃ j, k = j + 1 := ⟨k - 1, by omega⟩
    simp [FsT, f1027, b1027, callK, evS, evE, evA, evO, evI, seqS, retF, asgF, asgPF, asgMF, stiF, expF, iteF, forF, andF, orF, notF, ifeF, bltF, consA, nilA, varF, litF, tupF, lstF, dicF, binF, negF, cmpF, cmp2F, idxF, slcF, calF, mtwF, sclF, noO, someO, rngF, seqF, toB, toI, vws, vw, view, dview, frz, frzs, keep1, keeps, put, puts, prep1, prep, lend, giveBack, updR, isAl, isOl, isOwn, bindT, bindTs, fin, outs, outs1, bltR, isiR, tyN, lenR, absR, intR, lstR, valsR, tuplR, cmpR, idxR, slcR, binR, isNoneD, isb]
  | .dict _, h, d, W, k, hk => by simp [oks] at h
  | .tuple xs, h, d, W, k, hk => by
    have hx : okss xs = true := h
    obtain ⟨j, rfl⟩ : ∃ j, k = j + 1 := ⟨k - 1, by omega⟩
    have e0 : ∀ a b : Int, dpt (.int a) (.int b) = true := fun a b => by simp [dpt, PyData.depth]
    by_cases c2 : 60 < d
    · have c2' : (60 : Int) < (d : Int) := by omega
      have e1 : isb (.tuple xs) d = 1000 := by simp [isb, c2]
      rw [e1]
      simp [FsT, f1027, b1027, callK, evS, evE, evA, evO, evI, seqS, retF, asgF, asgPF, asgMF, stiF, expF, iteF, forF, andF, orF, notF, ifeF, bltF, consA, nilA, varF, litF, tupF, lstF, dicF, binF, negF, cmpF, cmp2F, idxF, slcF, calF, mtwF, sclF, noO, someO, rngF, seqF, toB, toI, vws, vw, view, dview, frz, frzs, keep1, keeps, put, puts, prep1, prep, lend, giveBack, updR, isAl, isOl, isOwn, bindT, bindTs, fin, outs, outs1, bltR, isiR, tyN, lenR, absR, intR, lstR, valsR, tuplR, cmpR, idxR, slcR, binR, isNoneD, c2']
    · have c2' : ¬ (60 : Int) < (d : Int) := by omega
      have ih := lisbs_ok xs hx (d + 1) W j (by omega)
      cases xs with
      | nil =>
        have e1 : isb (.tuple []) d = 1 := by simp [isb, isbt, c2]
        rw [e1]
        simp [FsT, f1027, b1027, callK, evS, evE, evA, evO, evI, seqS, retF, asgF, asgPF, asgMF, stiF, expF, iteF, forF, andF, orF, notF, ifeF, bltF, consA, nilA, varF, litF, tupF, lstF, dicF, binF, negF, cmpF, cmp2F, idxF, slcF, calF, mtwF, sclF, noO, someO, rngF, seqF, toB, toI, vws, vw, view, dview, frz, frzs, keep1, keeps, put, puts, prep1, prep, lend, giveBack, updR, isAl, isOl, isOwn, bindT, bindTs, fin, outs, outs1, bltR, isiR, tyN, lenR, absR, intR, lstR, valsR, tuplR, cmpR, idxR, slcR, binR, isNoneD, c2', e0, PyData.eqv]
      | cons y r =>
        have oy := okss_mem hx y (List.mem_cons_self ..)
        have q0 : ((((y :: r).length : Nat) : Int) == 0) = false := by simp; omega
        have a0 : L2.atI (y :: r) 0 = some y := by simp [L2.atI, L2.ixN]
        have s1 : evS (callK FsT W j) W (match b1027 with
            | .cons s _ => s
            | _ => .nil) [some (.d (.tuple (y :: r))), some (.d (.int (d : Nat))), none] = some (.nx, [some (.d (.tuple (y :: r))), some (.d (.int (d : Nat))), none]) := by
          simp only [b1027]
          simp [callK, evS, evE, evA, evO, evI, seqS, retF, asgF, asgPF, asgMF, stiF, expF, iteF, forF, andF, orF, notF, ifeF, bltF, consA, nilA, varF, litF, tupF, lstF, dicF, binF, negF, cmpF, cmp2F, idxF, slcF, calF, mtwF, sclF, noO, someO, rngF, seqF, toB, toI, vws, vw, view, dview, frz, frzs, keep1, keeps, put, puts, prep1, prep, lend, giveBack, updR, isAl, isOl, isOwn, bindT, bindTs, fin, outs, outs1, bltR, isiR, tyN, lenR, absR, intR, lstR, valsR, tuplR, cmpR, idxR, slcR, binR, isNoneD, c2']
        have s2 : evS (callK FsT W j) W (match b1027 with
            | .cons _ (.cons s _) => s
            | _ => .nil) [some (.d (.tuple (y :: r))), some (.d (.int (d : Nat))), none] = some (.nx, [some (.d (.tuple (y :: r))), some (.d (.int (d : Nat))), none]) := by
          simp only [b1027]
          generalize y :: r = L at *
          simp [callK, evS, evE, evA, evO, evI, seqS, retF, asgF, asgPF, asgMF, stiF, expF, iteF, forF, andF, orF, notF, ifeF, bltF, consA, nilA, varF, litF, tupF, lstF, dicF, binF, negF, cmpF, cmp2F, idxF, slcF, calF, mtwF, sclF, noO, someO, rngF, seqF, toB, toI, vws, vw, view, dview, frz, frzs, keep1, keeps, put, puts, prep1, prep, lend, giveBack, updR, isAl, isOl, isOwn, bindT, bindTs, fin, outs, outs1, bltR, isiR, tyN, lenR, absR, intR, lstR, valsR, tuplR, cmpR, idxR, slcR, binR, isNoneD, e0, PyData.eqv, q0]
        simp only [b1027] at s1 s2
        have fin : ∀ v, evS (callK FsT W j) W (match b1027 with
            | .cons _ (.cons _ s) => s
            | _ => .nil) [some (.d (.tuple (y :: r))), some (.d (.int (d : Nat))), none] = some (.ret (.d (.int v)), [some (.d (.tuple (y :: r))), some (.d (.int (d : Nat))), none]) → callK FsT W (j + 1) 1027 [.d (.tuple (y :: r)), .d (.int (d : Nat))] = some (.d (.int v), [.d (.tuple (y :: r)), .d (.int (d : Nat))]) := fun v hv => by
          have e1 : evS (callK FsT W j) W b1027 [some (.d (.tuple (y :: r))), some (.d (.int (d : Nat))), none] = some (.ret (.d (.int v)), [some (.d (.tuple (y :: r))), some (.d (.int (d : Nat))), none]) := by
            simp only [b1027] at hv
            unfold b1027
            exact evS_cons.trans ((seq_nx s1).trans (evS_cons.trans ((seq_nx s2).trans hv)))
          rw [call_ret (fd := f1027) rfl rfl e1 rfl]
          simp [outs, outs1]
        apply fin
        simp only [b1027]
        by_cases hr : 1 ≤ r.length ∧ r.length ≤ 6
        · have r1 : (2 : Int) ≤ ((y :: r).length : Nat) := by simp; omega
          have r2 : (((y :: r).length : Nat) : Int) ≤ 7 := by simp; omega
          by_cases hs : ∃ s, y = .str s
          · obtain ⟨s, rfl⟩ := hs
            obtain ⟨m1, m2⟩ := ss_mem oy
            have l1 : s.length ≤ LIM := by unfold LIM; omega
            have p1 : evS (callK FsT W j) W (match b1027 with
                | .cons _ (.cons _ (.cons s _)) => s
                | _ => .nil) [some (.d (.tuple (.str s :: r))), some (.d (.int (d : Nat))), none] = some (.nx, [some (.d (.tuple (.str s :: r))), some (.d (.int (d : Nat))), none]) := by
              simp only [b1027]
              generalize PyData.str s :: r = L at *
              simp [callK, evS, evE, evA, evO, evI, seqS, retF, asgF, asgPF, asgMF, stiF, expF, iteF, forF, andF, orF, notF, ifeF, bltF, consA, nilA, varF, litF, tupF, lstF, dicF, binF, negF, cmpF, cmp2F, idxF, slcF, calF, mtwF, sclF, noO, someO, rngF, seqF, toB, toI, vws, vw, view, dview, frz, frzs, keep1, keeps, put, puts, prep1, prep, lend, giveBack, updR, isAl, isOl, isOwn, bindT, bindTs, fin, outs, outs1, bltR, isiR, tyN, lenR, absR, intR, lstR, valsR, tuplR, cmpR, idxR, slcR, binR, isNoneD, a0, r1, r2]
            simp only [b1027] at p1
            refine evS_cons.trans ((seq_nx p1).trans ?_)
            by_cases hl : s.length = 1
            · have m1 := m1 hl
              by_cases ht : ltr s = true
              · rw [ht] at m1
                simp only [Bool.and_eq_true, Bool.not_eq_true', AZ] at m1
                have p2 : evS (callK FsT W j) W (match b1027 with
                    | .cons _ (.cons _ (.cons _ (.cons s _))) => s
                    | _ => .nil) [some (.d (.tuple (.str s :: r))), some (.d (.int (d : Nat))), none] = some (.nx, [some (.d (.tuple (.str s :: r))), some (.d (.int (d : Nat))), none]) := by
                  simp only [b1027]
                  have l0 : 1 ≤ LIM := by decide
                  have m2' : ¬ s.cps < (Str.ofString "a").cps := by simpa using m1.1
                  have m3' : ¬ (Str.ofString "z").cps < s.cps := by simpa using m1.2
                  generalize PyData.str s :: r = L at *
                  have q1 : ((s.length : Int) == 1) = true := by rw [hl]; rfl
                  simp only [evS, iteF, evE, evA, orF, notF, cmpF, cmp2F, idxF, bltF, consA, nilA, varF, litF]
                  simp [vws, vw, view, idxR, a0, bltR, lenR, l1, cmpR, e0, PyData.eqv, q1, toB, m2', m3']
                simp only [b1027] at p2
                refine evS_cons.trans ((seq_nx p2).trans ?_)
                rw [evS_cons]
                have hlc := lc_map (σ := [some (.d (.tuple (.str s :: r))), some (.d (.int (d : Nat))), none]) (i := 2) (l := r) (e := fun x => x) (g := fun x => .int (isb x (d + 1) : Nat)) (fe := calF (callK FsT W j) 1027 [false, false] (consA (varF 2) (consA (binF .Add (varF 1) (litF (.int 1))) nilA))) (it := seqF (slcF slcR (varF 0) (someO (litF (.int 1))) noO))
                  (by simp) (by simp [isOwn]) (by simp [callK, evS, evE, evA, evO, evI, seqS, retF, asgF, asgPF, asgMF, stiF, expF, iteF, forF, andF, orF, notF, ifeF, bltF, consA, nilA, varF, litF, tupF, lstF, dicF, binF, negF, cmpF, cmp2F, idxF, slcF, calF, mtwF, sclF, noO, someO, rngF, seqF, toB, toI, vws, vw, view, dview, frz, frzs, keep1, keeps, put, puts, prep1, prep, lend, giveBack, updR, isAl, isOl, isOwn, bindT, bindTs, fin, outs, outs1, bltR, isiR, tyN, lenR, absR, intR, lstR, valsR, tuplR, cmpR, idxR, slcR, binR, isNoneD, cut_tail]) (lim6 hr.2) fun x hx => by
                    have := ih x (List.mem_cons_of_mem _ hx)
                    rw [show ((d + 1 : Nat) : Int) = (d : Int) + 1 from by omega] at this
                    simp [callK, evS, evE, evA, evO, evI, seqS, retF, asgF, asgPF, asgMF, stiF, expF, iteF, forF, andF, orF, notF, ifeF, bltF, consA, nilA, varF, litF, tupF, lstF, dicF, binF, negF, cmpF, cmp2F, idxF, slcF, calF, mtwF, sclF, noO, someO, rngF, seqF, toB, toI, vws, vw, view, dview, frz, frzs, keep1, keeps, put, puts, prep1, prep, lend, giveBack, updR, isAl, isOl, isOwn, bindT, bindTs, fin, outs, outs1, bltR, isiR, tyN, lenR, absR, intR, lstR, valsR, tuplR, cmpR, idxR, slcR, binR, isNoneD, this]
                have si : intL (r.map fun x => PyData.int (isb x (d + 1) : Nat)) = some (r.map fun x => ((isb x (d + 1) : Nat) : Int)) := intL_map _ _
                have e1 : isb (.tuple (.str s :: r)) d = min 1000 (1 + isbs r (d + 1)) := by
                  simp [isb, isbt, c2, hr, ltrD, ht]
                rw [e1]
                have ss := isbs_sum (d + 1) r
                generalize r.map (fun x => PyData.int (isb x (d + 1) : Nat)) = R at *
                simp only [evS, evE, evA, evI, evO, seqS, retF, bltF, consA, nilA, binF, litF, hlc]
                have mm : (if 1 + ((isbs r (d + 1) : Nat) : Int) < 1000 then 1 + ((isbs r (d + 1) : Nat) : Int) else 1000) = ((min 1000 (1 + isbs r (d + 1)) : Nat) : Int) := by split <;> omega
                simp [vws, vw, view, bltR, sumR, minR, si, ss, binR, mm]
              · have ht : ltr s = false := by simpa using ht
                rw [ht] at m1
                have e1 : isb (.tuple (.str s :: r)) d = 1000 := by simp [isb, isbt, c2, ltrD, ht]
                rw [e1]
                refine evS_cons.trans (seq_ret ?_)
                generalize PyData.str s :: r = L at *
                have q1 : ((s.length : Int) == 1) = true := by rw [hl]; rfl
                simp only [AZ] at m1
                by_cases n1 : s.cps < (Str.ofString "a").cps
                · simp only [evS, iteF, evE, evA, orF, notF, cmpF, cmp2F, idxF, bltF, consA, nilA, varF, litF, seqS, retF]
                  simp [vws, vw, view, idxR, a0, bltR, lenR, l1, cmpR, e0, PyData.eqv, q1, toB, n1]
                · have n2 : (Str.ofString "z").cps < s.cps := by
                    by_cases n2 : (Str.ofString "z").cps < s.cps
                    · exact n2
                    · exfalso
                      simp [n1, n2] at m1
                  simp only [evS, iteF, evE, evA, orF, notF, cmpF, cmp2F, idxF, bltF, consA, nilA, varF, litF, seqS, retF]
                  simp [vws, vw, view, idxR, a0, bltR, lenR, l1, cmpR, e0, PyData.eqv, q1, toB, n1, n2]
            · have e1 : isb (.tuple (.str s :: r)) d = 1000 := by simp [isb, isbt, c2, ltrD, ltr, hl]
              rw [e1]
              have q1 : ((s.length : Int) == 1) = false := by simp; omega
              refine evS_cons.trans (seq_ret ?_)
              generalize PyData.str s :: r = L at *
              simp only [evS, iteF, evE, evA, orF, notF, cmpF, cmp2F, idxF, bltF, consA, nilA, varF, litF, seqS, retF]
              simp [vws, vw, view, idxR, a0, bltR, lenR, l1, cmpR, e0, PyData.eqv, q1, toB]
          · have nl : ltrD y = false := by
              cases y with
              | str s => exact absurd ⟨s, rfl⟩ hs
              | _ => rfl
            have e1 : isb (.tuple (y :: r)) d = 1000 := by simp [isb, isbt, c2, nl]
            rw [e1]
            refine evS_cons.trans (seq_ret ?_)
            have ni : isiR "str" [.d y] = some (.d (.bool false)) := by
              cases y with
              | str s => exact absurd ⟨s, rfl⟩ hs
              | dict _ => simp [oks] at oy
              | _ => simp [isiR, tyN]
            generalize y :: r = L at *
            simp only [evS, iteF, evE, evA, orF, notF, cmp2F, idxF, bltF, consA, nilA, varF, litF, seqS, retF]
            simp [vws, vw, view, idxR, a0, bltR, lenR, cmpR, toB, r1, r2, ni]
        · have e1 : isb (.tuple (y :: r)) d = 1000 := by
            simp only [isb, isbt, c2, if_false]
            rw [if_neg]
            simp [hr]
          rw [e1]
          refine evS_cons.trans (seq_ret ?_)
          by_cases r1 : (2 : Int) ≤ ((y :: r).length : Nat)
          · have r2 : ¬ (((y :: r).length : Nat) : Int) ≤ 7 := by simp at r1 ⊢; omega
            generalize y :: r = L at *
            simp [callK, evS, evE, evA, evO, evI, seqS, retF, asgF, asgPF, asgMF, stiF, expF, iteF, forF, andF, orF, notF, ifeF, bltF, consA, nilA, varF, litF, tupF, lstF, dicF, binF, negF, cmpF, cmp2F, idxF, slcF, calF, mtwF, sclF, noO, someO, rngF, seqF, toB, toI, vws, vw, view, dview, frz, frzs, keep1, keeps, put, puts, prep1, prep, lend, giveBack, updR, isAl, isOl, isOwn, bindT, bindTs, fin, outs, outs1, bltR, isiR, tyN, lenR, absR, intR, lstR, valsR, tuplR, cmpR, idxR, slcR, binR, isNoneD, r1, r2]
          · generalize y :: r = L at *
            simp [callK, evS, evE, evA, evO, evI, seqS, retF, asgF, asgPF, asgMF, stiF, expF, iteF, forF, andF, orF, notF, ifeF, bltF, consA, nilA, varF, litF, tupF, lstF, dicF, binF, negF, cmpF, cmp2F, idxF, slcF, calF, mtwF, sclF, noO, someO, rngF, seqF, toB, toI, vws, vw, view, dview, frz, frzs, keep1, keeps, put, puts, prep1, prep, lend, giveBack, updR, isAl, isOl, isOwn, bindT, bindTs, fin, outs, outs1, bltR, isiR, tyN, lenR, absR, intR, lstR, valsR, tuplR, cmpR, idxR, slcR, binR, isNoneD, r1]
theorem lisbs_ok : ∀ (xs : List D), okss xs = true → ∀ (d W j : Nat), 62 - d < j → ∀ x ∈ xs, callK FsT W j 1027 [.d x, .d (.int (d : Nat))] = some (.d (.int (isb x d : Nat)), [.d x, .d (.int (d : Nat))])
  | [], _, d, W, j, _, x, hx => by cases hx
  | y :: ys, h, d, W, j, hj, x, hx => by
    simp only [okss, Bool.and_eq_true] at h
    rcases List.mem_cons.mp hx with e | hx
    · rw [e]; exact lisb_ok y h.1 d W j hj
    · exact lisbs_ok ys h.2 d W j hj x hx
end
theorem is_bush_ok (x : D) (ox : oks x = true) (W k : Nat) (hW : 500 ≤ W) (hk : 3 < k) : callK FsT W k 1026 [.d x] = some (.d (.bool (decide (isb x 0 ≤ 400))), [.d x]) := by
  obtain ⟨j, rfl⟩ : ∃ j, k = j + 1 := ⟨k - 1, by omega⟩
  have h1 := fits2_ok x ox W j hW (by omega)
  simp [FsT, f1026, b1026, callK, evS, evE, evA, evO, evI, seqS, retF, asgF, asgPF, asgMF, stiF, expF, iteF, forF, andF, orF, notF, ifeF, bltF, consA, nilA, varF, litF, tupF, lstF, dicF, binF, negF, cmpF, cmp2F, idxF, slcF, calF, mtwF, sclF, noO, someO, rngF, seqF, toB, toI, vws, vw, view, dview, frz, frzs, keep1, keeps, put, puts, prep1, prep, lend, giveBack, updR, isAl, isOl, isOwn, bindT, bindTs, fin, outs, outs1, bltR, isiR, tyN, lenR, absR, intR, lstR, valsR, tuplR, cmpR, idxR, slcR, binR, isNoneD, h1]
theorem right6_ok (x : D) (ox : oks x = true) (W k : Nat) (hW : 500 ≤ W) (hk : 70 < k) : callK FsT W k 1028 [.d x] = some (.d (.bool true), [.d x]) := by
  obtain ⟨j, rfl⟩ : ∃ j, k = j + 1 := ⟨k - 1, by omega⟩
  have h1 := is_bush_ok x ox W j hW (by omega)
  have h2 : callK FsT W j 1027 [.d x, .d (.int 0)] = some (.d (.int (isb x 0 : Nat)), [.d x, .d (.int 0)]) := lisb_ok x ox 0 W j (by omega)
  have r2 := bool_rep
  have e0 : ∀ x y : Str, dpt (.str x) (.str y) = true := fun x y => by simp [dpt, PyData.depth]
  have e1 : ∀ x : Str, PyData.eqv (.str x) (.str x) = true := fun x => by simp [PyData.eqv]
  have e2 : decide (((isb x 0 : Nat) : Int) ≤ 400) = decide (isb x 0 ≤ 400) := by
    by_cases h : isb x 0 ≤ 400
    · have : ((isb x 0 : Nat) : Int) ≤ 400 := by omega
      simp [h, this]
    · have : ¬ ((isb x 0 : Nat) : Int) ≤ 400 := by omega
      simp [h, this]
  generalize isb x 0 = n at *
  generalize hb : decide (n ≤ 400) = b at *
  simp [FsT, f1028, b1028, callK, evS, evE, evA, evO, evI, seqS, retF, asgF, asgPF, asgMF, stiF, expF, iteF, forF, andF, orF, notF, ifeF, bltF, consA, nilA, varF, litF, tupF, lstF, dicF, binF, negF, cmpF, cmp2F, idxF, slcF, calF, mtwF, sclF, noO, someO, rngF, seqF, toB, toI, vws, vw, view, dview, frz, frzs, keep1, keeps, put, puts, prep1, prep, lend, giveBack, updR, isAl, isOl, isOwn, bindT, bindTs, fin, outs, outs1, bltR, isiR, tyN, lenR, absR, intR, lstR, valsR, tuplR, cmpR, idxR, slcR, binR, isNoneD, h1, h2, e2, repR, r2, e0, e1]
end TW
end

section
namespace TW
open PySem
theorem oks_str {s : Str} (h : letB s = true) : oks (.str s) = true := by
  unfold letB at h
  have h := of_decide_eq_true h
  simp only [List.mem_cons, List.not_mem_nil, or_false] at h
  rcases h with rfl | rfl | rfl | rfl | rfl | rfl | rfl <;> decide
mutual
theorem oks_enc : ∀ b : Bu, wf b = true → oks (enc b) = true
  | .tip, _ => by simp [enc, oks, okss]
  | .knot s bs, h => by
    simp only [wf, Bool.and_eq_true] at h
    simp only [enc, oks, okss, oks_encs bs h.2, Bool.and_true]
    exact oks_str h.1.1
theorem oks_encs : ∀ bs : Bus, wfs bs = true → okss (encs bs) = true
  | .nil, _ => rfl
  | .cons b bs, h => by
    simp only [wfs, Bool.and_eq_true] at h
    simp only [encs, okss, oks_enc b h.1, oks_encs bs h.2, Bool.and_self]
end
theorem isb_sm {b : Bu} (s : Sm b) : isb (enc b) 0 ≤ 400 := by
  have h1 := fits_ok b s.w s.h s.c 500 3 (by omega) (by omega)
  have h2 := fits2_ok (enc b) (oks_enc b s.w) 500 3 (by omega) (by omega)
  rw [h1] at h2
  simpa using h2.symm
def agB : D → Bool
  | .tuple xs => decide (xs.length ≤ 12) && xs.all fun x => decide (isb x 0 ≤ 400)
  | _ => false
theorem boolL_map {α : Type} (f : α → Bool) : ∀ l : List α, boolL (l.map fun a => .bool (f a)) = some (l.map f)
  | [] => rfl
  | a :: l => by simp [boolL, boolL_map f l]
theorem ag46_ok (v : D) (ov : oks v = true) (W k : Nat) (hW : 500 ≤ W) (hk : 4 < k) : callK FsT W k 46 [.d v] = some (.d (.bool (agB v)), [.d v]) := by
  obtain ⟨i, rfl⟩ : ∃ i, k = i + 1 := ⟨k - 1, by omega⟩
  have h6 := ev6g W i (by omega) v ov 0 12
  · by_cases ht : tupB v = true
    · cases v with
      | tuple xs =>
        have ox : okss xs = true := ov
        by_cases hl : xs.length ≤ 12
        · have d6 : (tupB (.tuple xs) && decide ((0 : Int) ≤ lenD (.tuple xs) ∧ ((lenD (.tuple xs) : Nat) : Int) ≤ 12)) = true := by
            simp only [tupB, lenD, Bool.true_and]
            apply decide_eq_true
            omega
          rw [d6] at h6
          have hlc := lc_map (σ := [some (.d (.tuple xs)), none]) (i := 1) (l := xs) (e := fun x => x) (g := fun x => .bool (decide (isb x 0 ≤ 400))) (fe := calF (callK FsT W i) 9 [false] (consA (varF 1) nilA)) (it := seqF (varF 0))
            (by simp) (by simp [isOwn]) (by simp [callK, evS, evE, evA, evO, evI, seqS, retF, asgF, asgPF, asgMF, stiF, expF, iteF, forF, andF, orF, notF, ifeF, bltF, consA, nilA, varF, litF, tupF, lstF, dicF, binF, negF, cmpF, cmp2F, idxF, slcF, calF, mtwF, sclF, noO, someO, rngF, seqF, toB, toI, vws, vw, view, dview, frz, frzs, keep1, keeps, put, puts, prep1, prep, lend, giveBack, updR, isAl, isOl, isOwn, bindT, bindTs, fin, outs, outs1, bltR, isiR, tyN, lenR, absR, intR, lstR, valsR, tuplR, cmpR, idxR, slcR, binR, isNoneD]) (Nat.le_trans hl (by decide)) fun x hx => by
              have := fits2_ok x (okss_mem ox x hx) W i hW (by omega)
              simp [callK, evS, evE, evA, evO, evI, seqS, retF, asgF, asgPF, asgMF, stiF, expF, iteF, forF, andF, orF, notF, ifeF, bltF, consA, nilA, varF, litF, tupF, lstF, dicF, binF, negF, cmpF, cmp2F, idxF, slcF, calF, mtwF, sclF, noO, someO, rngF, seqF, toB, toI, vws, vw, view, dview, frz, frzs, keep1, keeps, put, puts, prep1, prep, lend, giveBack, updR, isAl, isOl, isOwn, bindT, bindTs, fin, outs, outs1, bltR, isiR, tyN, lenR, absR, intR, lstR, valsR, tuplR, cmpR, idxR, slcR, binR, isNoneD, this]
          have bl := boolL_map (fun x => decide (isb x 0 ≤ 400)) xs
          have ea : agB (.tuple xs) = (xs.map fun x => decide (isb x 0 ≤ 400)).all id := by
            simp [agB, hl, List.all_map, Function.comp_def]
          rw [ea]
          generalize xs.map (fun x => PyData.bool (decide (isb x 0 ≤ 400))) = R at *
          generalize xs.map (fun x => decide (isb x 0 ≤ 400)) = R2 at *
          simp [FsT, f46, b46, callK, evS, evE, evA, evO, evI, seqS, retF, asgF, asgPF, asgMF, stiF, expF, iteF, forF, andF, orF, notF, ifeF, bltF, consA, nilA, varF, litF, tupF, lstF, dicF, binF, negF, cmpF, cmp2F, idxF, slcF, calF, mtwF, sclF, noO, someO, rngF, seqF, toB, toI, vws, vw, view, dview, frz, frzs, keep1, keeps, put, puts, prep1, prep, lend, giveBack, updR, isAl, isOl, isOwn, bindT, bindTs, fin, outs, outs1, bltR, isiR, tyN, lenR, absR, intR, lstR, valsR, tuplR, cmpR, idxR, slcR, binR, isNoneD, h6, hlc, allR, bl]
        · have d6 : (tupB (.tuple xs) && decide ((0 : Int) ≤ lenD (.tuple xs) ∧ ((lenD (.tuple xs) : Nat) : Int) ≤ 12)) = false := by
            simp only [tupB, lenD, Bool.true_and]
            apply decide_eq_false
            omega
          rw [d6] at h6
          have ea : agB (.tuple xs) = false := by simp [agB, hl]
          rw [ea]
          simp [FsT, f46, b46, callK, evS, evE, evA, evO, evI, seqS, retF, asgF, asgPF, asgMF, stiF, expF, iteF, forF, andF, orF, notF, ifeF, bltF, consA, nilA, varF, litF, tupF, lstF, dicF, binF, negF, cmpF, cmp2F, idxF, slcF, calF, mtwF, sclF, noO, someO, rngF, seqF, toB, toI, vws, vw, view, dview, frz, frzs, keep1, keeps, put, puts, prep1, prep, lend, giveBack, updR, isAl, isOl, isOwn, bindT, bindTs, fin, outs, outs1, bltR, isiR, tyN, lenR, absR, intR, lstR, valsR, tuplR, cmpR, idxR, slcR, binR, isNoneD, h6]
      | _ => simp [tupB] at ht
    · have ht : tupB v = false := by simpa using ht
      rw [ht] at h6
      simp only [Bool.false_and] at h6
      have ea : agB v = false := by
        cases v with
        | tuple xs => simp [tupB] at ht
        | _ => rfl
      rw [ea]
      simp [FsT, f46, b46, callK, evS, evE, evA, evO, evI, seqS, retF, asgF, asgPF, asgMF, stiF, expF, iteF, forF, andF, orF, notF, ifeF, bltF, consA, nilA, varF, litF, tupF, lstF, dicF, binF, negF, cmpF, cmp2F, idxF, slcF, calF, mtwF, sclF, noO, someO, rngF, seqF, toB, toI, vws, vw, view, dview, frz, frzs, keep1, keeps, put, puts, prep1, prep, lend, giveBack, updR, isAl, isOl, isOwn, bindT, bindTs, fin, outs, outs1, bltR, isiR, tyN, lenR, absR, intR, lstR, valsR, tuplR, cmpR, idxR, slcR, binR, isNoneD, h6]
theorem ag_ok (v : D) (ov : oks v = true) (W k : Nat) (hW : 500 ≤ W) (hk : 5 < k) : callK FsT W k 1029 [.d v] = some (.d (.bool (agB v)), [.d v]) := by
  obtain ⟨j, rfl⟩ : ∃ j, k = j + 1 := ⟨k - 1, by omega⟩
  have h46 := ag46_ok v ov W j hW (by omega)
  simp [FsT, f1029, b1029, callK, evS, evE, evA, evO, evI, seqS, retF, asgF, asgPF, asgMF, stiF, expF, iteF, forF, andF, orF, notF, ifeF, bltF, consA, nilA, varF, litF, tupF, lstF, dicF, binF, negF, cmpF, cmp2F, idxF, slcF, calF, mtwF, sclF, noO, someO, rngF, seqF, toB, toI, vws, vw, view, dview, frz, frzs, keep1, keeps, put, puts, prep1, prep, lend, giveBack, updR, isAl, isOl, isOwn, bindT, bindTs, fin, outs, outs1, bltR, isiR, tyN, lenR, absR, intR, lstR, valsR, tuplR, cmpR, idxR, slcR, binR, isNoneD, h46]
/-! a value that is no bush, or one -/
def wid7 : List D := [.tuple [], .tuple [], .tuple [], .tuple [], .tuple [], .tuple [], .tuple []]
def ODD : List D := [.none, .list [], .str "a", .tuple [.str "a"], .tuple [.str "A", .tuple []], .tuple [.tuple [.str "a"], .tuple []], .int 0, .bool true, .tuple [.str "ab", .tuple []], .tuple [.str "", .tuple []],
  .tuple (.str "a" :: wid7), .tuple [.str "a", .list [], .tuple []], .tuple [.int 1, .tuple []], .tuple [.str "a", .none], .list [.str "a", .tuple []],
  .tuple [.str "z", .tuple [], .tuple [], .tuple [], .tuple [], .tuple [], .tuple []], .tuple [.str "{", .tuple []], .tuple [.none, .tuple []], .tuple [.str "a", .str "b"], .tuple [.tuple [], .tuple []], .tuple [.tuple []], .tuple [.str " ", .tuple []]]
theorem odd_oks : (ODD.all oks) = true := by decide +kernel
theorem odd_ok (xs : List D) (hc : Cup xs) (W k : Nat) (hk : 2 < k) : ∃ y xs', callK FsT W k 1025 [.ol xs true] = some (.d y, [.ol xs' true]) ∧ Cup xs' ∧ oks y = true := by
  obtain ⟨j, rfl⟩ : ∃ j, k = j + 1 := ⟨k - 1, by omega⟩
  obtain ⟨y, x1, r1, c1, hy⟩ := some_ok xs hc ODD (by simp [ODD]) (by simp [ODD]) W j (by omega)
  refine ⟨y, x1, ?_, c1, List.all_eq_true.mp odd_oks y hy⟩
  have ct : cut [PyData.tuple [], .tuple [], .tuple [], .tuple [], .tuple [], .tuple [], .tuple []] none (some 6) = [PyData.tuple [], .tuple [], .tuple [], .tuple [], .tuple [], .tuple []] := rfl
  simp only [ODD, wid7] at r1
  have e1 : evS (callK FsT W j) W b1025 [some (.ol xs true), none, none] = some (.ret (.d y), [some (.ol x1 true), some (.d (.tuple wid7)), some (.ol (ODD.take 15) false)]) := by
    unfold b1025
    refine evS_cons.trans ((seq_nx (σ1 := [some (.ol xs true), some (.d (.tuple wid7)), none]) ?_).trans ?_)
    · simp [callK, evS, evE, evA, evO, evI, seqS, retF, asgF, asgPF, asgMF, stiF, expF, iteF, forF, andF, orF, notF, ifeF, bltF, consA, nilA, varF, litF, tupF, lstF, dicF, binF, negF, cmpF, cmp2F, idxF, slcF, calF, mtwF, sclF, noO, someO, rngF, seqF, toB, toI, vws, vw, view, dview, frz, frzs, keep1, keeps, put, puts, prep1, prep, lend, giveBack, updR, isAl, isOl, isOwn, bindT, bindTs, fin, outs, outs1, bltR, isiR, tyN, lenR, absR, intR, lstR, valsR, tuplR, cmpR, idxR, slcR, binR, isNoneD, LIM, List.replicate, wid7]
    refine evS_cons.trans ((seq_nx (σ1 := [some (.ol xs true), some (.d (.tuple wid7)), some (.ol (ODD.take 15) false)]) ?_).trans ?_)
    · simp [callK, evS, evE, evA, evO, evI, seqS, retF, asgF, asgPF, asgMF, stiF, expF, iteF, forF, andF, orF, notF, ifeF, bltF, consA, nilA, varF, litF, tupF, lstF, dicF, binF, negF, cmpF, cmp2F, idxF, slcF, calF, mtwF, sclF, noO, someO, rngF, seqF, toB, toI, vws, vw, view, dview, frz, frzs, keep1, keeps, put, puts, prep1, prep, lend, giveBack, updR, isAl, isOl, isOwn, bindT, bindTs, fin, outs, outs1, bltR, isiR, tyN, lenR, absR, intR, lstR, valsR, tuplR, cmpR, idxR, slcR, binR, isNoneD, LIM, ODD, wid7]
    · rw [evS_cons]
      simp [callK, evS, evE, evA, evO, evI, seqS, retF, asgF, asgPF, asgMF, stiF, expF, iteF, forF, andF, orF, notF, ifeF, bltF, consA, nilA, varF, litF, tupF, lstF, dicF, binF, negF, cmpF, cmp2F, idxF, slcF, calF, mtwF, sclF, noO, someO, rngF, seqF, toB, toI, vws, vw, view, dview, frz, frzs, keep1, keeps, put, puts, prep1, prep, lend, giveBack, updR, isAl, isOl, isOwn, bindT, bindTs, fin, outs, outs1, bltR, isiR, tyN, lenR, absR, intR, lstR, valsR, tuplR, cmpR, idxR, slcR, binR, isNoneD, LIM, ODD, wid7, ct, r1]
  rw [call_ret (fd := f1025) rfl rfl e1 rfl]
  simp [outs, outs1]
/-! any value at a road -/
def puX (y : D) : Rd → Bu → Option D
  | [], _ => some y
  | i :: r, .knot s bs => match bs.l[i]? with
    | some c => (puX y r c).map fun c' => .tuple (.str s :: (bs.l.map enc).set i c')
    | none => none
  | _ :: _, .tip => none
theorem puX_some {y : D} (oy : oks y = true) (g : Bu) : ∀ {r : Rd} {b b' : Bu}, wf b = true → pu g r b = some b' → ∃ z, puX y r b = some z ∧ oks z = true
  | [], b, b', _, h => ⟨y, by cases b <;> rfl, oy⟩
  | i :: r, .tip, b', _, h => by simp [pu] at h
  | i :: r, .knot s bs, b', w, h => by
    simp only [wf, Bool.and_eq_true, decide_eq_true_eq] at w
    simp only [pu] at h
    cases e : bs.l[i]? with
    | none => rw [e] at h; cases h
    | some c =>
      rw [e] at h
      cases q : pu g r c with
      | none => simp [q] at h
      | some c' =>
        obtain ⟨z, h1, h2⟩ := puX_some oy g (wfs_at w.2 e) q
        refine ⟨.tuple (.str s :: (bs.l.map enc).set i z), by simp only [puX, e, h1, Option.map_some], ?_⟩
        show okss (.str s :: (bs.l.map enc).set i z) = true
        refine okss_of fun x hx => ?_
        rcases List.mem_cons.mp hx with rfl | hx
        · exact oks_str w.1.1
        · rcases List.mem_or_eq_of_mem_set hx with hx | rfl
          · obtain ⟨b, hb, rfl⟩ := List.mem_map.mp hx
            exact oks_enc b (wfs_mem w.2 b hb)
          · exact h2
theorem putX_ok (y : D) : ∀ {r : Rd} {b : Bu} {z : D} (hw : wf b = true) (h : puX y r b = some z) (W k : Nat) (hk : r.length < k), callK FsT W k 34 [.d (enc b), .d (rd r), .d y] = some (.d z, [.d (enc b), .d (rd r), .d y])
  | [], b, z, hw, h, W, k, hk => by
    obtain ⟨j, rfl⟩ : ∃ j, k = j + 1 := ⟨k - 1, by omega⟩
    have e : z = y := by cases b <;> (simp only [puX, Option.some.injEq] at h; exact h.symm)
    subst e
    have e1 : PyData.eqv (rd []) (.tuple []) = true := by simp [rd, PyData.eqv, PyData.eqvAll]
    simp [FsT, f34, b34, callK, evS, evE, evA, evO, evI, seqS, retF, asgF, asgPF, asgMF, stiF, expF, iteF, forF, andF, orF, notF, ifeF, bltF, consA, nilA, varF, litF, tupF, lstF, dicF, binF, negF, cmpF, cmp2F, idxF, slcF, calF, mtwF, sclF, noO, someO, rngF, seqF, toB, toI, vws, vw, view, dview, frz, frzs, keep1, keeps, put, puts, prep1, prep, lend, giveBack, updR, isAl, isOl, isOwn, bindT, bindTs, fin, outs, outs1, bltR, isiR, tyN, lenR, absR, intR, lstR, valsR, tuplR, cmpR, idxR, slcR, binR, isNoneD, e1, dpt_nil, LIM]
  | i :: r, .tip, z, hw, h, W, k, hk => by simp [puX] at h
  | i :: r, .knot s bs, z, hw, h, W, k, hk => by
    obtain ⟨j, rfl⟩ : ∃ j, k = j + 1 := ⟨k - 1, by omega⟩
    simp only [wf, Bool.and_eq_true, decide_eq_true_eq] at hw
    simp only [puX] at h
    cases e : bs.l[i]? with
    | none => rw [e] at h; cases h
    | some b =>
      rw [e] at h
      cases q : puX y r b with
      | none => simp [q] at h
      | some c =>
        simp only [q, Option.map_some, Option.some.injEq] at h
        subst h
        have ih := putX_ok y (wfs_at hw.2 e) q W j (by simp only [List.length_cons] at hk; omega)
        have il := (List.getElem?_eq_some_iff.mp e).1
        have ee : enc (.knot s bs) = .tuple (.str s :: bs.l.map enc) := by simp [enc, encs_map]
        have er : rd (i :: r) = .tuple (.int (i : Nat) :: r.map fun i => .int (i : Nat)) := rfl
        have er2 : rd r = .tuple (r.map fun i => .int (i : Nat)) := rfl
        have e1 : PyData.eqv (.tuple (.int (i : Nat) :: r.map fun i => .int (i : Nat))) (.tuple []) = false := by simp [PyData.eqv, PyData.eqvAll]
        have a0 : L2.atI (PyData.int (i : Nat) :: r.map fun i => .int (i : Nat)) 0 = some (.int (i : Nat)) := by simp [L2.atI, L2.ixN]
        have a1 : L2.atI (.str s :: bs.l.map enc) ((i : Int) + 1) = some (enc b) := atI_succ (by
          rw [List.getElem?_map, e]
          rfl)
        have c1 : cut (.str s :: bs.l.map enc) none (some ((i : Int) + 1)) = .str s :: (bs.l.map enc).take i := by
          have := cut_to (xs := PyData.str s :: bs.l.map enc) (n := i + 1) (by simp; omega)
          simpa using this
        have c2 : cut (.str s :: bs.l.map enc) (some ((i : Int) + 1 + 1)) none = (bs.l.map enc).drop (i + 1) := by
          have := cut_from (xs := PyData.str s :: bs.l.map enc) (n := i + 1 + 1) (by simp; omega)
          simpa using this
        have er3 : PyData.tuple (.str s :: (bs.l.map enc).set i c) = .tuple ((.str s :: (bs.l.map enc).take i ++ [c]) ++ (bs.l.map enc).drop (i + 1)) := by
          rw [List.set_eq_take_append_cons_drop, if_pos (by simpa using il)]
          simp
        have l1 : ((bs.l.map enc).take i).length ≤ 6 := by simp; omega
        have l2 : ((bs.l.map enc).drop (i + 1)).length ≤ 6 := by simp; omega
        rw [ee, er3, er]
        rw [er2] at ih
        generalize hT : (bs.l.map enc).take i = T at *
        generalize hD : (bs.l.map enc).drop (i + 1) = Dd at *
        have l3 : T.length + 1 + 1 ≤ LIM := by unfold LIM; omega
        have l4 : T.length + 1 + 1 + Dd.length ≤ LIM := by unfold LIM; omega
        have l5 : 1 ≤ LIM := by decide
        simp [FsT, f34, b34, callK, evS, evE, evA, evO, evI, seqS, retF, asgF, asgPF, asgMF, stiF, expF, iteF, forF, andF, orF, notF, ifeF, bltF, consA, nilA, varF, litF, tupF, lstF, dicF, binF, negF, cmpF, cmp2F, idxF, slcF, calF, mtwF, sclF, noO, someO, rngF, seqF, toB, toI, vws, vw, view, dview, frz, frzs, keep1, keeps, put, puts, prep1, prep, lend, giveBack, updR, isAl, isOl, isOwn, bindT, bindTs, fin, outs, outs1, bltR, isiR, tyN, lenR, absR, intR, lstR, valsR, tuplR, cmpR, idxR, slcR, binR, isNoneD, e1, dpt_nil, a0, a1, c1, c2, ih, cut_tail, l3, l4, l5]
/-! comprehensions of which nothing is kept -/
theorem lcL_none {c : En → Option (Bool × En)} {e : Fe} {p : Tg} {ws : List Nat} (I : En → Prop) : ∀ (l : List D) (σ' : En), I σ' → (∀ x ∈ l, ∀ σ', I σ' → ∃ σ1 σ2, bindT p x (TW.wipe σ' ws) = some σ1 ∧ c σ1 = some (false, σ2) ∧ I σ2) → ∃ σ'', lcL c e p ws l σ' = some ([], σ'') ∧ I σ''
  | [], σ', h, _ => ⟨σ', rfl, h⟩
  | x :: l, σ', h, hb => by
    obtain ⟨σ1, σ2, h1, h2, h3⟩ := hb x (List.mem_cons_self ..) σ' h
    obtain ⟨σ'', h4, h5⟩ := lcL_none I l σ2 h3 fun y hy => hb y (List.mem_cons_of_mem _ hy)
    refine ⟨σ'', ?_, h5⟩
    simp only [lcL, h1, h2]
    exact h4
end TW
end

section
namespace TW
open PySem
/-! ### law_k06 -/
theorem lc10 {it : Fi} {ft fe : Fe} {u0 u1 u2 u3 u4 u5 u6 u7 x8 x9 : Option Rv} {σ : En} {l : List D} (h8 : isOwn x8 = false) (h9 : isOwn x9 = false) (hit : it σ = some (l, [u0, u1, u2, u3, u4, u5, u6, u7, x8, x9]))
    (h : ∀ x ∈ l, ∃ y z, x = .tuple [y, z] ∧ ft [u0, u1, u2, u3, u4, u5, u6, u7, some (.d y), some (.d z)] = some (.d (.bool false), [u0, u1, u2, u3, u4, u5, u6, u7, some (.d y), some (.d z)])) :
    lcF (.tp (.cons (.nm 8) (.cons (.nm 9) .nil))) it [8, 9] ft fe σ = some (.fl [], [u0, u1, u2, u3, u4, u5, u6, u7, x8, x9]) := by
  obtain ⟨σ'', k1, a, b, rfl⟩ := lcL_none (c := fun s => toB (ft s)) (e := fe) (p := .tp (.cons (.nm 8) (.cons (.nm 9) .nil))) (ws := [8, 9]) (fun σ' => ∃ a b, σ' = [u0, u1, u2, u3, u4, u5, u6, u7, a, b]) l [u0, u1, u2, u3, u4, u5, u6, u7, x8, x9] ⟨_, _, rfl⟩ (fun x hx σ' hσ => by
    obtain ⟨a, b, rfl⟩ := hσ
    obtain ⟨y, z, rfl, hf⟩ := h x hx
    refine ⟨[u0, u1, u2, u3, u4, u5, u6, u7, some (.d y), some (.d z)], [u0, u1, u2, u3, u4, u5, u6, u7, some (.d y), some (.d z)], ?_, ?_, ⟨_, _, rfl⟩⟩
    · simp [TW.wipe, bindT, bindTs, put]
    · simp only [hf, toB])
  unfold lcF
  have o : (([8, 9] : List Nat).any fun i => isOwn (([u0, u1, u2, u3, u4, u5, u6, u7, x8, x9][i]?).getD none)) = false := by simp [h8, h9]
  simp only [hit, o, Bool.false_eq_true, if_false, k1]
  simp [restore, List.mapIdx_cons, LIM]
def L6 (ns : List Int) (σ : En) : Prop := ∃ (xs : List D) (x2 x5 x6 x7 : Option Rv), σ = [some (.sc ns), some (.ol xs false), x2, none, none, x5, x6, x7, none, none] ∧ isOwn x2 = false ∧ isOwn x5 = false ∧ isOwn x6 = false ∧ isOwn x7 = false ∧ Cup xs
def l6for : S := match b1030 with
  | .cons _ (.cons (.for _ _ b) _) => b
  | _ => .nil
theorem l6_body (ns : List Int) (W j : Nat) (hW : 6000 ≤ W) (hj : 210 ≤ j) (n : Nat) (σ : En) (h : L6 ns σ) : ∃ σ1 σ2, bindT (.nm 2) (.int (n : Nat)) σ = some σ1 ∧ evS (callK FsT W j) W l6for σ1 = some (.nx, σ2) ∧ L6 ns σ2 := by
  obtain ⟨xs, x2, x5, x6, x7, rfl, h2, h5, h6, h7, hc⟩ := h
  obtain ⟨b, y1, r1, c1, wb, hb, kb⟩ := bush_ok 8 (by omega) xs hc W j (by omega)
  have r1' : callK FsT W j 4 [.ol xs true, .d (.int 8)] = some (.d (enc b), [.ol y1 true, .d (.int 8)]) := r1
  have sb : Sm b := sm_of wb (by omega) (by omega)
  have ob := oks_enc b wb
  have q1 := is_bush_ok (enc b) ob W j (by omega) (by omega)
  rw [decide_eq_true (isb_sm sb)] at q1
  obtain ⟨b', y2, r2, c2, wb', kb', hb'⟩ := near_bush_ok y1 c1 b wb (by omega) (by have := sb.c; omega) W j hW (by omega)
  have q2 := right6_ok (enc b') (oks_enc b' wb') W j (by omega) (by omega)
  obtain ⟨y, y3, r3, c3, oy⟩ := odd_ok y2 c2 W j (by omega)
  have q3 := right6_ok y oy W j (by omega) (by omega)
  -- the odd value at some road
  have h20 := parts_ok b wb (by omega) (by have := sb.c; omega) W j hW (by omega)
  have hs := srt_kv b
  have pn := pts_len [] b
  have pp := (pts_perm [] b).length_eq
  have pc := cnt_pos b wb
  obtain ⟨w, y4, r4, c4, hw⟩ := some_ok y3 c3 ((pre [] b).map fun q => rd q.1) (by
    intro e
    have := List.map_eq_nil_iff.mp e
    rw [this, List.length_nil] at pp
    omega) (by have := sb.c; simp; omega) W j (by omega)
  obtain ⟨q, hq, rfl⟩ := List.mem_map.mp hw
  obtain ⟨t, e1, e2, wq, kq, hq2, hput⟩ := pu_pre [] b wb q hq
  rw [List.nil_append] at e1
  obtain ⟨b2, p1, _, _⟩ := hput .tip
  obtain ⟨z, hz, oz⟩ := puX_some oy .tip wb p1
  have r5 := putX_ok y wb hz W j (by omega)
  rw [← e1] at r5
  have q4 := right6_ok z oz W j (by omega) (by omega)
  -- a row
  obtain ⟨gs, y6, r6, c6, gl, gg⟩ := row_okJ 4 60 (by omega) (by omega) y4 c4 W j hW (by omega)
  have r6' : callK FsT W j 157 [.ol y4 true, .d (.int 4), .d (.int 60)] = some (.d (.tuple (gs.map enc)), [.ol y6 true, .d (.int 4), .d (.int 60)]) := r6
  have ogs : okss (gs.map enc) = true := okss_of fun x hx => by
    obtain ⟨g, hg, rfl⟩ := List.mem_map.mp hx
    exact oks_enc g (gg.g g hg).1
  have allg : ((gs.map enc).all fun x => decide (isb x 0 ≤ 400)) = true := by
    rw [List.all_eq_true]
    intro x hx
    obtain ⟨g, hg, rfl⟩ := List.mem_map.mp hx
    exact decide_eq_true (isb_sm (goo_sm gg g hg))
  have a1 := ag_ok (.tuple (gs.map enc)) ogs W j (by omega) (by omega)
  have a1' : agB (.tuple (gs.map enc)) = true := by
    simp only [agB, allg, Bool.and_true]
    apply decide_eq_true
    simp
    omega
  rw [a1'] at a1
  have a2 := ag_ok (.list (gs.map enc)) (by simp [oks]) W j (by omega) (by omega)
  have a2' : agB (.list (gs.map enc)) = false := rfl
  rw [a2'] at a2
  have a3 := ag_ok (.tuple (gs.map enc ++ [y])) (okss_of fun x hx => by
    rcases List.mem_append.mp hx with hx | hx
    · exact okss_mem ogs x hx
    · simp at hx; rw [hx]; exact oy) W j (by omega) (by omega)
  have a3' : agB (.tuple (gs.map enc ++ [y])) = decide (isb y 0 ≤ 400) := by
    simp only [agB, List.all_append, allg, Bool.true_and]
    have : decide ((gs.map enc ++ [y]).length ≤ 12) = true := by
      apply decide_eq_true
      simp
      omega
    rw [this]
    simp
  rw [a3'] at a3
  have a4 : callK FsT W j 1027 [.d y, .d (.int 0)] = some (.d (.int (isb y 0 : Nat)), [.d y, .d (.int 0)]) := lisb_ok y oy 0 W j (by omega)
  have r2b := bool_rep
  have e0 : ∀ x y : Str, dpt (.str x) (.str y) = true := fun x y => by simp [dpt, PyData.depth]
  have e3 : ∀ x : Str, PyData.eqv (.str x) (.str x) = true := fun x => by simp [PyData.eqv]
  have e4 : decide (((isb y 0 : Nat) : Int) ≤ 400) = decide (isb y 0 ≤ 400) := by
    by_cases h : isb y 0 ≤ 400
    · have : ((isb y 0 : Nat) : Int) ≤ 400 := by omega
      simp [h, this]
    · have : ¬ ((isb y 0 : Nat) : Int) ≤ 400 := by omega
      simp [h, this]
  have l1 : 1 ≤ LIM := by decide
  have l2 : (gs.map enc).length + 1 ≤ LIM := by simp; unfold LIM; omega
  have p2 : put 2 (.d (.int (n : Nat))) [some (.sc ns), some (.ol xs false), x2, none, none, x5, x6, x7, none, none] = some [some (.sc ns), some (.ol xs false), some (.d (.int (n : Nat))), none, none, x5, x6, x7, none, none] := put_free rfl h2
  have p5 : ∀ (u0 u1 u2 u3 u4 u6 u7 u8 u9 : Option Rv) z, put 5 z [u0, u1, u2, u3, u4, x5, u6, u7, u8, u9] = some [u0, u1, u2, u3, u4, some z, u6, u7, u8, u9] := fun _ _ _ _ _ _ _ _ _ _ => put_free rfl h5
  have p6 : ∀ (u0 u1 u2 u3 u4 u5 u7 u8 u9 : Option Rv) z, put 6 z [u0, u1, u2, u3, u4, u5, x6, u7, u8, u9] = some [u0, u1, u2, u3, u4, u5, some z, u7, u8, u9] := fun _ _ _ _ _ _ _ _ _ _ => put_free rfl h6
  have p7 : ∀ (u0 u1 u2 u3 u4 u5 u6 u8 u9 : Option Rv) z, put 7 z [u0, u1, u2, u3, u4, u5, u6, x7, u8, u9] = some [u0, u1, u2, u3, u4, u5, u6, some z, u8, u9] := fun _ _ _ _ _ _ _ _ _ _ => put_free rfl h7
  refine ⟨_, [some (.sc ns), some (.ol y6 false), some (.d (.int (n : Nat))), none, none, some (.d (enc b)), some (.d y), some (.d (.tuple (gs.map enc))), none, none], p2, ?_, ⟨y6, _, _, _, _, rfl, rfl, rfl, rfl, rfl, c6⟩⟩
  generalize hG : gs.map enc = G at *
  generalize hR : (pre [] b).map (fun q => rd q.1) = R at *
  generalize hK : (pts [] b).map kv = K at *
  generalize isb y 0 = iy at *
  generalize hbb : decide (iy ≤ 400) = bb at *
  simp only [l6for, b1030]
  refine evS_cons.trans ((seq_nx (σ1 := [some (.sc ns), some (.ol y1 false), some (.d (.int (n : Nat))), none, none, some (.d (enc b)), x6, x7, none, none]) ?_).trans ?_)
  · simp [callK, evS, evE, evA, evO, evI, seqS, retF, asgF, asgPF, asgMF, stiF, expF, iteF, forF, andF, orF, notF, ifeF, bltF, consA, nilA, varF, litF, tupF, lstF, dicF, binF, negF, cmpF, cmp2F, idxF, slcF, calF, mtwF, sclF, noO, someO, rngF, seqF, toB, toI, vws, vw, view, dview, frz, frzs, keep1, keeps, puts, prep1, prep, lend, giveBack, updR, isAl, isOl, isOwn, bindT, bindTs, fin, outs, outs1, bltR, isiR, tyN, lenR, absR, intR, lstR, valsR, tuplR, cmpR, idxR, slcR, binR, isNoneD, r1', p5]
  refine evS_cons.trans ((seq_nx (σ1 := [some (.sc ns), some (.ol y2 false), some (.d (.int (n : Nat))), none, none, some (.d (enc b)), x6, x7, none, none]) ?_).trans ?_)
  · simp [callK, evS, evE, evA, evO, evI, seqS, retF, asgF, asgPF, asgMF, stiF, expF, iteF, forF, andF, orF, notF, ifeF, bltF, consA, nilA, varF, litF, tupF, lstF, dicF, binF, negF, cmpF, cmp2F, idxF, slcF, calF, mtwF, sclF, noO, someO, rngF, seqF, toB, toI, vws, vw, view, dview, frz, frzs, keep1, keeps, puts, prep1, prep, lend, giveBack, updR, isAl, isOl, isOwn, bindT, bindTs, fin, outs, outs1, bltR, isiR, tyN, lenR, absR, intR, lstR, valsR, tuplR, cmpR, idxR, slcR, binR, isNoneD, q1, r2, q2]
  refine evS_cons.trans ((seq_nx (σ1 := [some (.sc ns), some (.ol y3 false), some (.d (.int (n : Nat))), none, none, some (.d (enc b)), some (.d y), x7, none, none]) ?_).trans ?_)
  · simp [callK, evS, evE, evA, evO, evI, seqS, retF, asgF, asgPF, asgMF, stiF, expF, iteF, forF, andF, orF, notF, ifeF, bltF, consA, nilA, varF, litF, tupF, lstF, dicF, binF, negF, cmpF, cmp2F, idxF, slcF, calF, mtwF, sclF, noO, someO, rngF, seqF, toB, toI, vws, vw, view, dview, frz, frzs, keep1, keeps, puts, prep1, prep, lend, giveBack, updR, isAl, isOl, isOwn, bindT, bindTs, fin, outs, outs1, bltR, isiR, tyN, lenR, absR, intR, lstR, valsR, tuplR, cmpR, idxR, slcR, binR, isNoneD, r3, p6]
  refine evS_cons.trans ((seq_nx (σ1 := [some (.sc ns), some (.ol y4 false), some (.d (.int (n : Nat))), none, none, some (.d (enc b)), some (.d y), x7, none, none]) ?_).trans ?_)
  · simp [callK, evS, evE, evA, evO, evI, seqS, retF, asgF, asgPF, asgMF, stiF, expF, iteF, forF, andF, orF, notF, ifeF, bltF, consA, nilA, varF, litF, tupF, lstF, dicF, binF, negF, cmpF, cmp2F, idxF, slcF, calF, mtwF, sclF, noO, someO, rngF, seqF, toB, toI, vws, vw, view, dview, frz, frzs, keep1, keeps, puts, prep1, prep, lend, giveBack, updR, isAl, isOl, isOwn, bindT, bindTs, fin, outs, outs1, bltR, isiR, tyN, lenR, absR, intR, lstR, valsR, tuplR, cmpR, idxR, slcR, binR, isNoneD, q3, h20, hs, r4, r5, q4]
  refine evS_cons.trans ((seq_nx (σ1 := [some (.sc ns), some (.ol y6 false), some (.d (.int (n : Nat))), none, none, some (.d (enc b)), some (.d y), some (.d (.tuple G)), none, none]) ?_).trans ?_)
  · simp [callK, evS, evE, evA, evO, evI, seqS, retF, asgF, asgPF, asgMF, stiF, expF, iteF, forF, andF, orF, notF, ifeF, bltF, consA, nilA, varF, litF, tupF, lstF, dicF, binF, negF, cmpF, cmp2F, idxF, slcF, calF, mtwF, sclF, noO, someO, rngF, seqF, toB, toI, vws, vw, view, dview, frz, frzs, keep1, keeps, puts, prep1, prep, lend, giveBack, updR, isAl, isOl, isOwn, bindT, bindTs, fin, outs, outs1, bltR, isiR, tyN, lenR, absR, intR, lstR, valsR, tuplR, cmpR, idxR, slcR, binR, isNoneD, r6', p7]
  refine evS_cons.trans ((seq_nx (σ1 := [some (.sc ns), some (.ol y6 false), some (.d (.int (n : Nat))), none, none, some (.d (enc b)), some (.d y), some (.d (.tuple G)), none, none]) ?_).trans ?_)
  · simp [callK, evS, evE, evA, evO, evI, seqS, retF, asgF, asgPF, asgMF, stiF, expF, iteF, forF, andF, orF, notF, ifeF, bltF, consA, nilA, varF, litF, tupF, lstF, dicF, binF, negF, cmpF, cmp2F, idxF, slcF, calF, mtwF, sclF, noO, someO, rngF, seqF, toB, toI, vws, vw, view, dview, frz, frzs, keep1, keeps, puts, prep1, prep, lend, giveBack, updR, isAl, isOl, isOwn, bindT, bindTs, fin, outs, outs1, bltR, isiR, tyN, lenR, absR, intR, lstR, valsR, tuplR, cmpR, idxR, slcR, binR, isNoneD, a1, a2]
  refine evS_cons.trans ((seq_nx (σ1 := [some (.sc ns), some (.ol y6 false), some (.d (.int (n : Nat))), none, none, some (.d (enc b)), some (.d y), some (.d (.tuple G)), none, none]) ?_).trans ?_)
  · simp [callK, evS, evE, evA, evO, evI, seqS, retF, asgF, asgPF, asgMF, stiF, expF, iteF, forF, andF, orF, notF, ifeF, bltF, consA, nilA, varF, litF, tupF, lstF, dicF, binF, negF, cmpF, cmp2F, idxF, slcF, calF, mtwF, sclF, noO, someO, rngF, seqF, toB, toI, vws, vw, view, dview, frz, frzs, keep1, keeps, puts, prep1, prep, lend, giveBack, updR, isAl, isOl, isOwn, bindT, bindTs, fin, outs, outs1, bltR, isiR, tyN, lenR, absR, intR, lstR, valsR, tuplR, cmpR, idxR, slcR, binR, isNoneD, l1, l2, a3, a4, e4, repR, r2b, e0, e3]
  · simp only [evS]
/-! by hand -/
theorem great_any (m : Nat) (hm : m ≤ 100) (b : Bu) (hb : pu (chain m) rL bG1 = some b) (w9 : wf (chain m) = true) (W k : Nat) (hW : 6000 ≤ W) (hk : 207 < k) : callK FsT W k 130 [.d (.int (m : Nat))] = some (.d (enc b), [.d (.int (m : Nat))]) := by
  obtain ⟨j, rfl⟩ : ∃ j, k = j + 1 := ⟨k - 1, by omega⟩
  obtain ⟨w1, w2, w3, w4, w5, w6, w7, w8, _⟩ := g_w
  have h129 := lbush_ok [bW, bW, bW] (fit_of w6) W j hW (by omega)
  have h24 := tipsr_ok bW3 w2 (by omega) (by omega) W j hW (by omega)
  have h127 : callK FsT W j 127 [.d (.int (m : Nat))] = some (.d (enc (chain m)), [.d (.int (m : Nat))]) := chain_ok m hm W j (by omega)
  have hne : tpR bW3 ≠ [] := tpR_ne bW3 w2
  have hlast : tpR bW3 = (tpR bW3).dropLast ++ [rL] := by
    have := List.dropLast_concat_getLast hne
    unfold rL
    rw [List.getLast?_eq_some_getLast hne]
    exact this.symm
  have rLm : rL ∈ tpR bW3 := by rw [hlast]; simp
  have rl3 : ∀ r ∈ tpR bW3, r.length ≤ 3 := fun r hr => by rw [← w3]; exact tpR_short w2 hr
  have h34 := put_ok w9 (r := rL) w8 hb W j (by have := rl3 rL rLm; omega)
  obtain ⟨x, hx, _⟩ := pus_for2 (W := W) (callK FsT W j) bW (some (.d (.int (m : Nat)))) (some (.d (enc bW))) (some (.ol ((tpR bW3).map rd) false)) ((tpR bW3).take 23) bW3 bG1 none rfl g_1 (fun r hr b1 b2 w q => put_ok w1 w q W j (by have := rl3 r (List.mem_of_mem_take hr); omega)) w2 w1 rfl
  have hcut : cut ((tpR bW3).map rd) none (some 23) = ((tpR bW3).take 23).map rd := by
    rw [List.map_take]
    exact cut_to2 _ 23
  have hat : L2.atI ((tpR bW3).map rd) (-1) = some (rd rL) := by
    rw [hlast, List.map_append]
    exact atI_last
  have eW : enc bW = .tuple [.str "g", .tuple [], .tuple [], .tuple [], .tuple [], .tuple [], .tuple []] := by
    simp [bW, Bus.of, enc, encs]
  have e1 : evS (callK FsT W j) W b130 [some (.d (.int (m : Nat))), none, none, none, none] = some (.ret (.d (enc b)), [some (.d (.int (m : Nat))), some (.d (enc bW)), some (.d (enc bG1)), some (.ol ((tpR bW3).map rd) false), x]) := by
    unfold b130
    refine evS_cons.trans ((seq_nx (σ1 := [some (.d (.int (m : Nat))), some (.d (enc bW)), none, none, none]) ?_).trans ?_)
    · rw [eW]
      simp [callK, evS, evE, evA, evO, evI, seqS, retF, asgF, asgPF, asgMF, stiF, expF, iteF, forF, andF, orF, notF, ifeF, bltF, consA, nilA, varF, litF, tupF, lstF, dicF, binF, negF, cmpF, cmp2F, idxF, slcF, calF, mtwF, sclF, noO, someO, rngF, seqF, toB, toI, vws, vw, view, dview, frz, frzs, keep1, keeps, put, puts, prep1, prep, lend, giveBack, updR, isAl, isOl, isOwn, bindT, bindTs, fin, outs, outs1, bltR, isiR, tyN, lenR, absR, intR, lstR, valsR, tuplR, cmpR, idxR, slcR, binR, isNoneD, LIM, List.replicate]
    refine evS_cons.trans ((seq_nx (σ1 := [some (.d (.int (m : Nat))), some (.d (enc bW)), some (.d (enc bW3)), none, none]) ?_).trans ?_)
    · simp only [List.map_cons, List.map_nil] at h129
      generalize enc bW = w at *
      simp [callK, evS, evE, evA, evO, evI, seqS, retF, asgF, asgPF, asgMF, stiF, expF, iteF, forF, andF, orF, notF, ifeF, bltF, consA, nilA, varF, litF, tupF, lstF, dicF, binF, negF, cmpF, cmp2F, idxF, slcF, calF, mtwF, sclF, noO, someO, rngF, seqF, toB, toI, vws, vw, view, dview, frz, frzs, keep1, keeps, put, puts, prep1, prep, lend, giveBack, updR, isAl, isOl, isOwn, bindT, bindTs, fin, outs, outs1, bltR, isiR, tyN, lenR, absR, intR, lstR, valsR, tuplR, cmpR, idxR, slcR, binR, isNoneD, LIM, h129, bW3]
    refine evS_cons.trans ((seq_nx (σ1 := [some (.d (.int (m : Nat))), some (.d (enc bW)), some (.d (enc bW3)), some (.ol ((tpR bW3).map rd) false), none]) ?_).trans ?_)
    · simp [callK, evS, evE, evA, evO, evI, seqS, retF, asgF, asgPF, asgMF, stiF, expF, iteF, forF, andF, orF, notF, ifeF, bltF, consA, nilA, varF, litF, tupF, lstF, dicF, binF, negF, cmpF, cmp2F, idxF, slcF, calF, mtwF, sclF, noO, someO, rngF, seqF, toB, toI, vws, vw, view, dview, frz, frzs, keep1, keeps, put, puts, prep1, prep, lend, giveBack, updR, isAl, isOl, isOwn, bindT, bindTs, fin, outs, outs1, bltR, isiR, tyN, lenR, absR, intR, lstR, valsR, tuplR, cmpR, idxR, slcR, binR, isNoneD, h24]
    refine evS_cons.trans ((seq_nx (σ1 := [some (.d (.int (m : Nat))), some (.d (enc bW)), some (.d (enc bG1)), some (.ol ((tpR bW3).map rd) false), x]) ?_).trans ?_)
    · simp only [b130] at hx
      exact (evS_for (xs := ((tpR bW3).take 23).map rd) (σ1 := [some (.d (.int (m : Nat))), some (.d (enc bW)), some (.d (enc bW3)), some (.ol ((tpR bW3).map rd) false), none]) (by simp [callK, evS, evE, evA, evO, evI, seqS, retF, asgF, asgPF, asgMF, stiF, expF, iteF, forF, andF, orF, notF, ifeF, bltF, consA, nilA, varF, litF, tupF, lstF, dicF, binF, negF, cmpF, cmp2F, idxF, slcF, calF, mtwF, sclF, noO, someO, rngF, seqF, toB, toI, vws, vw, view, dview, frz, frzs, keep1, keeps, put, puts, prep1, prep, lend, giveBack, updR, isAl, isOl, isOwn, bindT, bindTs, fin, outs, outs1, bltR, isiR, tyN, lenR, absR, intR, lstR, valsR, tuplR, cmpR, idxR, slcR, binR, isNoneD]; rw [hcut]; simp)).trans hx
    · rw [evS_cons]
      simp [callK, evS, evE, evA, evO, evI, seqS, retF, asgF, asgPF, asgMF, stiF, expF, iteF, forF, andF, orF, notF, ifeF, bltF, consA, nilA, varF, litF, tupF, lstF, dicF, binF, negF, cmpF, cmp2F, idxF, slcF, calF, mtwF, sclF, noO, someO, rngF, seqF, toB, toI, vws, vw, view, dview, frz, frzs, keep1, keeps, put, puts, prep1, prep, lend, giveBack, updR, isAl, isOl, isOwn, bindT, bindTs, fin, outs, outs1, bltR, isiR, tyN, lenR, absR, intR, lstR, valsR, tuplR, cmpR, idxR, slcR, binR, isNoneD, hat, h127, h34]
  rw [call_ret (fd := f130) rfl rfl e1 rfl, outs_d1]
def bG4 : Bu := (pu (chain 4) rL bG1).getD .tip
theorem g_4 : pu (chain 4) rL bG1 = some bG4 := by
  have : (pu (chain 4) rL bG1).isSome = true := by decide +kernel
  unfold bG4
  cases h : pu (chain 4) rL bG1 with
  | none => rw [h] at this; cases this
  | some b => rfl
def e6 (p : D × Bool) : D := .tuple [p.1, .bool p.2]
def I61 : List (D × Bool) := [(.tuple [], true), (.tuple [.str "ab", .tuple []], false), (.tuple [.str "", .tuple []], false)]
def I62 : List (D × Bool) := [(.tuple [.str "f"], false), (.tuple [.str "f", .tuple [], .str "s"], false), (.tuple [.str "F", .tuple []], false), (enc (chain 60), true), (enc (chain 61), false), (.tuple [.str "f", .tuple [], enc (chain 60)], false)]
def I63 : List (D × Bool) := [(enc bG2, true), (enc bG4, false), (.tuple [.str "f", .tuple [], .tuple [], .tuple [], .tuple [], .tuple [], .tuple []], true), (.tuple [.str "f", .tuple [], .tuple [], .tuple [], .tuple [], .tuple [], .tuple [], .tuple []], false),
  (.tuple [.str "f", .tuple [.str "f", .tuple []], .tuple [.tuple [.str "f"], .tuple []]], false)]
theorem i6_ok : ((I61 ++ I62 ++ I63).all fun p => oks p.1 && (decide (isb p.1 0 ≤ 400) == p.2)) = true := by decide +kernel
def I7 : List (D × Bool) := [(.tuple [], true), (.tuple [dF, .tuple []], true), (.list [dF], false), (.tuple [dF, dF, dF, dF, dF, dF, dF, dF, dF, dF, dF, dF], true), (.tuple [dF, dF, dF, dF, dF, dF, dF, dF, dF, dF, dF, dF, dF], false),
  (.none, false), (dF, false), (.tuple [dF, .none], false), (.tuple [enc bG2, enc bG2, enc bG2], true)]
theorem i7_ok : (I7.all fun p => oks p.1 && (agB p.1 == p.2)) = true := by decide +kernel
theorem law6_at (ns : List Int) (hn : ns.length ≤ 63) (W j : Nat) (hW : 6000 ≤ W) (hj : 210 ≤ j) : ∃ os, callK FsT W (j + 1) 1030 [.sc ns] = some (.d (.bool true), os) := by
  obtain ⟨xs, r0, c0⟩ := cup_ok ns hn W j (by omega)
  obtain ⟨σ', hf, hI⟩ := for_inv (p := .nm 2) (body := evS (callK FsT W j) W l6for) (N := 6) (fun _ σ => L6 ns σ) (fun n σ _ h => l6_body ns W j hW hj n σ h) 6 0 [some (.sc ns), some (.ol xs false), none, none, none, none, none, none, none, none] (by omega) ⟨xs, none, none, none, none, rfl, rfl, rfl, rfl, rfl, c0⟩
  have hr : (List.range' 0 6).map (fun i => PyData.int (i : Nat)) = rngI 0 (6 : Int) := (rngI_range 6).symm
  rw [hr] at hf
  obtain ⟨ys, x2, x5, x6, x7, rfl, g2, g5, g6, g7, cy⟩ := hI
  have t60 : callK FsT W j 127 [.d (.int 60)] = some (.d (enc (chain 60)), [.d (.int 60)]) := chain_ok 60 (by omega) W j (by omega)
  have t61 : callK FsT W j 127 [.d (.int 61)] = some (.d (enc (chain 61)), [.d (.int 61)]) := chain_ok 61 (by omega) W j (by omega)
  have gt3 := great_ok W j hW (by omega)
  have gt4 : callK FsT W j 130 [.d (.int 4)] = some (.d (enc bG4), [.d (.int 4)]) := great_any 4 (by omega) bG4 g_4 (by decide +kernel) W j hW (by omega)
  have r2b := bool_rep
  have e0 : ∀ x y : Str, dpt (.str x) (.str y) = true := fun x y => by simp [dpt, PyData.depth]
  have e3 : ∀ x : Str, PyData.eqv (.str x) (.str x) = true := fun x => by simp [PyData.eqv]
  have v0 : PyData.eqv (.list []) (.list []) = true := by decide
  have d0 : dpt (.list []) (.list []) = true := by decide
  have l0 : 0 ≤ LIM := by decide
  have s6 : ∀ (E : List D) , E = (I61 ++ I62 ++ I63).map e6 → evE (callK FsT W j) (match b1030 with
      | .cons _ (.cons _ (.cons _ (.cons _ (.cons _ (.cons (.ite (.cmp _ l _) _ _) _))))) => l
      | _ => .nil) [some (.sc ns), some (.ol ys false), x2, some (.ol E false), none, x5, x6, x7, none, none] = some (.fl [], [some (.sc ns), some (.ol ys false), x2, some (.d (.list E)), none, x5, x6, x7, none, none]) := fun E hE => by
    simp only [b1030]
    refine lc10 (l := E) rfl rfl ?_ ?_
    · simp [callK, evS, evE, evA, evO, evI, seqS, retF, asgF, asgPF, asgMF, stiF, expF, iteF, forF, andF, orF, notF, ifeF, bltF, consA, nilA, varF, litF, tupF, lstF, dicF, binF, negF, cmpF, cmp2F, idxF, slcF, calF, mtwF, sclF, noO, someO, rngF, seqF, toB, toI, vws, vw, view, dview, frz, frzs, keep1, keeps, put, puts, prep1, prep, lend, giveBack, updR, isAl, isOl, isOwn, bindT, bindTs, fin, outs, outs1, bltR, isiR, tyN, lenR, absR, intR, lstR, valsR, tuplR, cmpR, idxR, slcR, binR, isNoneD]
    · intro x hx
      rw [hE] at hx
      obtain ⟨p, hp, rfl⟩ := List.mem_map.mp hx
      have := List.all_eq_true.mp i6_ok p hp
      simp only [Bool.and_eq_true, beq_iff_eq] at this
      obtain ⟨o1, o2⟩ := this
      have k1 := is_bush_ok p.1 o1 W j (by omega) (by omega)
      rw [o2] at k1
      have k2 := right6_ok p.1 o1 W j (by omega) (by omega)
      obtain ⟨y, b⟩ := p
      refine ⟨y, .bool b, rfl, ?_⟩
      simp only at k1 k2
      generalize E = E' at *
      simp [callK, evS, evE, evA, evO, evI, seqS, retF, asgF, asgPF, asgMF, stiF, expF, iteF, forF, andF, orF, notF, ifeF, bltF, consA, nilA, varF, litF, tupF, lstF, dicF, binF, negF, cmpF, cmp2F, idxF, slcF, calF, mtwF, sclF, noO, someO, rngF, seqF, toB, toI, vws, vw, view, dview, frz, frzs, keep1, keeps, put, puts, prep1, prep, lend, giveBack, updR, isAl, isOl, isOwn, bindT, bindTs, fin, outs, outs1, bltR, isiR, tyN, lenR, absR, intR, lstR, valsR, tuplR, cmpR, idxR, slcR, binR, isNoneD, k1, k2, repR, r2b, e0, e3]
  have s7 : ∀ (E : List D) , E = I7.map e6 → evE (callK FsT W j) (match b1030 with
      | .cons _ (.cons _ (.cons _ (.cons _ (.cons _ (.cons _ (.cons _ (.cons _ (.cons (.ret (.cmp _ l _)) _)))))))) => l
      | _ => .nil) [some (.sc ns), some (.ol ys false), x2, some (.ol E false), some (.d dF), x5, x6, x7, none, none] = some (.fl [], [some (.sc ns), some (.ol ys false), x2, some (.d (.list E)), some (.d dF), x5, x6, x7, none, none]) := fun E hE => by
    simp only [b1030]
    refine lc10 (l := E) rfl rfl ?_ ?_
    · simp [callK, evS, evE, evA, evO, evI, seqS, retF, asgF, asgPF, asgMF, stiF, expF, iteF, forF, andF, orF, notF, ifeF, bltF, consA, nilA, varF, litF, tupF, lstF, dicF, binF, negF, cmpF, cmp2F, idxF, slcF, calF, mtwF, sclF, noO, someO, rngF, seqF, toB, toI, vws, vw, view, dview, frz, frzs, keep1, keeps, put, puts, prep1, prep, lend, giveBack, updR, isAl, isOl, isOwn, bindT, bindTs, fin, outs, outs1, bltR, isiR, tyN, lenR, absR, intR, lstR, valsR, tuplR, cmpR, idxR, slcR, binR, isNoneD]
    · intro x hx
      rw [hE] at hx
      obtain ⟨p, hp, rfl⟩ := List.mem_map.mp hx
      have := List.all_eq_true.mp i7_ok p hp
      simp only [Bool.and_eq_true, beq_iff_eq] at this
      obtain ⟨o1, o2⟩ := this
      have k1 := ag_ok p.1 o1 W j (by omega) (by omega)
      rw [o2] at k1
      obtain ⟨y, b⟩ := p
      refine ⟨y, .bool b, rfl, ?_⟩
      simp only at k1
      generalize E = E' at *
      simp [callK, evS, evE, evA, evO, evI, seqS, retF, asgF, asgPF, asgMF, stiF, expF, iteF, forF, andF, orF, notF, ifeF, bltF, consA, nilA, varF, litF, tupF, lstF, dicF, binF, negF, cmpF, cmp2F, idxF, slcF, calF, mtwF, sclF, noO, someO, rngF, seqF, toB, toI, vws, vw, view, dview, frz, frzs, keep1, keeps, put, puts, prep1, prep, lend, giveBack, updR, isAl, isOl, isOwn, bindT, bindTs, fin, outs, outs1, bltR, isiR, tyN, lenR, absR, intR, lstR, valsR, tuplR, cmpR, idxR, slcR, binR, isNoneD, k1, repR, r2b, e0, e3]
  have e1' : evS (callK FsT W j) W b1030 [some (.sc ns), none, none, none, none, none, none, none, none, none] = some (.ret (.d (.bool true)), [some (.sc ns), some (.ol ys false), x2, some (.d (.list (I7.map e6))), some (.d dF), x5, x6, x7, none, none]) := by
    simp only [l6for, b1030] at hf
    simp only [b1030] at s6 s7
    unfold b1030
    refine evS_cons.trans ((seq_nx (σ1 := [some (.sc ns), some (.ol xs false), none, none, none, none, none, none, none, none]) ?_).trans ?_)
    · simp [callK, evS, evE, evA, evO, evI, seqS, retF, asgF, asgPF, asgMF, stiF, expF, iteF, forF, andF, orF, notF, ifeF, bltF, consA, nilA, varF, litF, tupF, lstF, dicF, binF, negF, cmpF, cmp2F, idxF, slcF, calF, mtwF, sclF, noO, someO, rngF, seqF, toB, toI, vws, vw, view, dview, frz, frzs, keep1, keeps, put, puts, prep1, prep, lend, giveBack, updR, isAl, isOl, isOwn, bindT, bindTs, fin, outs, outs1, bltR, isiR, tyN, lenR, absR, intR, lstR, valsR, tuplR, cmpR, idxR, slcR, binR, isNoneD, r0]
    refine evS_cons.trans ((seq_nx (σ1 := [some (.sc ns), some (.ol ys false), x2, none, none, x5, x6, x7, none, none]) ?_).trans ?_)
    · exact (evS_for (xs := rngI 0 (6 : Int)) (σ1 := [some (.sc ns), some (.ol xs false), none, none, none, none, none, none, none, none]) (by simp [callK, evS, evE, evA, evO, evI, seqS, retF, asgF, asgPF, asgMF, stiF, expF, iteF, forF, andF, orF, notF, ifeF, bltF, consA, nilA, varF, litF, tupF, lstF, dicF, binF, negF, cmpF, cmp2F, idxF, slcF, calF, mtwF, sclF, noO, someO, rngF, seqF, toB, toI, vws, vw, view, dview, frz, frzs, keep1, keeps, put, puts, prep1, prep, lend, giveBack, updR, isAl, isOl, isOwn, bindT, bindTs, fin, outs, outs1, bltR, isiR, tyN, lenR, absR, intR, lstR, valsR, tuplR, cmpR, idxR, slcR, binR, isNoneD, b62])).trans hf
    refine evS_cons.trans ((seq_nx (σ1 := [some (.sc ns), some (.ol ys false), x2, some (.ol (I61.map e6) false), none, x5, x6, x7, none, none]) ?_).trans ?_)
    · simp only [I61, List.map_cons, List.map_nil, e6]
      simp [callK, evS, evE, evA, evO, evI, seqS, retF, asgF, asgPF, asgMF, stiF, expF, iteF, forF, andF, orF, notF, ifeF, bltF, consA, nilA, varF, litF, tupF, lstF, dicF, binF, negF, cmpF, cmp2F, idxF, slcF, calF, mtwF, sclF, noO, someO, rngF, seqF, toB, toI, vws, vw, view, dview, frz, frzs, keep1, keeps, put, puts, prep1, prep, lend, giveBack, updR, isAl, isOl, isOwn, bindT, bindTs, fin, outs, outs1, bltR, isiR, tyN, lenR, absR, intR, lstR, valsR, tuplR, cmpR, idxR, slcR, binR, isNoneD, LIM]
    refine evS_cons.trans ((seq_nx (σ1 := [some (.sc ns), some (.ol ys false), x2, some (.ol (I61.map e6 ++ I62.map e6) false), none, x5, x6, x7, none, none]) ?_).trans ?_)
    · have l1 : (I61.map e6).length = 3 := rfl
      simp only [I62, List.map_cons, List.map_nil, e6]
      generalize I61.map e6 = e at *
      generalize enc (chain 60) = c60 at *
      generalize enc (chain 61) = c61 at *
      simp [callK, evS, evE, evA, evO, evI, seqS, retF, asgF, asgPF, asgMF, stiF, expF, iteF, forF, andF, orF, notF, ifeF, bltF, consA, nilA, varF, litF, tupF, lstF, dicF, binF, negF, cmpF, cmp2F, idxF, slcF, calF, mtwF, sclF, noO, someO, rngF, seqF, toB, toI, vws, vw, view, dview, frz, frzs, keep1, keeps, put, puts, prep1, prep, lend, giveBack, updR, isAl, isOl, isOwn, bindT, bindTs, fin, outs, outs1, bltR, isiR, tyN, lenR, absR, intR, lstR, valsR, tuplR, cmpR, idxR, slcR, binR, isNoneD, LIM, t60, t61, l1]
    refine evS_cons.trans ((seq_nx (σ1 := [some (.sc ns), some (.ol ys false), x2, some (.ol (I61.map e6 ++ I62.map e6 ++ I63.map e6) false), none, x5, x6, x7, none, none]) ?_).trans ?_)
    · have l1 : (I61.map e6 ++ I62.map e6).length = 9 := rfl
      simp only [I63, List.map_cons, List.map_nil, e6]
      generalize I61.map e6 ++ I62.map e6 = e at *
      generalize enc bG2 = c3 at *
      generalize enc bG4 = c4 at *
      simp [callK, evS, evE, evA, evO, evI, seqS, retF, asgF, asgPF, asgMF, stiF, expF, iteF, forF, andF, orF, notF, ifeF, bltF, consA, nilA, varF, litF, tupF, lstF, dicF, binF, negF, cmpF, cmp2F, idxF, slcF, calF, mtwF, sclF, noO, someO, rngF, seqF, toB, toI, vws, vw, view, dview, frz, frzs, keep1, keeps, put, puts, prep1, prep, lend, giveBack, updR, isAl, isOl, isOwn, bindT, bindTs, fin, outs, outs1, bltR, isiR, tyN, lenR, absR, intR, lstR, valsR, tuplR, cmpR, idxR, slcR, binR, isNoneD, LIM, gt3, gt4, l1, List.replicate]
    refine evS_cons.trans ((seq_nx (σ1 := [some (.sc ns), some (.ol ys false), x2, some (.d (.list (I61.map e6 ++ I62.map e6 ++ I63.map e6))), none, x5, x6, x7, none, none]) ?_).trans ?_)
    · have s := s6 (I61.map e6 ++ I62.map e6 ++ I63.map e6) (by simp only [List.map_append])
      generalize I61.map e6 ++ I62.map e6 ++ I63.map e6 = E at *
      simp only [evS, iteF, evE, cmpF] at s ⊢
      rw [s]
      simp [lstF, evA, nilA, frzs, vw, view, cmpR, d0, v0, toB, l0]
    refine evS_cons.trans ((seq_nx (σ1 := [some (.sc ns), some (.ol ys false), x2, some (.d (.list (I61.map e6 ++ I62.map e6 ++ I63.map e6))), some (.d dF), x5, x6, x7, none, none]) ?_).trans ?_)
    · generalize I61.map e6 ++ I62.map e6 ++ I63.map e6 = E at *
      simp [callK, evS, evE, evA, evO, evI, seqS, retF, asgF, asgPF, asgMF, stiF, expF, iteF, forF, andF, orF, notF, ifeF, bltF, consA, nilA, varF, litF, tupF, lstF, dicF, binF, negF, cmpF, cmp2F, idxF, slcF, calF, mtwF, sclF, noO, someO, rngF, seqF, toB, toI, vws, vw, view, dview, frz, frzs, keep1, keeps, put, puts, prep1, prep, lend, giveBack, updR, isAl, isOl, isOwn, bindT, bindTs, fin, outs, outs1, bltR, isiR, tyN, lenR, absR, intR, lstR, valsR, tuplR, cmpR, idxR, slcR, binR, isNoneD, LIM, dF]
    refine evS_cons.trans ((seq_nx (σ1 := [some (.sc ns), some (.ol ys false), x2, some (.ol (I7.map e6) false), some (.d dF), x5, x6, x7, none, none]) ?_).trans ?_)
    · simp only [I7, List.map_cons, List.map_nil, e6]
      generalize I61.map e6 ++ I62.map e6 ++ I63.map e6 = E at *
      generalize enc bG2 = c3 at *
      generalize dF = f at *
      simp [callK, evS, evE, evA, evO, evI, seqS, retF, asgF, asgPF, asgMF, stiF, expF, iteF, forF, andF, orF, notF, ifeF, bltF, consA, nilA, varF, litF, tupF, lstF, dicF, binF, negF, cmpF, cmp2F, idxF, slcF, calF, mtwF, sclF, noO, someO, rngF, seqF, toB, toI, vws, vw, view, dview, frz, frzs, keep1, keeps, put, puts, prep1, prep, lend, giveBack, updR, isAl, isOl, isOwn, bindT, bindTs, fin, outs, outs1, bltR, isiR, tyN, lenR, absR, intR, lstR, valsR, tuplR, cmpR, idxR, slcR, binR, isNoneD, LIM, gt3, List.replicate]
    · rw [evS_cons]
      have s := s7 (I7.map e6) rfl
      generalize I7.map e6 = E at *
      simp only [evS, evE, cmpF, seqS, retF] at s ⊢
      rw [s]
      simp [lstF, evA, nilA, frzs, vw, view, cmpR, d0, v0, toB, l0]
  exact ⟨_, call_ret (fd := f1030) rfl rfl e1' rfl⟩
theorem law6_ok (ns : List Int) (hn : ns.length ≤ 63) : ∃ os, callK FsT WW 230 1030 [.sc ns] = some (.d (.bool true), os) := law6_at ns hn WW 229 (by decide) (by omega)
end TW
end

namespace HD
open PySem PySem.Spec PyProof.Rows L2
def top (i : Nat) : Stmt := PySem.Challenge.pw_tipwoods_k06_whole_what_are_bushes.main.body.getD i (.Pass ⟨0, 0, 0, 0⟩)
def dd (x : Str) (i : Nat) : He.DefD := ⟨(x, none), x, x, defArgs (top i), defBody (top i), defScope (top i), [], []⟩
def nm0 : List Str := ["PARTS", "DEEPEST", "BRANCHES", "GROWTHS", "LETTERS", "is_tuple_of", "is_letter", "fits_part", "fits_bush", "fits_growths", "is_bush", "are_growths", "_law_cup", "_law_roll", "_law_some", "_law_parts", "_law_tips", "_law_knots", "_law_put", "_law_grown", "_law_bush_of", "_law_depths", "_law_sizes", "_law_bush", "_law_growth", "_law_known", "_law_row", "_law_near_bush", "_law_chain", "_law_great"]
def nm1 : List Str := ["_law_is_bush", "_law_odd", "_law_right"]
def names : List Str := nm0 ++ nm1
def fn : List He.DefD := [dd "is_tuple_of" 6, dd "is_letter" 7, dd "fits_part" 8, dd "fits_bush" 9, dd "fits_growths" 10, dd "is_bush" 11, dd "are_growths" 12, dd "_law_cup" 14, dd "_law_roll" 15, dd "_law_some" 16, dd "_law_parts" 17, dd "_law_tips" 18, dd "_law_knots" 19, dd "_law_put" 20, dd "_law_grown" 21, dd "_law_bush_of" 22, dd "_law_depths" 23, dd "_law_sizes" 24, dd "_law_bush" 25, dd "_law_growth" 26, dd "_law_known" 27, dd "_law_row" 28, dd "_law_near_bush" 29, dd "_law_chain" 30, dd "_law_great" 31, dd "_law_is_bush" 32, dd "_law_odd" 33, dd "_law_right" 34, dd "law" 35]
def fa : List He.Fa := [.glo "is_tuple_of", .glo "is_letter", .glo "fits_part", .glo "fits_bush", .glo "fits_growths", .glo "is_bush", .glo "are_growths", .glo "_law_cup", .glo "_law_roll", .glo "_law_some", .glo "_law_parts", .glo "_law_tips", .glo "_law_knots", .glo "_law_put", .glo "_law_grown", .glo "_law_bush_of", .glo "_law_depths", .glo "_law_sizes", .glo "_law_bush", .glo "_law_growth", .glo "_law_known", .glo "_law_row", .glo "_law_near_bush", .glo "_law_chain", .glo "_law_great", .glo "_law_is_bush", .glo "_law_odd", .glo "_law_right", .glo "law", .free "len", .free "abs", .free "int", .free "list", .free "tuple", .free "sum", .free "min", .free "max", .free "sorted", .free "all", .free "range", .free "isinstance", .free "str", .free "any", .free "bool", .free "enumerate", .free "zip", .free "repr", .str "LETTERS" "abcdefghijklmnopqrstuvwxyz", .int "BRANCHES" 6, .int "PARTS" 400, .int "DEEPEST" 60, .int "GROWTHS" 12]
abbrev R : PySem.W.OpenRow := PySem.W.OpenLaw.row PySem.Challenge.rw_tipwoods_k06_whole_what_are_bushes
abbrev hk : PySem.W.Hook := He.hookD 4 fa fn
def ob (s : PySem.W.SharedT) : He.AlD := He.obsDG 4 fa fn (HandSHeadRun.getT s)
theorem ob_eq (s : PySem.W.SharedT) : ob s = hk.obs s.abs := He.obsDG_eq (HandSHeadRun.getT_eq s)
theorem run (w : World) : HandSHeadRun.RunEq R (PySem.W.view R.prog [35]) hk ob 20000 names w := by
  intro os
  kernel_rfl
end HD
namespace TW
open PySem PySem.Spec PyProof.Rows L2
def r0 : Row := ⟨"_law_cup", 0, f0, ["_law_script"], ["_law_script", "_law_cell"], defArgs (HD.top 14), defBody (HD.top 14), defScope (HD.top 14)⟩
def r1 : Row := ⟨"_law_roll", 1, f1, ["_law_cup_here", "_law_many"], ["_law_cup_here", "_law_many", "_law_deep", "_law_found"], defArgs (HD.top 15), defBody (HD.top 15), defScope (HD.top 15)⟩
def r2 : Row := ⟨"_law_some", 2, f2, ["_law_cup_here", "_law_things"], ["_law_cup_here", "_law_things"], defArgs (HD.top 16), defBody (HD.top 16), defScope (HD.top 16)⟩
def r4 : Row := ⟨"_law_bush", 4, f4, ["_law_cup_here", "_law_most"], ["_law_cup_here", "_law_most", "_law_branch", "_law_letter", "_law_many", "_law_branches", "_law_left", "_law_equal", "_law_fresh"], defArgs (HD.top 25), defBody (HD.top 25), defScope (HD.top 25)⟩
def r1025 : Row := ⟨"_law_odd", 1025, f1025, ["_law_cup_here"], ["_law_cup_here", "_law_wide", "_law_some_here"], defArgs (HD.top 33), defBody (HD.top 33), defScope (HD.top 33)⟩
def r20 : Row := ⟨"_law_parts", 20, f20, ["_law_bush_here"], ["_law_bush_here", "_law_found", "_law_line", "_law_at", "_law_road", "_law_part"], defArgs (HD.top 17), defBody (HD.top 17), defScope (HD.top 17)⟩
def r24 : Row := ⟨"_law_tips", 24, f24, ["_law_bush_here"], ["_law_bush_here", "_law_parts_here", "_law_road"], defArgs (HD.top 18), defBody (HD.top 18), defScope (HD.top 18)⟩
def r39 : Row := ⟨"_law_depths", 39, f39, ["_law_bush_here"], ["_law_bush_here", "_law_road"], defArgs (HD.top 23), defBody (HD.top 23), defScope (HD.top 23)⟩
def r40 : Row := ⟨"_law_knots", 40, f40, ["_law_bush_here"], ["_law_bush_here", "_law_part"], defArgs (HD.top 19), defBody (HD.top 19), defScope (HD.top 19)⟩
def r41 : Row := ⟨"_law_sizes", 41, f41, ["_law_growths"], ["_law_growths", "_law_growth_here", "_law_knots_here", "_law_tips_here", "_law_near", "_law_height", "_law_depths_here"], defArgs (HD.top 24), defBody (HD.top 24), defScope (HD.top 24)⟩
def r5 : Row := ⟨"_law_known", 5, f5, ["_law_cup_here"], ["_law_cup_here", "_law_some_here", "_law_a", "_law_f"], defArgs (HD.top 27), defBody (HD.top 27), defScope (HD.top 27)⟩
def r42 : Row := ⟨"_law_growth", 42, f42, ["_law_cup_here", "_law_most"], ["_law_cup_here", "_law_most", "_law_found"], defArgs (HD.top 26), defBody (HD.top 26), defScope (HD.top 26)⟩
def r157 : Row := ⟨"_law_row", 157, f157, ["_law_cup_here", "_law_years", "_law_parts_here"], ["_law_cup_here", "_law_years", "_law_parts_here", "_law_found", "_law_year", "_law_way", "_law_growth_here", "_law_knots_here", "_law_tips_here", "_law_near", "_law_height"], defArgs (HD.top 28), defBody (HD.top 28), defScope (HD.top 28)⟩
def r6 : Row := ⟨"is_tuple_of", 6, f6, ["value", "low", "high"], ["value", "low", "high"], defArgs (HD.top 6), defBody (HD.top 6), defScope (HD.top 6)⟩
def r7 : Row := ⟨"is_letter", 7, f7, ["value"], ["value"], defArgs (HD.top 7), defBody (HD.top 7), defScope (HD.top 7)⟩
def r8 : Row := ⟨"fits_part", 8, f8, ["value"], ["value"], defArgs (HD.top 8), defBody (HD.top 8), defScope (HD.top 8)⟩
def r9 : Row := ⟨"fits_bush", 9, f9, ["value"], ["value", "line", "many", "part", "depth", "branch"], defArgs (HD.top 9), defBody (HD.top 9), defScope (HD.top 9)⟩
def r1026 : Row := ⟨"is_bush", 1026, f1026, ["value"], ["value"], defArgs (HD.top 11), defBody (HD.top 11), defScope (HD.top 11)⟩
def r1027 : Row := ⟨"_law_is_bush", 1027, f1027, ["_law_value", "_law_depth"], ["_law_value", "_law_depth", "_law_branch"], defArgs (HD.top 32), defBody (HD.top 32), defScope (HD.top 32)⟩
def r1028 : Row := ⟨"_law_right", 1028, f1028, ["_law_value"], ["_law_value"], defArgs (HD.top 34), defBody (HD.top 34), defScope (HD.top 34)⟩
def r46 : Row := ⟨"fits_growths", 46, f46, ["value"], ["value", "growth"], defArgs (HD.top 10), defBody (HD.top 10), defScope (HD.top 10)⟩
def r1029 : Row := ⟨"are_growths", 1029, f1029, ["value"], ["value"], defArgs (HD.top 12), defBody (HD.top 12), defScope (HD.top 12)⟩
def r127 : Row := ⟨"_law_chain", 127, f127, ["_law_many"], ["_law_many", "_law_found", "_law_turn"], defArgs (HD.top 30), defBody (HD.top 30), defScope (HD.top 30)⟩
def r34 : Row := ⟨"_law_put", 34, f34, ["_law_bush_here", "_law_road", "_law_growth_here"], ["_law_bush_here", "_law_road", "_law_growth_here", "_law_at"], defArgs (HD.top 20), defBody (HD.top 20), defScope (HD.top 20)⟩
def r128 : Row := ⟨"_law_grown", 128, f128, ["_law_bush_here", "_law_growth_here"], ["_law_bush_here", "_law_growth_here", "_law_road"], defArgs (HD.top 21), defBody (HD.top 21), defScope (HD.top 21)⟩
def r129 : Row := ⟨"_law_bush_of", 129, f129, ["_law_growths"], ["_law_growths", "_law_found", "_law_growth_here"], defArgs (HD.top 22), defBody (HD.top 22), defScope (HD.top 22)⟩
def r130 : Row := ⟨"_law_great", 130, f130, ["_law_more"], ["_law_more", "_law_wide", "_law_found", "_law_tips_here", "_law_road"], defArgs (HD.top 31), defBody (HD.top 31), defScope (HD.top 31)⟩
def r1010 : Row := ⟨"_law_near_bush", 1010, f1010, ["_law_cup_here", "_law_bush_here"], ["_law_cup_here", "_law_bush_here", "_law_roads", "_law_road", "_law_part", "_law_way"], defArgs (HD.top 29), defBody (HD.top 29), defScope (HD.top 29)⟩
def r1030 : Row := ⟨"law", 1030, f1030, ["_law_script"], ["_law_script", "_law_cup_here", "_law_turn", "_law_rows", "_law_f", "_law_bush_here", "_law_odd_here", "_law_row_here", "_law_value", "_law_due"], defArgs (HD.top 35), defBody (HD.top 35), defScope (HD.top 35)⟩
def rows : List Row := [r0, r1, r2, r4, r1025, r20, r24, r39, r40, r41, r5, r42, r157, r6, r7, r8, r9, r1026, r1027, r1028, r46, r1029, r127, r34, r128, r129, r130, r1010, r1030]
def cons : List (Str × D) := [("LETTERS", (.str "abcdefghijklmnopqrstuvwxyz")), ("BRANCHES", (.int 6)), ("PARTS", (.int 400)), ("DEEPEST", (.int 60)), ("GROWTHS", (.int 12))]
theorem rows_ok : (rows.all (rowOk rows cons)) = true := by kernel_rfl
section
variable {K : PySem.W.Frag} {h : Heap} {mg : Str → Option Value}
def FnF (K : PySem.W.Frag) (mg : Str → Option Value) (r : Row) : Prop := ∃ (a : Addr) (fd : FuncData), mg r.x = some (.ref a) ∧ FunD K r.x r.x r.params r.body r.scope [] [] a fd
def BdF (r : Row) : Prop := ∀ (kV doc pm : Value) (an : Option Addr) (cdv ct : Value) (us : List Value), us.length = r.ps.length → bindArgs (PySem.W.fnOf r.x r.x r.params r.body r.scope .none kV doc pm an cdv ct) ⟨us, []⟩ = pure (r.ps.zip us)
theorem con_nil {α : Type} {P : α → Prop} : ∀ r ∈ ([] : List α), P r := fun _ h => nomatch h
theorem con_cons {α : Type} {P : α → Prop} {r : α} {rs : List α} (a : P r) (b : ∀ r ∈ rs, P r) : ∀ r' ∈ r :: rs, P r' := List.forall_mem_cons.2 ⟨a, b⟩
theorem fact0 (X : K.In h) (G : h.Ns mainGlobals mg) (c : He.SaysD HD.fa HD.fn K) : FnF K mg r0 := by
  obtain ⟨fd, F⟩ := c.def_ 7 (d := HD.dd "_law_cup" 14) rfl
  exact ⟨_, fd, He.glo_ok X G (c.fact 7 (f := .glo "_law_cup") rfl), F⟩
theorem bind0 : BdF r0 := fun _ _ _ _ _ _ us hl => match us, hl with | [_], _ => rfl
theorem fact1 (X : K.In h) (G : h.Ns mainGlobals mg) (c : He.SaysD HD.fa HD.fn K) : FnF K mg r1 := by
  obtain ⟨fd, F⟩ := c.def_ 8 (d := HD.dd "_law_roll" 15) rfl
  exact ⟨_, fd, He.glo_ok X G (c.fact 8 (f := .glo "_law_roll") rfl), F⟩
theorem bind1 : BdF r1 := fun _ _ _ _ _ _ us hl => match us, hl with | [_, _], _ => rfl
theorem fact2 (X : K.In h) (G : h.Ns mainGlobals mg) (c : He.SaysD HD.fa HD.fn K) : FnF K mg r2 := by
  obtain ⟨fd, F⟩ := c.def_ 9 (d := HD.dd "_law_some" 16) rfl
  exact ⟨_, fd, He.glo_ok X G (c.fact 9 (f := .glo "_law_some") rfl), F⟩
theorem bind2 : BdF r2 := fun _ _ _ _ _ _ us hl => match us, hl with | [_, _], _ => rfl
theorem fact4 (X : K.In h) (G : h.Ns mainGlobals mg) (c : He.SaysD HD.fa HD.fn K) : FnF K mg r4 := by
  obtain ⟨fd, F⟩ := c.def_ 18 (d := HD.dd "_law_bush" 25) rfl
  exact ⟨_, fd, He.glo_ok X G (c.fact 18 (f := .glo "_law_bush") rfl), F⟩
theorem bind4 : BdF r4 := fun _ _ _ _ _ _ us hl => match us, hl with | [_, _], _ => rfl
theorem fact1025 (X : K.In h) (G : h.Ns mainGlobals mg) (c : He.SaysD HD.fa HD.fn K) : FnF K mg r1025 := by
  obtain ⟨fd, F⟩ := c.def_ 26 (d := HD.dd "_law_odd" 33) rfl
  exact ⟨_, fd, He.glo_ok X G (c.fact 26 (f := .glo "_law_odd") rfl), F⟩
theorem bind1025 : BdF r1025 := fun _ _ _ _ _ _ us hl => match us, hl with | [_], _ => rfl
theorem fact20 (X : K.In h) (G : h.Ns mainGlobals mg) (c : He.SaysD HD.fa HD.fn K) : FnF K mg r20 := by
  obtain ⟨fd, F⟩ := c.def_ 10 (d := HD.dd "_law_parts" 17) rfl
  exact ⟨_, fd, He.glo_ok X G (c.fact 10 (f := .glo "_law_parts") rfl), F⟩
theorem bind20 : BdF r20 := fun _ _ _ _ _ _ us hl => match us, hl with | [_], _ => rfl
theorem fact24 (X : K.In h) (G : h.Ns mainGlobals mg) (c : He.SaysD HD.fa HD.fn K) : FnF K mg r24 := by
  obtain ⟨fd, F⟩ := c.def_ 11 (d := HD.dd "_law_tips" 18) rfl
  exact ⟨_, fd, He.glo_ok X G (c.fact 11 (f := .glo "_law_tips") rfl), F⟩
theorem bind24 : BdF r24 := fun _ _ _ _ _ _ us hl => match us, hl with | [_], _ => rfl
theorem fact39 (X : K.In h) (G : h.Ns mainGlobals mg) (c : He.SaysD HD.fa HD.fn K) : FnF K mg r39 := by
  obtain ⟨fd, F⟩ := c.def_ 16 (d := HD.dd "_law_depths" 23) rfl
  exact ⟨_, fd, He.glo_ok X G (c.fact 16 (f := .glo "_law_depths") rfl), F⟩
theorem bind39 : BdF r39 := fun _ _ _ _ _ _ us hl => match us, hl with | [_], _ => rfl
theorem fact40 (X : K.In h) (G : h.Ns mainGlobals mg) (c : He.SaysD HD.fa HD.fn K) : FnF K mg r40 := by
  obtain ⟨fd, F⟩ := c.def_ 12 (d := HD.dd "_law_knots" 19) rfl
  exact ⟨_, fd, He.glo_ok X G (c.fact 12 (f := .glo "_law_knots") rfl), F⟩
theorem bind40 : BdF r40 := fun _ _ _ _ _ _ us hl => match us, hl with | [_], _ => rfl
theorem fact41 (X : K.In h) (G : h.Ns mainGlobals mg) (c : He.SaysD HD.fa HD.fn K) : FnF K mg r41 := by
  obtain ⟨fd, F⟩ := c.def_ 17 (d := HD.dd "_law_sizes" 24) rfl
  exact ⟨_, fd, He.glo_ok X G (c.fact 17 (f := .glo "_law_sizes") rfl), F⟩
theorem bind41 : BdF r41 := fun _ _ _ _ _ _ us hl => match us, hl with | [_], _ => rfl
theorem fact5 (X : K.In h) (G : h.Ns mainGlobals mg) (c : He.SaysD HD.fa HD.fn K) : FnF K mg r5 := by
  obtain ⟨fd, F⟩ := c.def_ 20 (d := HD.dd "_law_known" 27) rfl
  exact ⟨_, fd, He.glo_ok X G (c.fact 20 (f := .glo "_law_known") rfl), F⟩
theorem bind5 : BdF r5 := fun _ _ _ _ _ _ us hl => match us, hl with | [_], _ => rfl
theorem fact42 (X : K.In h) (G : h.Ns mainGlobals mg) (c : He.SaysD HD.fa HD.fn K) : FnF K mg r42 := by
  obtain ⟨fd, F⟩ := c.def_ 19 (d := HD.dd "_law_growth" 26) rfl
  exact ⟨_, fd, He.glo_ok X G (c.fact 19 (f := .glo "_law_growth") rfl), F⟩
theorem bind42 : BdF r42 := fun _ _ _ _ _ _ us hl => match us, hl with | [_, _], _ => rfl
theorem fact157 (X : K.In h) (G : h.Ns mainGlobals mg) (c : He.SaysD HD.fa HD.fn K) : FnF K mg r157 := by
  obtain ⟨fd, F⟩ := c.def_ 21 (d := HD.dd "_law_row" 28) rfl
  exact ⟨_, fd, He.glo_ok X G (c.fact 21 (f := .glo "_law_row") rfl), F⟩
theorem bind157 : BdF r157 := fun _ _ _ _ _ _ us hl => match us, hl with | [_, _, _], _ => rfl
theorem fact6 (X : K.In h) (G : h.Ns mainGlobals mg) (c : He.SaysD HD.fa HD.fn K) : FnF K mg r6 := by
  obtain ⟨fd, F⟩ := c.def_ 0 (d := HD.dd "is_tuple_of" 6) rfl
  exact ⟨_, fd, He.glo_ok X G (c.fact 0 (f := .glo "is_tuple_of") rfl), F⟩
theorem bind6 : BdF r6 := fun _ _ _ _ _ _ us hl => match us, hl with | [_, _, _], _ => rfl
theorem fact7 (X : K.In h) (G : h.Ns mainGlobals mg) (c : He.SaysD HD.fa HD.fn K) : FnF K mg r7 := by
  obtain ⟨fd, F⟩ := c.def_ 1 (d := HD.dd "is_letter" 7) rfl
  exact ⟨_, fd, He.glo_ok X G (c.fact 1 (f := .glo "is_letter") rfl), F⟩
theorem bind7 : BdF r7 := fun _ _ _ _ _ _ us hl => match us, hl with | [_], _ => rfl
theorem fact8 (X : K.In h) (G : h.Ns mainGlobals mg) (c : He.SaysD HD.fa HD.fn K) : FnF K mg r8 := by
  obtain ⟨fd, F⟩ := c.def_ 2 (d := HD.dd "fits_part" 8) rfl
  exact ⟨_, fd, He.glo_ok X G (c.fact 2 (f := .glo "fits_part") rfl), F⟩
theorem bind8 : BdF r8 := fun _ _ _ _ _ _ us hl => match us, hl with | [_], _ => rfl
theorem fact9 (X : K.In h) (G : h.Ns mainGlobals mg) (c : He.SaysD HD.fa HD.fn K) : FnF K mg r9 := by
  obtain ⟨fd, F⟩ := c.def_ 3 (d := HD.dd "fits_bush" 9) rfl
  exact ⟨_, fd, He.glo_ok X G (c.fact 3 (f := .glo "fits_bush") rfl), F⟩
theorem bind9 : BdF r9 := fun _ _ _ _ _ _ us hl => match us, hl with | [_], _ => rfl
theorem fact1026 (X : K.In h) (G : h.Ns mainGlobals mg) (c : He.SaysD HD.fa HD.fn K) : FnF K mg r1026 := by
  obtain ⟨fd, F⟩ := c.def_ 5 (d := HD.dd "is_bush" 11) rfl
  exact ⟨_, fd, He.glo_ok X G (c.fact 5 (f := .glo "is_bush") rfl), F⟩
theorem bind1026 : BdF r1026 := fun _ _ _ _ _ _ us hl => match us, hl with | [_], _ => rfl
theorem fact1027 (X : K.In h) (G : h.Ns mainGlobals mg) (c : He.SaysD HD.fa HD.fn K) : FnF K mg r1027 := by
  obtain ⟨fd, F⟩ := c.def_ 25 (d := HD.dd "_law_is_bush" 32) rfl
  exact ⟨_, fd, He.glo_ok X G (c.fact 25 (f := .glo "_law_is_bush") rfl), F⟩
theorem bind1027 : BdF r1027 := fun _ _ _ _ _ _ us hl => match us, hl with | [_, _], _ => rfl
theorem fact1028 (X : K.In h) (G : h.Ns mainGlobals mg) (c : He.SaysD HD.fa HD.fn K) : FnF K mg r1028 := by
  obtain ⟨fd, F⟩ := c.def_ 27 (d := HD.dd "_law_right" 34) rfl
  exact ⟨_, fd, He.glo_ok X G (c.fact 27 (f := .glo "_law_right") rfl), F⟩
theorem bind1028 : BdF r1028 := fun _ _ _ _ _ _ us hl => match us, hl with | [_], _ => rfl
theorem fact46 (X : K.In h) (G : h.Ns mainGlobals mg) (c : He.SaysD HD.fa HD.fn K) : FnF K mg r46 := by
  obtain ⟨fd, F⟩ := c.def_ 4 (d := HD.dd "fits_growths" 10) rfl
  exact ⟨_, fd, He.glo_ok X G (c.fact 4 (f := .glo "fits_growths") rfl), F⟩
theorem bind46 : BdF r46 := fun _ _ _ _ _ _ us hl => match us, hl with | [_], _ => rfl
theorem fact1029 (X : K.In h) (G : h.Ns mainGlobals mg) (c : He.SaysD HD.fa HD.fn K) : FnF K mg r1029 := by
  obtain ⟨fd, F⟩ := c.def_ 6 (d := HD.dd "are_growths" 12) rfl
  exact ⟨_, fd, He.glo_ok X G (c.fact 6 (f := .glo "are_growths") rfl), F⟩
theorem bind1029 : BdF r1029 := fun _ _ _ _ _ _ us hl => match us, hl with | [_], _ => rfl
theorem fact127 (X : K.In h) (G : h.Ns mainGlobals mg) (c : He.SaysD HD.fa HD.fn K) : FnF K mg r127 := by
  obtain ⟨fd, F⟩ := c.def_ 23 (d := HD.dd "_law_chain" 30) rfl
  exact ⟨_, fd, He.glo_ok X G (c.fact 23 (f := .glo "_law_chain") rfl), F⟩
theorem bind127 : BdF r127 := fun _ _ _ _ _ _ us hl => match us, hl with | [_], _ => rfl
theorem fact34 (X : K.In h) (G : h.Ns mainGlobals mg) (c : He.SaysD HD.fa HD.fn K) : FnF K mg r34 := by
  obtain ⟨fd, F⟩ := c.def_ 13 (d := HD.dd "_law_put" 20) rfl
  exact ⟨_, fd, He.glo_ok X G (c.fact 13 (f := .glo "_law_put") rfl), F⟩
theorem bind34 : BdF r34 := fun _ _ _ _ _ _ us hl => match us, hl with | [_, _, _], _ => rfl
theorem fact128 (X : K.In h) (G : h.Ns mainGlobals mg) (c : He.SaysD HD.fa HD.fn K) : FnF K mg r128 := by
  obtain ⟨fd, F⟩ := c.def_ 14 (d := HD.dd "_law_grown" 21) rfl
  exact ⟨_, fd, He.glo_ok X G (c.fact 14 (f := .glo "_law_grown") rfl), F⟩
theorem bind128 : BdF r128 := fun _ _ _ _ _ _ us hl => match us, hl with | [_, _], _ => rfl
theorem fact129 (X : K.In h) (G : h.Ns mainGlobals mg) (c : He.SaysD HD.fa HD.fn K) : FnF K mg r129 := by
  obtain ⟨fd, F⟩ := c.def_ 15 (d := HD.dd "_law_bush_of" 22) rfl
  exact ⟨_, fd, He.glo_ok X G (c.fact 15 (f := .glo "_law_bush_of") rfl), F⟩
theorem bind129 : BdF r129 := fun _ _ _ _ _ _ us hl => match us, hl with | [_], _ => rfl
theorem fact130 (X : K.In h) (G : h.Ns mainGlobals mg) (c : He.SaysD HD.fa HD.fn K) : FnF K mg r130 := by
  obtain ⟨fd, F⟩ := c.def_ 24 (d := HD.dd "_law_great" 31) rfl
  exact ⟨_, fd, He.glo_ok X G (c.fact 24 (f := .glo "_law_great") rfl), F⟩
theorem bind130 : BdF r130 := fun _ _ _ _ _ _ us hl => match us, hl with | [_], _ => rfl
theorem fact1010 (X : K.In h) (G : h.Ns mainGlobals mg) (c : He.SaysD HD.fa HD.fn K) : FnF K mg r1010 := by
  obtain ⟨fd, F⟩ := c.def_ 22 (d := HD.dd "_law_near_bush" 29) rfl
  exact ⟨_, fd, He.glo_ok X G (c.fact 22 (f := .glo "_law_near_bush") rfl), F⟩
theorem bind1010 : BdF r1010 := fun _ _ _ _ _ _ us hl => match us, hl with | [_, _], _ => rfl
theorem fact1030 (X : K.In h) (G : h.Ns mainGlobals mg) (c : He.SaysD HD.fa HD.fn K) : FnF K mg r1030 := by
  obtain ⟨fd, F⟩ := c.def_ 28 (d := HD.dd "law" 35) rfl
  exact ⟨_, fd, He.glo_ok X G (c.fact 28 (f := .glo "law") rfl), F⟩
theorem bind1030 : BdF r1030 := fun _ _ _ _ _ _ us hl => match us, hl with | [_], _ => rfl
theorem facts (X : K.In h) (G : h.Ns mainGlobals mg) (c : He.SaysD HD.fa HD.fn K) : Facts K mg rows cons :=
  ⟨(con_cons (fact0 X G c) (con_cons (fact1 X G c) (con_cons (fact2 X G c) (con_cons (fact4 X G c) (con_cons (fact1025 X G c) (con_cons (fact20 X G c) (con_cons (fact24 X G c) (con_cons (fact39 X G c) (con_cons (fact40 X G c) (con_cons (fact41 X G c) (con_cons (fact5 X G c) (con_cons (fact42 X G c) (con_cons (fact157 X G c) (con_cons (fact6 X G c) (con_cons (fact7 X G c) (con_cons (fact8 X G c) (con_cons (fact9 X G c) (con_cons (fact1026 X G c) (con_cons (fact1027 X G c) (con_cons (fact1028 X G c) (con_cons (fact46 X G c) (con_cons (fact1029 X G c) (con_cons (fact127 X G c) (con_cons (fact34 X G c) (con_cons (fact128 X G c) (con_cons (fact129 X G c) (con_cons (fact130 X G c) (con_cons (fact1010 X G c) (con_cons (fact1030 X G c) (con_nil))))))))))))))))))))))))))))) : ∀ r ∈ rows, FnF K mg r),
  (con_cons (bind0) (con_cons (bind1) (con_cons (bind2) (con_cons (bind4) (con_cons (bind1025) (con_cons (bind20) (con_cons (bind24) (con_cons (bind39) (con_cons (bind40) (con_cons (bind41) (con_cons (bind5) (con_cons (bind42) (con_cons (bind157) (con_cons (bind6) (con_cons (bind7) (con_cons (bind8) (con_cons (bind9) (con_cons (bind1026) (con_cons (bind1027) (con_cons (bind1028) (con_cons (bind46) (con_cons (bind1029) (con_cons (bind127) (con_cons (bind34) (con_cons (bind128) (con_cons (bind129) (con_cons (bind130) (con_cons (bind1010) (con_cons (bind1030) (con_nil))))))))))))))))))))))))))))) : ∀ r ∈ rows, BdF r),
  con_cons (con_str (He.str_ok X G (c.fact 47 (f := .str "LETTERS" "abcdefghijklmnopqrstuvwxyz") rfl)) (by decide +kernel)) (con_cons (con_int (He.int_ok X G (c.fact 48 (f := .int "BRANCHES" 6) rfl))) (con_cons (con_int (He.int_ok X G (c.fact 49 (f := .int "PARTS" 400) rfl))) (con_cons (con_int (He.int_ok X G (c.fact 50 (f := .int "DEEPEST" 60) rfl))) (con_cons (con_int (He.int_ok X G (c.fact 51 (f := .int "GROWTHS" 12) rfl))) (con_nil))))),
  con_cons (He.free_ok X G (c.fact 29 (f := .free "len") rfl)) (con_cons (He.free_ok X G (c.fact 30 (f := .free "abs") rfl)) (con_cons (He.free_ok X G (c.fact 31 (f := .free "int") rfl)) (con_cons (He.free_ok X G (c.fact 32 (f := .free "list") rfl)) (con_cons (He.free_ok X G (c.fact 33 (f := .free "tuple") rfl)) (con_cons (He.free_ok X G (c.fact 34 (f := .free "sum") rfl)) (con_cons (He.free_ok X G (c.fact 35 (f := .free "min") rfl)) (con_cons (He.free_ok X G (c.fact 36 (f := .free "max") rfl)) (con_cons (He.free_ok X G (c.fact 37 (f := .free "sorted") rfl)) (con_cons (He.free_ok X G (c.fact 38 (f := .free "all") rfl)) (con_cons (He.free_ok X G (c.fact 39 (f := .free "range") rfl)) (con_cons (He.free_ok X G (c.fact 40 (f := .free "isinstance") rfl)) (con_cons (He.free_ok X G (c.fact 41 (f := .free "str") rfl)) (con_cons (He.free_ok X G (c.fact 42 (f := .free "any") rfl)) (con_cons (He.free_ok X G (c.fact 43 (f := .free "bool") rfl)) (con_cons (He.free_ok X G (c.fact 44 (f := .free "enumerate") rfl)) (con_cons (He.free_ok X G (c.fact 45 (f := .free "zip") rfl)) (con_cons (He.free_ok X G (c.fact 46 (f := .free "repr") rfl)) (con_nil))))))))))))))))))⟩
theorem rows_all : ∀ r ∈ rows, rowOk rows cons r = true := List.all_eq_true.mp rows_ok
theorem fs_all : ∀ r ∈ rows, FsT r.i = some r.fd := con_cons (rfl) (con_cons (rfl) (con_cons (rfl) (con_cons (rfl) (con_cons (rfl) (con_cons (rfl) (con_cons (rfl) (con_cons (rfl) (con_cons (rfl) (con_cons (rfl) (con_cons (rfl) (con_cons (rfl) (con_cons (rfl) (con_cons (rfl) (con_cons (rfl) (con_cons (rfl) (con_cons (rfl) (con_cons (rfl) (con_cons (rfl) (con_cons (rfl) (con_cons (rfl) (con_cons (rfl) (con_cons (rfl) (con_cons (rfl) (con_cons (rfl) (con_cons (rfl) (con_cons (rfl) (con_cons (rfl) (con_cons (rfl) (con_nil)))))))))))))))))))))))))))))
theorem law_mem : r1030 ∈ rows := by simp [rows]
end
end TW
open PySem PySem.W PySem.Calls PyProof.Rows
theorem holds_by_walk (pl : ∀ ns : List Int, ns.length ≤ 63 → ∃ os, TW.callK TW.FsT TW.WW 230 1030 [.sc ns] = some (.d (.bool true), os)) : PySem.Challenge.rw_tipwoods_k06_whole_what_are_bushes.Holds := by
  w_on; o_law
  refine HandSHeadRun.head_any (r := OpenLaw.row PySem.Challenge.rw_tipwoods_k06_whole_what_are_bushes) (q := view (OpenLaw.row PySem.Challenge.rw_tipwoods_k06_whole_what_are_bushes).prog [35]) (H := HD.hk) (ob := HD.ob) (M := 20000) (loose := HD.names) (d := HandSHeadRun.topDef (OpenLaw.row PySem.Challenge.rw_tipwoods_k06_whole_what_are_bushes).prog 35) (kwd := []) HD.ob_eq
    (by kernel_rfl) (fun s => by kernel_rfl) HD.run (by kernel_rfl) (by kernel_rfl) (by kernel_rfl) (by rfl) (by first | assumption | decide +kernel) (by decide +kernel) ⟨rfl, rfl, rfl, rfl, rfl, by decide +kernel⟩ ?hw ?hc
  case hw => w_witness2
  case hc =>
    refine TW.walk_ofG (l := PySem.Challenge.rw_tipwoods_k06_whole_what_are_bushes) (m := 63) (n := 230) (x := "_law_script") (CX := TW.CX0) rfl (by decide) (by kernel_rfl) ⟨rfl, by decide, by decide⟩ ?F (fun _ _ _ _ z => z)
    intro w mg fa h Y G hmg0
    obtain ⟨K, KX, c⟩ := Y
    have hmg : mg ("law" : PySem.Str) = some (.ref fa) := by
      have e : (HandSHeadRun.topDef (OpenLaw.row PySem.Challenge.rw_tipwoods_k06_whole_what_are_bushes).prog 35).name = ("law" : PySem.Str) := by kernel_rfl
      rw [← e]
      exact hmg0
    have f := TW.facts KX G c
    obtain ⟨a, fd, e1, F⟩ := TW.fact1030 KX G c
    have e1' : mg ("law" : PySem.Str) = some (.ref a) := e1
    cases hmg.symm.trans e1'
    exact ⟨K, fd, TW.SpK K (TW.callK TW.FsT TW.WW 230) 1030 1, KX, fun s u => F.bindsA (ps := TW.r1030.ps) TW.bind1030 s [u] rfl, fun H a ns hl _ hS => TW.law_sp pl H a ns hl hS,
      fun base _ _ => TW.fns_ok f TW.rows_all TW.fs_all 230 TW.r1030 TW.law_mem _ fd e1 F⟩

theorem PySem.Challenge.cw_tipwoods_k06_whole_what_are_bushes_holds : PySem.Challenge.rw_tipwoods_k06_whole_what_are_bushes.Holds :=
  holds_by_walk TW.law6_ok
