import PyProof.Rows.All
import PyProof.ReprReads
import PyProof.EqLayable
import KE.DataEq
import HandS.ForMost
import HandS.Wide
import HandS.WideBits
import HandS.Gcd
import HandS.NoneIn
import HandS.TupAny
import HandS.Walk
import HandS.IsInst
import HandS.Defaults
import HandS.HeadHook2
import KE.GoesMore
import PyProof.EnumMake
import PyProof.ReprRoads
import PySem.Challenge.RW_bandsplits_k71_whole_fewest_trees
import HandS.More
import HandS.WordsExc
import HandS.Head0
import HandS.Head1
import HandS.Head2
import HandS.Head3
import HandS.HeadEnd
import HandS.HeadHook1
import KE.KStateDown
import PyProof.Rows.RegStrFacts
set_option linter.all false
set_option Elab.async false
set_option maxRecDepth 100000
set_option maxHeartbeats 4000000
/-! Sem0: what an expression, a statement is worth, over plain data and a memory of mutable lists (own work, session 1). -/
namespace Bs
open PySem

abbrev D := PyData
/-- what a slot holds: a datum, or the k-th mutable list -/
inductive Sl where
  | d (x : D)
  | at (k : Nat)
abbrev En := List (Option Sl)
abbrev Mm := List (Option (List D))
abbrev GE := En → Mm → Option (D × Mm)
abbrev GL := En → Mm → Option (List D × Mm)
abbrev GT := En → Mm → Option (Bool × Mm)
abbrev GA := En → Mm → Option (List Sl × Mm)
inductive Out where
  | nx (e : En) (m : Mm)
  | rt (x : D) (m : Mm)
  | rl (xs : List D) (m : Mm)
abbrev GS := En → Mm → Option Out
abbrev GG := D → En → Mm → Option (En × Mm)
abbrev GGs := List D → En → Mm → Option (En × Mm)
abbrev Fn := List Sl → Mm → Option (D × Mm)

/-! ### operations on data -/
def ixD (n : Nat) (i : Int) : Option Nat := if 0 ≤ i then (if i < n then some i.toNat else none) else if -(n : Int) ≤ i then some (i + n).toNat else none
def atD (xs : List D) (i : Int) : Option D := (ixD xs.length i).bind fun j => xs[j]?
def sxD (n d : Nat) : Option Int → Nat
  | none => d
  | some v => if v < 0 then (v + (n : Int)).toNat else min v.toNat n
def cutD (xs : List D) (lo hi : Option Int) : List D := (xs.drop (sxD xs.length 0 lo)).take (sxD xs.length xs.length hi - sxD xs.length 0 lo)
/-- every second one, from the first on -/
def alt2 {α : Type} : List α → List α
  | [] => []
  | [x] => [x]
  | x :: _ :: r => x :: alt2 r
/-- a list that is read alone (the script) -/
def rol (xs : List D) : D := .dict (xs.map fun x => (x, .none))
def itemsD : D → Option (List D)
  | .list xs => some xs
  | .tuple xs => some xs
  | .dict kvs => some (kvs.map (·.1))
  | _ => none
def big : Nat := 1000000
def addD : D → D → Option D
  | .int i, .int j => some (.int (i + j))
  | .list xs, .list ys => if xs.length + ys.length ≤ big then some (.list (xs ++ ys)) else none
  | _, _ => none
def addI : D → D → Option D
  | .int i, .int j => some (.int (i + j))
  | _, _ => none
def subD : D → D → Option D
  | .int i, .int j => some (.int (i - j))
  | _, _ => none
def mulD : D → D → Option D
  | .int i, .int j => if i.natAbs.log2 + j.natAbs.log2 < 1000000 then some (.int (i * j)) else none
  | _, _ => none
def divD : D → D → Option D
  | .int i, .int j => if 0 < j ∧ j.natAbs.log2 < 9000 then some (.int (i / j)) else none
  | _, _ => none
/-- the divisor of any sign -/
def divN : D → D → Option D
  | .int i, .int j => if j ≠ 0 ∧ j.natAbs.log2 < 9000 then some (.int (i.fdiv j)) else none
  | _, _ => none
def modD : D → D → Option D
  | .int i, .int j => if 0 < j then some (.int (i % j)) else none
  | _, _ => none
def powD : D → D → Option D
  | .int i, .int j => if 0 ≤ j ∧ j ≤ 1000 ∧ i.natAbs < 1000 then some (.int (i ^ j.toNat)) else none
  | _, _ => none
def negD : D → Option D
  | .int i => some (.int (-i))
  | _ => none
def eqD (x y : D) : Option D := if x.plain = true ∧ y.plain = true ∧ min x.depth y.depth ≤ 64 then some (.bool (PyData.eqv x y)) else none
def neD (x y : D) : Option D := if x.plain = true ∧ y.plain = true ∧ min x.depth y.depth ≤ 64 then some (.bool (!PyData.eqv x y)) else none
def lexI : List Int → List Int → Bool
  | [], [] => false
  | [], _ :: _ => true
  | _ :: _, [] => false
  | x :: xs, y :: ys => if x = y then lexI xs ys else decide (x < y)
def intsD : List D → Option (List Int)
  | [] => some []
  | .int i :: r => (intsD r).map (i :: ·)
  | _ :: _ => none
def blsD : List D → Option (List Bool)
  | [] => some []
  | .bool b :: r => (blsD r).map (b :: ·)
  | _ :: _ => none
def ltD : D → D → Option D
  | .int i, .int j => some (.bool (decide (i < j)))
  | _, _ => none
/-- tuples of ints -/
def ltTD : D → D → Option D
  | .tuple xs, .tuple ys => (intsD xs).bind fun ns => (intsD ys).bind fun ms => some (.bool (lexI ns ms))
  | _, _ => none
def leD : D → D → Option D
  | .int i, .int j => some (.bool (decide (i ≤ j)))
  | _, _ => none
def gtD : D → D → Option D
  | .int i, .int j => some (.bool (decide (j < i)))
  | _, _ => none
def geD : D → D → Option D
  | .int i, .int j => some (.bool (decide (j ≤ i)))
  | _, _ => none
def isND (x : D) : Option D := match x with
  | .none => some (.bool true)
  | _ => some (.bool false)
def idxD : D → D → Option D
  | .list xs, .int i => atD xs i
  | .tuple xs, .int i => atD xs i
  | .dict kvs, .int i => atD (kvs.map (·.1)) i
  | _, _ => none
def lenD : D → Option D
  | .list xs => some (.int xs.length)
  | .tuple xs => some (.int xs.length)
  | .dict kvs => some (.int (kvs.map (·.1)).length)
  | _ => none
inductive Ty where | int | bool | tuple
def isiD : Ty → D → Option D
  | .int, .int _ => some (.bool true)
  | .int, .none => some (.bool false)
  | .int, .tuple _ => some (.bool false)
  | .bool, .int _ => some (.bool false)
  | .tuple, .tuple _ => some (.bool true)
  | .tuple, .none => some (.bool false)
  | .tuple, .int _ => some (.bool false)
  | _, _ => none
def gcdD : D → D → Option D
  | .int a, .int b => some (.int ((Nat.gcd a.natAbs b.natAbs : Nat) : Int))
  | _, _ => none
def allD : D → Option D
  | .list xs => (blsD xs).map fun bs => .bool (bs.all id)
  | _ => none
def sumD : D → Option D
  | .list xs => (intsD xs).map fun ns => .int ns.sum
  | _ => none
def tupleD : D → Option D
  | .list xs => some (.tuple xs)
  | .tuple xs => some (.tuple xs)
  | _ => none
def absD : D → Option D
  | .int i => some (.int (if i < 0 then -i else i))
  | _ => none
def intD : D → Option D
  | .int i => some (.int i)
  | _ => none
def minD : D → D → Option D
  | .int i, .int j => some (.int (if j < i then j else i))
  | _, _ => none
def maxD : D → D → Option D
  | .int i, .int j => some (.int (if j > i then j else i))
  | _, _ => none
def dmD : D → D → Option D
  | .int i, .int j => if 0 < j ∧ j < 1073741824 then some (.tuple [.int (i / j), .int (i % j)]) else none
  | _, _ => none
def reprD (x : D) : Option D := match x with
  | .list _ | .tuple _ => if x.showable = true ∧ x.hasDict = false ∧ x.depth ≤ 60 ∧ x.shown.length ≤ sizeLine then some (.str x.shown) else none
  | _ => none

/-! ### expressions -/
def gVar (i : Nat) : GE := fun e m => match e[i]? with
  | some (some (.d x)) => some (x, m)
  | _ => none
def gC (x : D) : GE := fun _ m => some (x, m)
def g1 (f : D → Option D) (a : GE) : GE := fun e m => (a e m).bind fun p => (f p.1).map fun z => (z, p.2)
def g2 (f : D → D → Option D) (a b : GE) : GE := fun e m => (a e m).bind fun p => (b e p.2).bind fun q => (f p.1 q.1).map fun z => (z, q.2)
/-- the mutable list of slot i, its item -/
def gMIx (i : Nat) (b : GE) : GE := fun e m => match e[i]? with
  | some (some (.at k)) => (b e m).bind fun q => match q.1 with
    | .int j => (match q.2[k]? with
      | some (some xs) => (atD xs j).map fun z => (z, q.2)
      | _ => none)
    | _ => none
  | _ => none
/-- the mutable list of slot i is mutable no more -/
def gFrz (i : Nat) : GE := fun e m => match e[i]? with
  | some (some (.at k)) => (match m[k]? with
    | some (some xs) => some (.list xs, m.set k none)
    | _ => none)
  | _ => none
def boolD : D → Option Bool
  | .bool b => some b
  | _ => none
def gtV (a : GE) : GT := fun e m => (a e m).bind fun p => (boolD p.1).map fun b => (b, p.2)
def gtAnd (a b : GT) : GT := fun e m => (a e m).bind fun p => if p.1 = true then b e p.2 else some (false, p.2)
def gtOr (a b : GT) : GT := fun e m => (a e m).bind fun p => if p.1 = true then some (true, p.2) else b e p.2
def gtNot (a : GT) : GT := fun e m => (a e m).map fun p => (!p.1, p.2)
def gtYes : GT := fun _ m => some (true, m)
/-- and, or as values: all but the last True or False -/
def gAnd (a b : GE) : GE := fun e m => (a e m).bind fun p => (boolD p.1).bind fun c => if c = true then b e p.2 else some (.bool false, p.2)
def gOr (a b : GE) : GE := fun e m => (a e m).bind fun p => (boolD p.1).bind fun c => if c = true then some (.bool true, p.2) else b e p.2
def gNot (a : GE) : GE := fun e m => (a e m).bind fun p => (boolD p.1).map fun c => (.bool (!c), p.2)
def gIte (t : GT) (a b : GE) : GE := fun e m => (t e m).bind fun p => if p.1 = true then a e p.2 else b e p.2
/-- a < b < c -/
def gChain (f f' : D → D → Option D) (a b c : GE) : GE := fun e m => (a e m).bind fun p => (b e p.2).bind fun q => (f p.1 q.1).bind fun z => (boolD z).bind fun k =>
  if k = true then (c e q.2).bind fun r => (f' q.1 r.1).map fun y => (y, r.2) else some (.bool false, q.2)
/-- written items -/
def gl0 : GL := fun _ m => some ([], m)
def glc (a : GE) (r : GL) : GL := fun e m => (a e m).bind fun p => (r e p.2).map fun q => (p.1 :: q.1, q.2)
def gTup (a : GL) : GE := fun e m => (a e m).bind fun p => if p.1.length ≤ big then some (.tuple p.1, p.2) else none
/-- a list made anew -/
def glD (a : GL) : GL := fun e m => (a e m).bind fun p => if p.1.length ≤ big then some p else none
def glRep (a : GL) (n : GE) : GL := fun e m => (a e m).bind fun p => (n e p.2).bind fun q => match q.1 with
  | .int k => if (0 ≤ k ∧ k ≤ big) ∧ p.1.length * k.toNat ≤ big then some ((List.replicate k.toNat p.1).flatten, q.2) else none
  | _ => none
def glCat (a b : GL) : GL := fun e m => (a e m).bind fun p => (b e p.2).bind fun q => if p.1.length + q.1.length ≤ big then some (p.1 ++ q.1, q.2) else none
/-- a list's slice -/
def glSl (a : GE) (lo hi : En → Mm → Option (Option Int × Mm)) : GL := fun e m => (a e m).bind fun p => (lo e p.2).bind fun l => (hi e l.2).bind fun h => match p.1 with
  | .list xs => some (cutD xs l.1 h.1, h.2)
  | .dict kvs => some (cutD (kvs.map (·.1)) l.1 h.1, h.2)
  | _ => none
def gpN : En → Mm → Option (Option Int × Mm) := fun _ m => some (none, m)
def gpS (a : GE) : En → Mm → Option (Option Int × Mm) := fun e m => (a e m).bind fun p => match p.1 with
  | .int i => some (some i, p.2)
  | _ => none
def gList (a : GL) : GE := fun e m => (a e m).map fun p => (.list p.1, p.2)
def gSlT (a : GE) (lo hi : En → Mm → Option (Option Int × Mm)) : GE := fun e m => (a e m).bind fun p => (lo e p.2).bind fun l => (hi e l.2).bind fun h => match p.1 with
  | .tuple xs => some (.tuple (cutD xs l.1 h.1), h.2)
  | _ => none
/-- t[a::2], 0 ≤ a -/
def gSl2 (a b : GE) : GE := fun e m => (a e m).bind fun p => (b e p.2).bind fun q => match p.1, q.1 with
  | .tuple xs, .int i => if 0 ≤ i then some (.tuple (alt2 (xs.drop i.toNat)), q.2) else none
  | _, _ => none
/-- list(t) -/
def glOf (a : GE) : GL := fun e m => (a e m).bind fun p => match p.1 with
  | .list xs => some (xs, p.2)
  | .tuple xs => some (xs, p.2)
  | _ => none
/-! ### calls -/
def ga0 : GA := fun _ m => some ([], m)
def gac (a : GE) (r : GA) : GA := fun e m => (a e m).bind fun p => (r e p.2).map fun q => (.d p.1 :: q.1, q.2)
/-- a mutable list handed on -/
def gam (i : Nat) (r : GA) : GA := fun e m => match e[i]? with
  | some (some (.at k)) => (r e m).map fun q => (.at k :: q.1, q.2)
  | _ => none
def gCall (F : Fn) (a : GA) : GE := fun e m => (a e m).bind fun p => F p.1 p.2
/-! ### what is walked -/
def gxL (a : GE) : GL := fun e m => (a e m).bind fun p => match p.1 with
  | .list xs => some (xs, p.2)
  | .dict kvs => some (kvs.map (·.1), p.2)
  | _ => none
def gxT (a : GE) : GL := fun e m => (a e m).bind fun p => match p.1 with
  | .tuple xs => some (xs, p.2)
  | _ => none
def rngD (lo n : Int) : List D := (List.range (n - lo).toNat).map fun i => .int (lo + (i : Nat))
def gxR1 (a : GE) : GL := fun e m => (a e m).bind fun p => match p.1 with
  | .int n => if -1000000 ≤ n ∧ n ≤ 1000000 then some (rngD 0 n, p.2) else none
  | _ => none
def gxR2 (a b : GE) : GL := fun e m => (a e m).bind fun p => (b e p.2).bind fun q => match p.1, q.1 with
  | .int lo, .int n => if (-1000000 ≤ lo ∧ lo ≤ 1000000) ∧ (-1000000 ≤ n ∧ n ≤ 1000000) then some (rngD lo n, q.2) else none
  | _, _ => none
def enumD (xs : List D) : List D := xs.zipIdx.map fun p => .tuple [.int (p.2 : Nat), p.1]
def gxE (a : GE) : GL := fun e m => (a e m).bind fun p => match p.1 with
  | .tuple xs => some (enumD xs, p.2)
  | _ => none
/-! ### comprehensions -/
def wipeE (e : En) : List Nat → En
  | [] => e
  | v :: vs => (wipeE e vs).set v none
def compG (e : En) (j : Nat) (t : GT) (y : GE) : List D → Mm → List D → Option (List D × Mm)
  | [], m, acc => some (acc, m)
  | x :: xs, m, acc => (t (e.set j (some (.d x))) m).bind fun p => if p.1 = true then (y (e.set j (some (.d x))) p.2).bind fun q => if acc.length < big then compG e j t y xs q.2 (acc ++ [q.1]) else none
      else compG e j t y xs p.2 acc
def glLc (src : GL) (j : Nat) (vs : List Nat) (t : GT) (y : GE) : GL := fun e m => (src e m).bind fun p => compG (wipeE e vs) j t y p.1 p.2 []
/-! ### statements -/
def gsN : GS := fun e m => some (.nx e m)
def gsSeq (a b : GS) : GS := fun e m => (a e m).bind fun o => match o with
  | .nx e1 m1 => b e1 m1
  | .rt x m1 => some (.rt x m1)
  | .rl x m1 => some (.rl x m1)
def gsRet (a : GE) : GS := fun e m => (a e m).map fun p => .rt p.1 p.2
def gsRetL (a : GL) : GS := fun e m => (a e m).map fun p => .rl p.1 p.2
def gsIf (t : GT) (a b : GS) : GS := fun e m => (t e m).bind fun p => if p.1 = true then a e p.2 else b e p.2
def gsNever : GS := fun _ _ => none
def gsDrop (a : GE) : GS := fun e m => (a e m).map fun p => .nx e p.2
/-- more turns than any while takes -/
def fuelN : Nat := 2 ^ 5000
def ggN (i : Nat) : GG := fun x e m => some (e.set i (some (.d x)), m)
def gg0 : GGs := fun xs e m => match xs with
  | [] => some (e, m)
  | _ => none
def ggc (g : GG) (r : GGs) : GGs := fun xs e m => match xs with
  | x :: ys => (g x e m).bind fun p => r ys p.1 p.2
  | [] => none
def ggT (n : Nat) (g : GGs) : GG := fun x e m => match x with
  | .tuple xs => if xs.length = n then g xs e m else none
  | _ => none
def ggL (n : Nat) (g : GGs) : GG := fun x e m => match x with
  | .list xs => if xs.length = n then g xs e m else none
  | _ => none
def setM (m : Mm) (k : Nat) (j : Int) (x : D) : Option Mm := match m[k]? with
  | some (some xs) => (ixD xs.length j).map fun n => m.set k (some (xs.set n x))
  | _ => none
/-- xs[b] = .., xs the mutable list of slot i -/
def ggM (i : Nat) (b : GE) : GG := fun x e m => match e[i]? with
  | some (some (.at k)) => (b e m).bind fun q => match q.1 with
    | .int j => (setM q.2 k j x).map fun m' => (e, m')
    | _ => none
  | _ => none
def gsAsg (a : GE) (g : GG) : GS := fun e m => (a e m).bind fun p => (g p.1 e p.2).map fun q => .nx q.1 q.2
def gsPar (i j : Nat) (a b : GE) : GS := fun e m => (a e m).bind fun p => (b e p.2).map fun q => .nx ((e.set i (some (.d p.1))).set j (some (.d q.1))) q.2
/-- x = a list made anew, mutable from here on -/
def gsNew (i : Nat) (a : GL) : GS := fun e m => (a e m).map fun p => .nx (e.set i (some (.at p.2.length))) (p.2 ++ [some p.1])
/-- a, b = x, a list made anew -/
def gsParN (i j : Nat) (a : GE) (b : GL) : GS := fun e m => (a e m).bind fun p => (b e p.2).map fun q => .nx ((e.set i (some (.d p.1))).set j (some (.at q.2.length))) (q.2 ++ [some q.1])
def gsAug (i : Nat) (f : D → D → Option D) (a : GE) : GS := fun e m => match e[i]? with
  | some (some (.d x)) => (a e m).bind fun p => (f x p.1).map fun z => .nx (e.set i (some (.d z))) p.2
  | _ => none
def gsApp (i : Nat) (a : GE) : GS := fun e m => match e[i]? with
  | some (some (.at k)) => (match m[k]? with
    | some (some _) => (a e m).bind fun p => (match p.2[k]? with
      | some (some xs) => if xs.length < big then some (.nx e (p.2.set k (some (xs ++ [p.1])))) else none
      | _ => none)
    | _ => none)
  | _ => none
def forG (g : GG) (b : GS) : List D → En → Mm → Option Out
  | [], e, m => some (.nx e m)
  | x :: xs, e, m => (g x e m).bind fun p => (b p.1 p.2).bind fun o => match o with
    | .nx e1 m1 => forG g b xs e1 m1
    | .rt y m1 => some (.rt y m1)
    | .rl y m1 => some (.rl y m1)
def gsFor (src : GL) (g : GG) (b : GS) : GS := fun e m => (src e m).bind fun p => forG g b p.1 e p.2
def whileG (t : GT) (b : GS) : Nat → En → Mm → Option Out
  | 0, _, _ => none
  | n + 1, e, m => (t e m).bind fun p => if p.1 = true then (b e p.2).bind fun o => match o with
    | .nx e1 m1 => whileG t b n e1 m1
    | .rt y m1 => some (.rt y m1)
    | .rl y m1 => some (.rl y m1)
    else some (.nx e p.2)
def gsWhile (fuel : En → Nat) (t : GT) (b : GS) : GS := fun e m => whileG t b (fuel e) e m
/-! ### defs -/
/-- a def's body: n its slots; the lists that it has made are forgotten behind it -/
def runB (n : Nat) (g : GS) : Fn := fun ss m => (g (ss.map some ++ List.replicate (n - ss.length) none) m).bind fun o => match o with
  | .nx _ m1 => some (.none, m1.take m.length)
  | .rt x m1 => some (x, m1.take m.length)
  | .rl xs m1 => some (.list xs, m1.take m.length)
def failF : Fn := fun _ _ => none
/-- three things in another order -/
def perm3 {α : Type} (i j l : Nat) (xs : List α) : List α := match xs with
  | [x, y, z] => [([x, y, z][i]?).getD x, ([x, y, z][j]?).getD x, ([x, y, z][l]?).getD x]
  | _ => []
def gCallK (i j l : Nat) (F : Fn) (a : GA) : GE := fun e m => (a e m).bind fun p => if p.1.length = 3 then F (perm3 i j l p.1) p.2 else none
def runL (n : Nat) (g : GS) : List Sl → Mm → Option (List D × Mm) := fun ss m => (g (ss.map some ++ List.replicate (n - ss.length) none) m).bind fun o => match o with
  | .rl xs m1 => some (xs, m1.take m.length)
  | _ => none
abbrev FnL := List Sl → Mm → Option (List D × Mm)
def glCall (F : FnL) (a : GA) : GL := fun e m => (a e m).bind fun p => F p.1 p.2
/-- f([..]), f a def that shows data, its list the callee's to write in -/
def gCallN (F : Fn) (a : GL) : GE := fun e m => (a e m).bind fun p => (F [.at p.2.length] (p.2 ++ [some p.1])).map fun q => (q.1, q.2.take m.length)
end Bs
/-! Sem1: the relation between data and the layer's values, steps of the world. -/
namespace Bs
open PySem PySem.Spec PyProof.Rows L2

mutual
inductive Rp (K : PySem.W.Frag) (W : Hp) : V → D → Prop
  | non : Rp K W .non .none
  | bl (b : Bool) : Rp K W (.bl b) (.bool b)
  | int (i : Int) : Rp K W (.int i) (.int i)
  | str (x : Str) : Rp K W (.str x) (.str x)
  | lst {a : Addr} {xs : List V} {ds : List D} : Rd W a (.lst xs) → Rps K W xs ds → Rp K W (.ref a) (.list ds)
  | tup {a : Addr} {xs : List V} {ds : List D} : SqT K W a xs → Rps K W xs ds → Rp K W (.ref a) (.tuple ds)
  | rol {a : Addr} {xs : List V} {kvs : List (D × D)} : SqL K W a xs → Rps K W xs (kvs.map (·.1)) → Rp K W (.ref a) (.dict kvs)
inductive Rps (K : PySem.W.Frag) (W : Hp) : List V → List D → Prop
  | nil : Rps K W [] []
  | cons {v : V} {vs : List V} {d : D} {ds : List D} : Rp K W v d → Rps K W vs ds → Rps K W (v :: vs) (d :: ds)
end

section
variable {K : PySem.W.Frag} {W W' H : Hp}
theorem rd_mono {a : Addr} {u : HO} (e : Same W W') (h : Rd W a u) : Rd W' a u := by
  rcases h with h | ⟨o, h⟩
  · exact .inl (e _ _ h)
  · exact .inr ⟨o, e _ _ h⟩
theorem sqt_mono {a : Addr} {xs : List V} (e : Same W W') (h : SqT K W a xs) : SqT K W' a xs := by
  rcases h with h | h
  · exact .inl (rd_mono e h)
  · exact .inr h
theorem sql_mono {a : Addr} {xs : List V} (e : Same W W') (h : SqL K W a xs) : SqL K W' a xs := by
  rcases h with h | h
  · exact .inl (rd_mono e h)
  · exact .inr h
mutual
theorem Rp.mono (e : Same W W') : ∀ {v : V} {d : D}, Rp K W v d → Rp K W' v d
  | _, _, .non => .non
  | _, _, .bl b => .bl b
  | _, _, .int i => .int i
  | _, _, .str x => .str x
  | _, _, .lst h r => .lst (rd_mono e h) (Rps.mono e r)
  | _, _, .tup h r => .tup (sqt_mono e h) (Rps.mono e r)
  | _, _, .rol h r => .rol (sql_mono e h) (Rps.mono e r)
theorem Rps.mono (e : Same W W') : ∀ {v : List V} {d : List D}, Rps K W v d → Rps K W' v d
  | _, _, .nil => .nil
  | _, _, .cons h r => .cons (Rp.mono e h) (Rps.mono e r)
end
theorem Rps.length : ∀ {vs : List V} {ds : List D}, Rps K W vs ds → vs.length = ds.length
  | _, _, .nil => rfl
  | _, _, .cons _ r => by rw [List.length_cons, List.length_cons, Rps.length r]
theorem Rps.get : ∀ {vs : List V} {ds : List D} {i : Nat} {d : D}, Rps K W vs ds → ds[i]? = some d → ∃ v, vs[i]? = some v ∧ Rp K W v d
  | _, _, _, _, .nil, e => by simp at e
  | _, _, 0, _, .cons r _, e => by
    have q := Option.some.inj e
    subst q
    exact ⟨_, rfl, r⟩
  | _, _, i + 1, d, .cons _ t, e => by
    obtain ⟨u, h1, h2⟩ := Rps.get (i := i) (d := d) t (by simpa using e)
    exact ⟨u, by simpa using h1, h2⟩
theorem Rps.getV : ∀ {vs : List V} {ds : List D} {i : Nat} {v : V}, Rps K W vs ds → vs[i]? = some v → ∃ d, ds[i]? = some d ∧ Rp K W v d
  | _, _, _, _, .nil, e => by simp at e
  | _, _, 0, _, .cons r _, e => by
    have q := Option.some.inj e
    subst q
    exact ⟨_, rfl, r⟩
  | _, _, i + 1, d, .cons _ t, e => by
    obtain ⟨u, h1, h2⟩ := Rps.getV (i := i) (v := d) t (by simpa using e)
    exact ⟨u, by simpa using h1, h2⟩
theorem Rps.app : ∀ {xs ys : List V} {ds es : List D}, Rps K W xs ds → Rps K W ys es → Rps K W (xs ++ ys) (ds ++ es)
  | _, _, _, _, .nil, s => s
  | _, _, _, _, .cons r t, s => .cons r (Rps.app t s)
theorem Rps.snoc {xs : List V} {ds : List D} {v : V} {d : D} (h : Rps K W xs ds) (r : Rp K W v d) : Rps K W (xs ++ [v]) (ds ++ [d]) := h.app (.cons r .nil)
theorem Rps.drop : ∀ {xs : List V} {ds : List D} (n : Nat), Rps K W xs ds → Rps K W (xs.drop n) (ds.drop n)
  | _, _, 0, r => r
  | _, _, _ + 1, .nil => .nil
  | _, _, n + 1, .cons _ t => Rps.drop n t
theorem Rps.take : ∀ {xs : List V} {ds : List D} (n : Nat), Rps K W xs ds → Rps K W (xs.take n) (ds.take n)
  | _, _, 0, _ => .nil
  | _, _, _ + 1, .nil => .nil
  | _, _, n + 1, .cons r t => .cons r (Rps.take n t)
theorem Rps.set {x : V} {d : D} (r : Rp K W x d) : ∀ {xs : List V} {ds : List D} (i : Nat), Rps K W xs ds → Rps K W (xs.set i x) (ds.set i d)
  | _, _, _, .nil => .nil
  | _, _, 0, .cons _ t => .cons r t
  | _, _, i + 1, .cons q t => .cons q (Rps.set r i t)
theorem Rps.rep {xs : List V} {ds : List D} (h : Rps K W xs ds) : ∀ k : Nat, Rps K W (List.replicate k xs).flatten (List.replicate k ds).flatten
  | 0 => .nil
  | k + 1 => by
    rw [List.replicate_succ, List.replicate_succ, List.flatten_cons, List.flatten_cons]
    exact h.app (Rps.rep h k)
theorem Rps.ints : ∀ {vs : List V} {ds : List D} {ns : List Int}, Rps K W vs ds → intsD ds = some ns → vs = ns.map V.int
  | _, _, ns, .nil, e => by
    have q : some [] = some ns := e
    cases q
    rfl
  | _, _, ns, .cons (d := d) (ds := ds) h r, e => by
    cases h with
    | int i =>
      have e2 : (intsD ds).map (i :: ·) = some ns := e
      cases q : intsD ds with
      | none => rw [q] at e2; cases e2
      | some ms =>
        rw [q] at e2
        have e3 : i :: ms = ns := Option.some.inj e2
        subst e3
        rw [Rps.ints r q]
        rfl
    | _ => exact nomatch e
theorem Rps.bls : ∀ {vs : List V} {ds : List D} {ns : List Bool}, Rps K W vs ds → blsD ds = some ns → vs = ns.map V.bl
  | _, _, ns, .nil, e => by
    have q : some [] = some ns := e
    cases q
    rfl
  | _, _, ns, .cons (d := d) (ds := ds) h r, e => by
    cases h with
    | bl i =>
      have e2 : (blsD ds).map (i :: ·) = some ns := e
      cases q : blsD ds with
      | none => rw [q] at e2; cases e2
      | some ms =>
        rw [q] at e2
        have e3 : i :: ms = ns := Option.some.inj e2
        subst e3
        rw [Rps.bls r q]
        rfl
    | _ => exact nomatch e
theorem rd_sql {a : Addr} {xs : List V} (h : Rd W a (.lst xs)) : SqL K W a xs := .inl h
mutual
theorem Rp.dp : ∀ {v : V} {d : D}, Rp K W v d → d.hasDict = false → Dp K W v d
  | _, _, .non, _ => .non
  | _, _, .bl b, _ => .bl b
  | _, _, .int i, _ => .int i
  | _, _, .str x, _ => .str x
  | _, _, .lst h r, e => .lst (.inl h) (Rps.dp r (by simpa [PyData.hasDict] using e))
  | _, _, .tup h r, e => .tup h (Rps.dp r (by simpa [PyData.hasDict] using e))
  | _, _, .rol h r, e => by simp [PyData.hasDict] at e
theorem Rps.dp : ∀ {v : List V} {d : List D}, Rps K W v d → PyData.hasDictAll d = false → DpAll K W v d
  | _, _, .nil, _ => .nil
  | _, _, .cons h r, e => by
    have e2 := e
    simp only [PyData.hasDictAll, Bool.or_eq_false_iff] at e2
    exact .cons (Rp.dp h e2.1) (Rps.dp r e2.2)
end
end

/-! ### the world -/
structure Sx where
  W : Hp
  as : List Addr
  m : Mm
  H : Hp
def Live (as : List Addr) (m : Mm) (b : Addr) : Prop := ∃ (k : Nat) (ds : List D), as[k]? = some b ∧ m[k]? = some (some ds)
structure At (K : PySem.W.Frag) (s : Sx) : Prop where
  sub : Same s.W s.H
  len : s.as.length = s.m.length
  nd : s.as.Nodup
  tr : ∀ p ∈ s.as, Live s.as s.m p ∨ s.W p ≠ none
  at_ : ∀ (k : Nat) (p : Addr) (ds : List D), s.as[k]? = some p → s.m[k]? = some (some ds) → s.W p = none ∧ ∃ xs, s.H p = some (.lst xs) ∧ Rps K s.W xs ds
structure Stp (K : PySem.W.Frag) (s t : Sx) : Prop where
  a : At K t
  ex : Same s.W t.W
  pre : ∃ l, t.as = s.as ++ l
  fr : ∀ b o, s.H b = some o → ¬ Live s.as s.m b → t.H b = some o
  fs : ∀ b, (t.W b ≠ none ∨ b ∈ t.as) → s.W b ≠ none ∨ Live s.as s.m b ∨ s.H b = none
section
variable {K : PySem.W.Frag} {s t u : Sx}
theorem live_mem {as : List Addr} {m : Mm} {b : Addr} (h : Live as m b) : b ∈ as := by
  obtain ⟨k, _, e, _⟩ := h
  exact List.mem_of_getElem? e
theorem nodup_ixA {N : List Addr} (hN : N.Nodup) {i j : Nat} {x : Addr} (a : N[i]? = some x) (b : N[j]? = some x) : i = j := by
  obtain ⟨h1, e1⟩ := List.getElem?_eq_some_iff.mp a
  obtain ⟨h2, e2⟩ := List.getElem?_eq_some_iff.mp b
  exact (List.getElem_inj hN).mp (e1.trans e2.symm)
theorem At.liveW (a : At K s) {b : Addr} (h : Live s.as s.m b) : s.W b = none := by
  obtain ⟨k, ds, e1, e2⟩ := h
  exact (a.at_ k b ds e1 e2).1
theorem At.inH (a : At K s) {p : Addr} (h : p ∈ s.as) : s.H p ≠ none := by
  rcases a.tr p h with ⟨k, ds, e1, e2⟩ | h
  · obtain ⟨_, xs, e, _⟩ := a.at_ k p ds e1 e2
    rw [e]
    exact fun z => nomatch z
  · cases e : s.W p with
    | none => exact absurd e h
    | some o =>
      rw [a.sub p o e]
      exact fun z => nomatch z
theorem At.old (a : At K s) {b : Addr} (h : b ∈ s.as) : s.W b ≠ none ∨ Live s.as s.m b ∨ s.H b = none := (a.tr b h).elim (fun z => .inr (.inl z)) .inl
theorem Stp.refl (a : At K s) : Stp K s s := ⟨a, Same.refl _, ⟨[], by simp⟩, fun _ _ h _ => h, fun b h => h.elim .inl fun z => a.old z⟩
theorem Stp.tr (h : Stp K s t) {b : Addr} (hb : s.H b ≠ none) : t.H b ≠ none := by
  by_cases q : Live s.as s.m b
  · obtain ⟨l, e⟩ := h.pre
    exact h.a.inH (by rw [e]; exact List.mem_append_left _ (live_mem q))
  · cases e : s.H b with
    | none => exact absurd e hb
    | some o => rw [h.fr b o e q]; exact fun z => nomatch z
theorem Stp.trans (h : Stp K s t) (k : Stp K t u) : Stp K s u := by
  refine ⟨k.a, h.ex.trans k.ex, ?_, fun b o e n => ?_, fun b q => ?_⟩
  · obtain ⟨l, e⟩ := h.pre
    obtain ⟨l', e'⟩ := k.pre
    exact ⟨l ++ l', by rw [e', e, List.append_assoc]⟩
  · refine k.fr b o (h.fr b o e n) fun z => ?_
    rcases h.fs b (.inr (live_mem z)) with q | q | q
    · have w := h.a.liveW z
      cases e2 : s.W b with
      | none => exact q e2
      | some o2 =>
        rw [h.ex b o2 e2] at w
        cases w
    · exact n q
    · rw [e] at q; cases q
  · rcases k.fs b q with q | q | q
    · exact h.fs b (.inl q)
    · exact h.fs b (.inr (live_mem q))
    · right; right
      cases e : s.H b with
      | none => rfl
      | some o => exact absurd q (h.tr (by rw [e]; exact fun z => nomatch z))
theorem Stp.fresh (h : Stp K s t) {p : Addr} (e : t.H p = none) : s.H p = none := by
  cases q : s.H p with
  | none => rfl
  | some o => exact absurd e (h.tr (by rw [q]; exact fun z => nomatch z))
theorem same_new {W : Hp} {p : Addr} {o : HO} (h : W p = none) : Same W (upd W p o) := fun b u e => by
  rw [upd_ne (ne_of_none e h)]
  exact e
theorem same_ne {W W' : Hp} (h : Same W W') {b : Addr} (hb : W b ≠ none) : W' b ≠ none := by
  cases e : W b with
  | none => exact absurd e hb
  | some o =>
    rw [h b o e]
    exact fun z => nomatch z
theorem At.free (a : At K s) {p : Addr} (h : s.H p = none) : s.W p = none := by
  cases q : s.W p with
  | none => rfl
  | some o => rw [a.sub p o q] at h; cases h
theorem At.notAs (a : At K s) {p : Addr} (h : s.H p = none) : p ∉ s.as := fun z => a.inH z h
/-- a new object, known -/
theorem stp_new (a : At K s) {p : Addr} {o : HO} (h : s.H p = none) : Stp K s { s with W := upd s.W p o, H := upd s.H p o } := by
  have hw := a.free h
  refine ⟨⟨fun b u e => ?_, a.len, a.nd, fun q hq => (a.tr q hq).elim .inl fun z => .inr (same_ne (same_new hw) z), fun k q ds e1 e2 => ?_⟩, same_new hw, ⟨[], by simp⟩, fun b u e _ => ?_, fun b q => ?_⟩
  · have e' : upd s.W p o b = some u := e
    show upd s.H p o b = some u
    by_cases hb : b = p
    · subst hb
      rw [upd_same] at e' ⊢
      exact e'
    · rw [upd_ne hb] at e' ⊢
      exact a.sub b u e'
  · have hq : q ∈ s.as := List.mem_of_getElem? e1
    have hne : q ≠ p := fun z => a.notAs h (z ▸ hq)
    obtain ⟨h1, xs, h2, h3⟩ := a.at_ k q ds e1 e2
    exact ⟨(upd_ne hne).trans h1, xs, (upd_ne hne).trans h2, h3.mono (same_new hw)⟩
  · show upd s.H p o b = some u
    rw [upd_ne (ne_of_none e h)]
    exact e
  · rcases q with q | q
    · by_cases hb : b = p
      · subst hb
        exact .inr (.inr h)
      · left
        have q' : upd s.W p o b ≠ none := q
        rw [upd_ne hb] at q'
        exact q'
    · exact a.old q
/-- a new object, not known yet -/
theorem stp_own (a : At K s) {p : Addr} {o : HO} (h : s.H p = none) : Stp K s { s with H := upd s.H p o } := by
  refine ⟨⟨fun b u e => ?_, a.len, a.nd, a.tr, fun k q ds e1 e2 => ?_⟩, Same.refl _, ⟨[], by simp⟩, fun b u e _ => ?_, fun b q => ?_⟩
  · show upd s.H p o b = some u
    rw [upd_ne (ne_of_none (a.sub b u e) h)]
    exact a.sub b u e
  · have hq : q ∈ s.as := List.mem_of_getElem? e1
    have hne : q ≠ p := fun z => a.notAs h (z ▸ hq)
    obtain ⟨h1, xs, h2, h3⟩ := a.at_ k q ds e1 e2
    exact ⟨h1, xs, (upd_ne hne).trans h2, h3⟩
  · show upd s.H p o b = some u
    rw [upd_ne (ne_of_none e h)]
    exact e
  · rcases q with q | q
    · exact .inl q
    · exact a.old q
/-- an object of ours that is not known changes -/
theorem stp_mut (a : At K s) {p : Addr} {o o' : HO} (h : s.H p = some o) (hw : s.W p = none) (hp : p ∉ s.as) : At K { s with H := upd s.H p o' } := by
  refine ⟨fun b u e => ?_, a.len, a.nd, a.tr, fun k q ds e1 e2 => ?_⟩
  · show upd s.H p o' b = some u
    rw [upd_ne (fun z => by rw [z, hw] at e; cases e)]
    exact a.sub b u e
  · have hq : q ∈ s.as := List.mem_of_getElem? e1
    have hne : q ≠ p := fun z => hp (z ▸ hq)
    obtain ⟨h1, xs, h2, h3⟩ := a.at_ k q ds e1 e2
    exact ⟨h1, xs, (upd_ne hne).trans h2, h3⟩
/-- an own object becomes known -/
theorem stp_frz (a : At K s) {p : Addr} {o : HO} (h : s.H p = some o) (hw : s.W p = none) (hp : p ∉ s.as) : At K { s with W := upd s.W p o } := by
  refine ⟨fun b u e => ?_, a.len, a.nd, fun q hq => (a.tr q hq).elim .inl fun z => .inr (same_ne (same_new hw) z), fun k q ds e1 e2 => ?_⟩
  · by_cases hb : b = p
    · subst hb
      have e' : upd s.W b o b = some u := e
      rw [upd_same] at e'
      rw [← e']
      exact h
    · have e' : upd s.W p o b = some u := e
      rw [upd_ne hb] at e'
      exact a.sub b u e'
  · have hq : q ∈ s.as := List.mem_of_getElem? e1
    have hne : q ≠ p := fun z => hp (z ▸ hq)
    obtain ⟨h1, xs, h2, h3⟩ := a.at_ k q ds e1 e2
    exact ⟨(upd_ne hne).trans h1, xs, h2, h3.mono (same_new hw)⟩
/-- from s to t, then t's own object p (new since s) becomes known -/
theorem Stp.frz (h : Stp K s t) {p : Addr} {o : HO} (hn : s.H p = none) (hp : t.H p = some o) (hw : t.W p = none) (ha : p ∉ t.as) : Stp K s { t with W := upd t.W p o } := by
  refine ⟨stp_frz h.a hp hw ha, h.ex.trans (same_new hw), h.pre, h.fr, fun b q => ?_⟩
  rcases q with q | q
  · by_cases hb : b = p
    · subst hb
      exact .inr (.inr hn)
    · have q' : upd t.W p o b ≠ none := q
      rw [upd_ne hb] at q'
      exact h.fs b (.inl q')
  · exact h.fs b (.inr q)
/-- from s to t, then t's own object p (new since s) changes -/
theorem Stp.mut (h : Stp K s t) {p : Addr} {o o' : HO} (hn : s.H p = none) (hp : t.H p = some o) (hw : t.W p = none) (ha : p ∉ t.as) : Stp K s { t with H := upd t.H p o' } := by
  refine ⟨stp_mut h.a hp hw ha, h.ex, h.pre, fun b u e n => ?_, h.fs⟩
  show upd t.H p o' b = some u
  rw [upd_ne (ne_of_none e hn)]
  exact h.fr b u e n
theorem live_app {as : List Addr} {m : Mm} {b : Addr} (h : Live as m b) (as' : List Addr) (m' : Mm) : Live (as ++ as') (m ++ m') b := by
  obtain ⟨k, ds, e1, e2⟩ := h
  exact ⟨k, ds, by rw [List.getElem?_append_left (List.getElem?_eq_some_iff.mp e1).1]; exact e1, by rw [List.getElem?_append_left (List.getElem?_eq_some_iff.mp e2).1]; exact e2⟩
/-- .. becomes the next mutable list -/
theorem Stp.alloc (h : Stp K s t) {p : Addr} {xs : List V} {ds : List D} (hn : s.H p = none) (hp : t.H p = some (.lst xs)) (hw : t.W p = none) (ha : p ∉ t.as) (r : Rps K t.W xs ds) :
    Stp K s { t with as := t.as ++ [p], m := t.m ++ [some ds] } := by
  obtain ⟨l, el⟩ := h.pre
  refine ⟨⟨h.a.sub, by simp [h.a.len], ?_, fun q hq => ?_, fun k q es e1 e2 => ?_⟩, h.ex, ⟨l ++ [p], by simp [el]⟩, h.fr, fun b q => ?_⟩
  · exact List.nodup_append.mpr ⟨h.a.nd, by simp, fun a ha' b hb => by
      have e : b = p := by simpa using hb
      subst e
      exact fun z => ha (z ▸ ha')⟩
  · rcases List.mem_append.mp hq with q1 | q1
    · exact (h.a.tr q q1).elim (fun z => .inl (live_app z _ _)) .inr
    · have e : q = p := by simpa using q1
      rw [e]
      exact .inl ⟨t.as.length, ds, by simp, by show (t.m ++ [some ds])[t.as.length]? = _; rw [h.a.len]; simp⟩
  · have e1' : (t.as ++ [p])[k]? = some q := e1
    have e2' : (t.m ++ [some ds])[k]? = some (some es) := e2
    by_cases hk : k < t.as.length
    · rw [List.getElem?_append_left hk] at e1'
      rw [List.getElem?_append_left (by rw [← h.a.len]; exact hk)] at e2'
      exact h.a.at_ k q es e1' e2'
    · have hk2 : k = t.as.length := by
        have := (List.getElem?_eq_some_iff.mp e1').1
        simp at this
        omega
      subst hk2
      rw [List.getElem?_append_right (Nat.le_refl _)] at e1'
      rw [List.getElem?_append_right (by rw [h.a.len]; exact Nat.le_refl _)] at e2'
      have e3 : p = q := by simpa using e1'
      have e4 : ds = es := by simpa [h.a.len] using e2'
      subst e3
      subst e4
      exact ⟨hw, xs, hp, r⟩
  · rcases q with q | q
    · exact h.fs b (.inl q)
    · rcases List.mem_append.mp q with q | q
      · exact h.fs b (.inr q)
      · have e : b = p := by simpa using q
        rw [e]
        exact .inr (.inr hn)
/-- the k-th mutable list is written -/
theorem stp_put (a : At K s) {k : Nat} {p : Addr} {ds es : List D} {ys : List V} (h1 : s.as[k]? = some p) (h2 : s.m[k]? = some (some ds)) (r : Rps K s.W ys es) :
    Stp K s { s with m := s.m.set k (some es), H := upd s.H p (.lst ys) } := by
  obtain ⟨hw, xs, hp, _⟩ := a.at_ k p ds h1 h2
  have hL : Live s.as s.m p := ⟨k, ds, h1, h2⟩
  have hkl : k < s.m.length := (List.getElem?_eq_some_iff.mp h2).1
  refine ⟨⟨fun b u e => ?_, by simp [a.len], a.nd, fun q hq => ?_, fun j q fs e1 e2 => ?_⟩, Same.refl _, ⟨[], by simp⟩, fun b u e n => ?_, fun b q => ?_⟩
  · show upd s.H p _ b = some u
    rw [upd_ne (fun z => by rw [z, hw] at e; cases e)]
    exact a.sub b u e
  · rcases a.tr q hq with ⟨j, fs, e1, e2⟩ | z
    · by_cases hj : j = k
      · subst hj
        exact .inl ⟨j, es, e1, List.getElem?_set_self hkl⟩
      · exact .inl ⟨j, fs, e1, by show (s.m.set k (some es))[j]? = _; rw [List.getElem?_set_ne (Ne.symm hj)]; exact e2⟩
    · exact .inr z
  · by_cases hj : j = k
    · subst hj
      have e2' : (s.m.set j (some es))[j]? = some (some fs) := e2
      rw [List.getElem?_set_self hkl] at e2'
      rw [h1] at e1
      cases e1
      cases e2'
      exact ⟨hw, ys, upd_same, r⟩
    · have e2' : (s.m.set k (some es))[j]? = some (some fs) := e2
      rw [List.getElem?_set_ne (Ne.symm hj)] at e2'
      obtain ⟨g1, zs, g2, g3⟩ := a.at_ j q fs e1 e2'
      have hne : q ≠ p := fun z => by
        subst z
        exact hj (nodup_ixA a.nd e1 h1)
      exact ⟨g1, zs, (upd_ne hne).trans g2, g3⟩
  · show upd s.H p _ b = some u
    rw [upd_ne (fun z => by
      rw [z] at n
      exact n hL)]
    exact e
  · rcases q with q | q
    · exact .inl q
    · exact a.old q
/-- the k-th mutable list is mutable no more -/
theorem stp_kill (a : At K s) {k : Nat} {p : Addr} {ds : List D} {xs : List V} (h1 : s.as[k]? = some p) (h2 : s.m[k]? = some (some ds)) (hp : s.H p = some (.lst xs)) :
    Stp K s { s with W := upd s.W p (.lst xs), m := s.m.set k none } := by
  obtain ⟨hw, _, _, _⟩ := a.at_ k p ds h1 h2
  have hkl : k < s.m.length := (List.getElem?_eq_some_iff.mp h2).1
  refine ⟨⟨fun b u e => ?_, by simp [a.len], a.nd, fun q hq => ?_, fun j q fs e1 e2 => ?_⟩, same_new hw, ⟨[], by simp⟩, fun b u e n => e, fun b q => ?_⟩
  · have e' : upd s.W p (.lst xs) b = some u := e
    by_cases hb : b = p
    · subst hb
      rw [upd_same] at e'
      rw [← e']
      exact hp
    · rw [upd_ne hb] at e'
      exact a.sub b u e'
  · rcases a.tr q hq with ⟨j, fs, e1, e2⟩ | z
    · by_cases hj : j = k
      · subst hj
        rw [h1] at e1
        cases e1
        right
        show upd s.W p _ p ≠ none
        rw [upd_same]
        exact fun z => nomatch z
      · exact .inl ⟨j, fs, e1, by show (s.m.set k none)[j]? = _; rw [List.getElem?_set_ne (Ne.symm hj)]; exact e2⟩
    · exact .inr (same_ne (same_new hw) z)
  · have e2' : (s.m.set k none)[j]? = some (some fs) := e2
    by_cases hj : j = k
    · subst hj
      rw [List.getElem?_set_self hkl] at e2'
      cases e2'
    · rw [List.getElem?_set_ne (Ne.symm hj)] at e2'
      obtain ⟨g1, zs, g2, g3⟩ := a.at_ j q fs e1 e2'
      have hne : q ≠ p := fun z => by
        subst z
        exact hj (nodup_ixA a.nd e1 h1)
      exact ⟨(upd_ne hne).trans g1, zs, g2, g3.mono (same_new hw)⟩
  · rcases q with q | q
    · have q' : upd s.W p (.lst xs) b ≠ none := q
      by_cases hb : b = p
      · subst hb
        exact .inr (.inl ⟨k, ds, h1, h2⟩)
      · rw [upd_ne hb] at q'
        exact .inl q'
    · exact a.old q
/-- an own object stays apart -/
theorem Stp.apart (h : Stp K s t) {p : Addr} {o : HO} (hp : s.H p = some o) (hw : s.W p = none) (ha : p ∉ s.as) : t.H p = some o ∧ t.W p = none ∧ p ∉ t.as := by
  have nl : ¬ Live s.as s.m p := fun z => ha (live_mem z)
  have no : ¬ (s.W p ≠ none ∨ Live s.as s.m p ∨ s.H p = none) := fun z => z.elim (fun z => z hw) fun z => z.elim nl fun z => by rw [hp] at z; cases z
  refine ⟨h.fr p o hp nl, ?_, fun z => no (h.fs p (.inr z))⟩
  cases e : t.W p with
  | none => rfl
  | some o2 => exact absurd (h.fs p (.inl (by rw [e]; exact fun z => nomatch z))) no
end

/-! ### slots -/
def SlR (K : PySem.W.Frag) (s : Sx) : Sl → V → Prop
  | .d x, v => Rp K s.W v x
  | .at k, v => ∃ p, s.as[k]? = some p ∧ v = .ref p
structure EnR (K : PySem.W.Frag) (s : Sx) (σ : L2.St) (e : En) : Prop where
  len : σ.length = e.length
  get : ∀ (i : Nat) (x : Sl), e[i]? = some (some x) → ∃ v, σ[i]? = some (some v) ∧ SlR K s x v
section
variable {K : PySem.W.Frag} {s t : Sx} {σ : L2.St} {e : En}
theorem SlR.mono (h : Stp K s t) {x : Sl} {v : V} (r : SlR K s x v) : SlR K t x v := by
  cases x with
  | d x => exact Rp.mono h.ex r
  | «at» k =>
    obtain ⟨p, e, rfl⟩ := r
    obtain ⟨l, el⟩ := h.pre
    exact ⟨p, by rw [el, List.getElem?_append_left (List.getElem?_eq_some_iff.mp e).1]; exact e, rfl⟩
theorem EnR.mono (h : Stp K s t) (r : EnR K s σ e) : EnR K t σ e := ⟨r.len, fun i x q => let ⟨v, h1, h2⟩ := r.get i x q; ⟨v, h1, h2.mono h⟩⟩
theorem EnR.set (r : EnR K s σ e) (i : Nat) {x : Sl} {v : V} (h : SlR K s x v) : EnR K s (σ.set i (some v)) (e.set i (some x)) := by
  refine ⟨by simp [r.len], fun j y q => ?_⟩
  by_cases hj : j = i
  · subst hj
    have hl : j < e.length := by
      have := (List.getElem?_eq_some_iff.mp q).1
      simpa using this
    rw [List.getElem?_set_self hl] at q
    cases q
    exact ⟨v, by rw [List.getElem?_set_self (by rw [r.len]; exact hl)], h⟩
  · rw [List.getElem?_set_ne (Ne.symm hj)] at q
    obtain ⟨w, h1, h2⟩ := r.get j y q
    exact ⟨w, by rw [List.getElem?_set_ne (Ne.symm hj)]; exact h1, h2⟩
theorem EnR.unset (r : EnR K s σ e) (i : Nat) : EnR K s (σ.set i none) (e.set i none) := by
  refine ⟨by simp [r.len], fun j y q => ?_⟩
  by_cases hj : j = i
  · subst hj
    have hl : j < e.length := by
      have := (List.getElem?_eq_some_iff.mp q).1
      simpa using this
    rw [List.getElem?_set_self hl] at q
    cases q
  · rw [List.getElem?_set_ne (Ne.symm hj)] at q
    obtain ⟨w, h1, h2⟩ := r.get j y q
    exact ⟨w, by rw [List.getElem?_set_ne (Ne.symm hj)]; exact h1, h2⟩
theorem EnR.wipe (r : EnR K s σ e) : ∀ vs : List Nat, EnR K s (L2.wipe σ vs) (wipeE e vs)
  | [] => r
  | v :: vs => (EnR.wipe r vs).unset v
end
end Bs
/-! Sem2: the judgements over data and their rules: expressions, tests, displays. -/
namespace Bs
open PySem PySem.Spec PyProof.Rows L2

/-! ### readings that data tell -/
def tE (K : PySem.W.Frag) (g : GE) : TE := fun σ H Q => ∃ (e : En) (s : Sx) (d : D) (m' : Mm), At K s ∧ s.H = H ∧ EnR K s σ e ∧ g e s.m = some (d, m') ∧ ∀ v u, u.m = m' → Stp K s u → Rp K u.W v d → Q v u.H
def tL (K : PySem.W.Frag) (g : GL) : TE := fun σ H Q => ∃ (e : En) (s : Sx) (ds : List D) (m' : Mm), At K s ∧ s.H = H ∧ EnR K s σ e ∧ g e s.m = some (ds, m') ∧
  ∀ p xs u, u.m = m' → Stp K s u → s.H p = none → u.H p = some (.lst xs) → u.W p = none → p ∉ u.as → Rps K u.W xs ds → Q (.ref p) u.H
def tT (K : PySem.W.Frag) (g : GT) : TT := fun σ H Q => ∃ (e : En) (s : Sx) (b : Bool) (m' : Mm), At K s ∧ s.H = H ∧ EnR K s σ e ∧ g e s.m = some (b, m') ∧ ∀ u, u.m = m' → Stp K s u → Q b u.H
def tA (K : PySem.W.Frag) (g : GA) : TA := fun σ H Q => ∃ (e : En) (s : Sx) (ss : List Sl) (m' : Mm), At K s ∧ s.H = H ∧ EnR K s σ e ∧ g e s.m = some (ss, m') ∧ ∀ vs u, u.m = m' → Stp K s u → Paired (SlR K u) ss vs → Q vs u.H
def tDs (K : PySem.W.Frag) (g : GL) : TA := fun σ H Q => ∃ (e : En) (s : Sx) (ss : List D) (m' : Mm), At K s ∧ s.H = H ∧ EnR K s σ e ∧ g e s.m = some (ss, m') ∧ ∀ vs u, u.m = m' → Stp K s u → Rps K u.W vs ss → Q vs u.H
def tO (K : PySem.W.Frag) (g : En → Mm → Option (Option Int × Mm)) : TO := fun σ H Q => ∃ (e : En) (s : Sx) (o : Option Int) (m' : Mm), At K s ∧ s.H = H ∧ EnR K s σ e ∧ g e s.m = some (o, m') ∧ ∀ u, u.m = m' → Stp K s u → Q o u.H

abbrev JE (X : Cx) (x : Expr) (g : GE) : Prop := PE X x (tE X.K g)
abbrev JL (X : Cx) (x : Expr) (g : GL) : Prop := PE X x (tL X.K g)
abbrev JT (X : Cx) (x : Expr) (g : GT) : Prop := PT X x (tT X.K g)
abbrev JD (X : Cx) (x : List Expr) (g : GL) : Prop := PA X x (tDs X.K g)
abbrev JO (X : Cx) (x : Option Expr) (g : En → Mm → Option (Option Int × Mm)) : Prop := PO X x (tO X.K g)

theorem pe_weak {X : Cx} {x : Expr} {t t' : TE} (h : PE X x t) (w : ∀ σ H Q, t' σ H Q → t σ H Q) : PE X x t' := ⟨fun pins s σ H Q I q => h.run pins s σ H Q I (w σ H Q q)⟩
theorem pt_weak {X : Cx} {x : Expr} {t t' : TT} (h : PT X x t) (w : ∀ σ H Q, t' σ H Q → t σ H Q) : PT X x t' := ⟨fun pins s σ H Q I q => h.run pins s σ H Q I (w σ H Q q)⟩
theorem pw_weak {X : Cx} {x : Expr} {t t' : TT} (h : PW X x t) (w : ∀ σ H Q, t' σ H Q → t σ H Q) : PW X x t' := ⟨fun wh pins s σ H Q I q => h.run wh pins s σ H Q I (w σ H Q q)⟩
theorem pa_weak {X : Cx} {x : List Expr} {t t' : TA} (h : PA X x t) (w : ∀ σ H Q, t' σ H Q → t σ H Q) : PA X x t' := ⟨fun pos pins s σ H Q I q => h.run pos pins s σ H Q I (w σ H Q q)⟩
theorem po_weak {X : Cx} {x : Option Expr} {t t' : TO} (h : PO X x t) (w : ∀ σ H Q, t' σ H Q → t σ H Q) : PO X x t' := ⟨fun pins s σ H Q I q => h.run pins s σ H Q I (w σ H Q q)⟩

/-! ### what the layer's operators ask, by data -/
def R2ok (K : PySem.W.Frag) (r : R2) (f : D → D → Option D) : Prop := ∀ (s : Sx) (x y d : D) (v w : V), At K s → Rp K s.W v x → Rp K s.W w y → f x y = some d →
  ∀ Q : VK, (∀ z u, u.m = s.m → Stp K s u → Rp K u.W z d → Q z u.H) → r v w s.H Q
def R1ok (K : PySem.W.Frag) (r : V → Hp → VK → Prop) (f : D → Option D) : Prop := ∀ (s : Sx) (x d : D) (v : V), At K s → Rp K s.W v x → f x = some d →
  ∀ Q : VK, (∀ z u, u.m = s.m → Stp K s u → Rp K u.W z d → Q z u.H) → r v s.H Q
def C1ok (K : PySem.W.Frag) (r : List V → Hp → VK → Prop) (f : D → Option D) : Prop := R1ok K (fun v => r [v]) f
def C2ok (K : PySem.W.Frag) (r : List V → Hp → VK → Prop) (f : D → D → Option D) : Prop := R2ok K (fun v w => r [v, w]) f

theorem bind_some_iff {α β : Type} {o : Option α} {f : α → Option β} {b : β} (h : o.bind f = some b) : ∃ a, o = some a ∧ f a = some b := by
  cases o with
  | none => cases h
  | some a => exact ⟨a, rfl, h⟩
theorem map_some_iff {α β : Type} {o : Option α} {f : α → β} {b : β} (h : o.map f = some b) : ∃ a, o = some a ∧ f a = b := by
  cases o with
  | none => cases h
  | some a => exact ⟨a, rfl, Option.some.inj h⟩

section
variable {X : Cx} {a b c : Expr} {ga gb gc : GE} {pos : Pos} {K : PySem.W.Frag}
theorem je_var {i : Nat} {x : Str} (hN : X.N[i]? = some x := by rfl) (hv : Vis X.env.scope x := by first | exact Or.inl rfl | exact Or.inr (Or.inl rfl) | exact Or.inr (Or.inr rfl)) (hd : (x == ("__debug__" : Str)) = false := by decide)
    (hcd : (x == ("__classdict__" : Str)) = false := by decide) : JE X (.Name x pos) (gVar i) := by
  refine pe_weak (pe_var hN hv hd hcd) fun σ H Q h => ?_
  obtain ⟨e, s, d, m', a, rfl, en, hg, post⟩ := h
  unfold gVar at hg
  split at hg
  · rename_i x' he
    injection hg with hg
    injection hg with h1 h2
    subst h1 h2
    obtain ⟨v, h3, h4⟩ := en.get i _ he
    exact ⟨v, h3, post v s rfl (Stp.refl a) h4⟩
  · cases hg
theorem je_const {v : V} {d : D} (h : PE X a (tC v)) (r : ∀ W, Rp X.K W v d) : JE X a (gC d) := by
  refine pe_weak h fun σ H Q h => ?_
  obtain ⟨e, s, d', m', a, rfl, en, hg, post⟩ := h
  have hg' : some (d, s.m) = some (d', m') := hg
  cases hg'
  exact post v s rfl (Stp.refl a) (r _)
theorem je_int {i : Int} {j} : JE X (.Constant (.int i) j pos) (gC (.int i)) := je_const pe_int fun _ => .int i
theorem je_str {x : Str} {j} : JE X (.Constant (.str x) j pos) (gC (.str x)) := je_const pe_str fun _ => .str x
theorem je_non {j} : JE X (.Constant .none j pos) (gC .none) := je_const pe_non fun _ => .non
theorem je_bl {k : Bool} {j} : JE X (.Constant (.bool k) j pos) (gC (.bool k)) := je_const pe_bl fun _ => .bl k
/-- a constant of the module -/
structure Gv (K : PySem.W.Frag) (mg : Str → Option Value) (x : Str) (d : D) : Prop where
  ex : ∃ v u, mg x = some u ∧ RelV v u ∧ ∀ W, Rp K W v d
theorem je_glob {x : Str} {d : D} (G : Gv X.K X.mg x d) (hg : Gl X x := by rfl) (hd : (x == ("__debug__" : Str)) = false := by decide) : JE X (.Name x pos) (gC d) := by
  obtain ⟨v, u, h1, h2, h3⟩ := G.ex
  exact je_const (pe_glob hg h1 h2 hd) h3
theorem je_op {op : Operator} {r : R2} {f : D → D → Option D} (ho : OpR X (binaryOp op) r) (hr : R2ok X.K r f) (ha : JE X a ga) (hb : JE X b gb) : JE X (.BinOp a op b pos) (g2 f ga gb) := by
  refine pe_weak (pe_op ho ha hb) fun σ H Q h => ?_
  obtain ⟨e, s, d, m', A, rfl, en, hg, post⟩ := h
  obtain ⟨⟨d1, m1⟩, h1, hg⟩ := bind_some_iff hg
  obtain ⟨⟨d2, m2⟩, h2, hg⟩ := bind_some_iff hg
  obtain ⟨z, h3, hg⟩ := map_some_iff hg
  cases hg
  refine ⟨e, s, d1, m1, A, rfl, en, h1, fun v u hm st rp => ⟨e, u, d2, m2, st.a, rfl, en.mono st, by rw [hm]; exact h2, fun w u2 hm2 st2 rp2 => ?_⟩⟩
  exact hr u2 d1 d2 d v w st2.a (rp.mono st2.ex) rp2 h3 Q fun z u3 hm3 st3 rp3 => post z u3 (by rw [hm3, hm2]) ((st.trans st2).trans st3) rp3
theorem je_cmp {op : CmpOp} {r : R2} {f : D → D → Option D} (ho : OpR X (compareOp op) r) (hr : R2ok X.K r f) (ha : JE X a ga) (hb : JE X b gb) (hm : behindInMarks op b = false) : JE X (.Compare a [op] [b] pos) (g2 f ga gb) := by
  refine pe_weak (pe_cmpR ho ha hb hm) fun σ H Q h => ?_
  obtain ⟨e, s, d, m', A, rfl, en, hg, post⟩ := h
  obtain ⟨⟨d1, m1⟩, h1, hg⟩ := bind_some_iff hg
  obtain ⟨⟨d2, m2⟩, h2, hg⟩ := bind_some_iff hg
  obtain ⟨z, h3, hg⟩ := map_some_iff hg
  cases hg
  refine ⟨e, s, d1, m1, A, rfl, en, h1, fun v u hm st rp => ⟨e, u, d2, m2, st.a, rfl, en.mono st, by rw [hm]; exact h2, fun w u2 hm2 st2 rp2 => ?_⟩⟩
  exact hr u2 d1 d2 d v w st2.a (rp.mono st2.ex) rp2 h3 Q fun z u3 hm3 st3 rp3 => post z u3 (by rw [hm3, hm2]) ((st.trans st2).trans st3) rp3
theorem je_un {op : UnaryOp} {r : V → Hp → VK → Prop} {f : D → Option D} (ho : UnR X (unaryOp op) r) (hr : R1ok X.K r f) (ha : JE X a ga) : JE X (.UnaryOp op a pos) (g1 f ga) := by
  refine pe_weak (pe_un ho ha) fun σ H Q h => ?_
  obtain ⟨e, s, d, m', A, rfl, en, hg, post⟩ := h
  obtain ⟨⟨d1, m1⟩, h1, hg⟩ := bind_some_iff hg
  obtain ⟨z, h3, hg⟩ := map_some_iff hg
  cases hg
  exact ⟨e, s, d1, m1, A, rfl, en, h1, fun v u hm st rp => hr u d1 d v st.a rp h3 Q fun z u3 hm3 st3 rp3 => post z u3 (by rw [hm3, hm]) (st.trans st3) rp3⟩
/-- a subscript -/
theorem je_ix {r : R2} {f : D → D → Option D} (ho : IxR X r) (hr : R2ok X.K r f) (ha : JE X a ga) (hb : JE X b gb) (hs : PlainIx b := by exact fun _ _ => rfl) : JE X (.Subscript a b pos) (g2 f ga gb) := by
  refine pe_weak (pe_ix ho ha hb hs) fun σ H Q h => ?_
  obtain ⟨e, s, d, m', A, rfl, en, hg, post⟩ := h
  obtain ⟨⟨d1, m1⟩, h1, hg⟩ := bind_some_iff hg
  obtain ⟨⟨d2, m2⟩, h2, hg⟩ := bind_some_iff hg
  obtain ⟨z, h3, hg⟩ := map_some_iff hg
  cases hg
  refine ⟨e, s, d1, m1, A, rfl, en, h1, fun v u hm st rp => ⟨e, u, d2, m2, st.a, rfl, en.mono st, by rw [hm]; exact h2, fun w u2 hm2 st2 rp2 => ?_⟩⟩
  exact hr u2 d1 d2 d v w st2.a (rp.mono st2.ex) rp2 h3 Q fun z u3 hm3 st3 rp3 => post z u3 (by rw [hm3, hm2]) ((st.trans st2).trans st3) rp3
/-- built-in functions of one, two arguments -/
theorem je_b1 {id : String} {x : Str} {p : Pos} {r : List V → Hp → VK → Prop} {f : D → Option D} (hc : CallR X (.builtin id) r) (hr : C1ok X.K r f) (ha : JE X a ga) (hm : X.mg x = none) (hg : Gl X x := by rfl) (hv : bootBuiltins x = some (.builtin id) := by decide +kernel)
    (hn : x ≠ "__name__" := by decide) (hdb : (x == ("__debug__" : Str)) = false := by decide) (hs : starEach [a] X.env = (false, eval a X.env) :: starEach [] X.env := by rfl) (hpl : (backTo pos (starEach [] X.env)).any (·.1) = false := by rfl) :
    JE X (.Call (.Name x p) [a] [] pos) (g1 f ga) := by
  refine pe_weak (pe_callB hc hg hm hv (pa_cons ha pa_nil hs) hn hdb hs hpl) fun σ H Q h => ?_
  obtain ⟨e, s, d, m', A, rfl, en, hg, post⟩ := h
  obtain ⟨⟨d1, m1⟩, h1, hg⟩ := bind_some_iff hg
  obtain ⟨z, h3, hg⟩ := map_some_iff hg
  cases hg
  exact ⟨e, s, d1, m1, A, rfl, en, h1, fun v u hm st rp => hr u d1 d v st.a rp h3 Q fun z u3 hm3 st3 rp3 => post z u3 (by rw [hm3, hm]) (st.trans st3) rp3⟩
theorem je_b1f {id : String} {x : Str} {p : Pos} {r : List V → Hp → VK → Prop} {f : D → Option D} (hc : CallR X (.type id) r) (hr : C1ok X.K r f) (ha : JE X a ga) (hm : X.mg x = none) (hg : Gl X x := by rfl) (hv : bootBuiltins x = some (.type id) := by decide +kernel)
    (hn : x ≠ "__name__" := by decide) (hdb : (x == ("__debug__" : Str)) = false := by decide) (hs : starEach [a] X.env = (false, eval a X.env) :: starEach [] X.env := by rfl) (hpl : (backTo pos (starEach [] X.env)).any (·.1) = false := by rfl) :
    JE X (.Call (.Name x p) [a] [] pos) (g1 f ga) := by
  refine pe_weak (pe_callTy hc hg hm hv (pa_cons ha pa_nil hs) hn hdb hs hpl) fun σ H Q h => ?_
  obtain ⟨e, s, d, m', A, rfl, en, hg, post⟩ := h
  obtain ⟨⟨d1, m1⟩, h1, hg⟩ := bind_some_iff hg
  obtain ⟨z, h3, hg⟩ := map_some_iff hg
  cases hg
  exact ⟨e, s, d1, m1, A, rfl, en, h1, fun v u hm st rp => hr u d1 d v st.a rp h3 Q fun z u3 hm3 st3 rp3 => post z u3 (by rw [hm3, hm]) (st.trans st3) rp3⟩
theorem call2_weak {r : List V → Hp → VK → Prop} {f : D → D → Option D} (hr : C2ok K r f) {σ : L2.St} {H : Hp} {Q : VK} (h : tE K (g2 f ga gb) σ H Q) : tCB r (tCons (tE K ga) (tCons (tE K gb) tNil)) σ H Q := by
  obtain ⟨e, s, d, m', A, rfl, en, hg, post⟩ := h
  obtain ⟨⟨d1, m1⟩, h1, hg⟩ := bind_some_iff hg
  obtain ⟨⟨d2, m2⟩, h2, hg⟩ := bind_some_iff hg
  obtain ⟨z, h3, hg⟩ := map_some_iff hg
  cases hg
  refine ⟨e, s, d1, m1, A, rfl, en, h1, fun v u hm st rp => ⟨e, u, d2, m2, st.a, rfl, en.mono st, by rw [hm]; exact h2, fun w u2 hm2 st2 rp2 => ?_⟩⟩
  exact hr u2 d1 d2 d v w st2.a (rp.mono st2.ex) rp2 h3 Q fun z u3 hm3 st3 rp3 => post z u3 (by rw [hm3, hm2]) ((st.trans st2).trans st3) rp3
theorem je_b2 {id : String} {x : Str} {p : Pos} {r : List V → Hp → VK → Prop} {f : D → D → Option D} (hc : CallR X (.builtin id) r) (hr : C2ok X.K r f) (ha : JE X a ga) (hb : JE X b gb) (hm : X.mg x = none) (hg : Gl X x := by rfl) (hv : bootBuiltins x = some (.builtin id) := by decide +kernel)
    (hn : x ≠ "__name__" := by decide) (hdb : (x == ("__debug__" : Str)) = false := by decide) (hs : starEach [a, b] X.env = (false, eval a X.env) :: starEach [b] X.env := by rfl) (hs2 : starEach [b] X.env = (false, eval b X.env) :: starEach [] X.env := by rfl)
    (hpl : (backTo pos (starEach [b] X.env)).any (·.1) = false := by rfl) : JE X (.Call (.Name x p) [a, b] [] pos) (g2 f ga gb) :=
  pe_weak (pe_callB hc hg hm hv (pa_cons ha (pa_cons hb pa_nil hs2) hs) hn hdb hs hpl) fun σ H Q h => call2_weak hr h
/-- a module's name for a built-in function -/
theorem je_f2 {id : String} {x : Str} {p : Pos} {r : List V → Hp → VK → Prop} {f : D → D → Option D} (hc : CallR X (.builtin id) r) (hr : C2ok X.K r f) (ha : JE X a ga) (hb : JE X b gb) (hm : X.mg x = some (.builtin id)) (hg : Gl X x := by rfl)
    (hdb : (x == ("__debug__" : Str)) = false := by decide) (hs : starEach [a, b] X.env = (false, eval a X.env) :: starEach [b] X.env := by rfl) (hs2 : starEach [b] X.env = (false, eval b X.env) :: starEach [] X.env := by rfl)
    (hpl : (backTo pos (starEach [b] X.env)).any (·.1) = false := by rfl) : JE X (.Call (.Name x p) [a, b] [] pos) (g2 f ga gb) :=
  pe_weak (pe_callBfun hc hg hm (pa_cons ha (pa_cons hb pa_nil hs2) hs) hdb hs hpl) fun σ H Q h => call2_weak hr h
/-- isinstance(a, T) -/
theorem je_isi {p q : Pos} {T : Str} {t : String} {f : D → Option D} (hr : ∀ (s : Sx) (x d : D) (v : V), At X.K s → Rp X.K s.W v x → f x = some d → ∃ ty k, TyX X.K s.H v ty ∧ PySem.W.kitOne X.K ty (.type t) = some k ∧ d = .bool k) (ha : JE X a ga) (hm : X.mg "isinstance" = none) (hT : X.mg T = none)
    (hg : Gl X "isinstance" := by rfl) (hv : bootBuiltins "isinstance" = some (.builtin "isinstance") := by decide +kernel) (hgT : Gl X T := by rfl) (hvT : bootBuiltins T = some (.type t) := by decide +kernel) (hn : T ≠ "__name__" := by decide) (hdb : (T == ("__debug__" : Str)) = false := by decide)
    (hs : starEach [a, .Name T q] X.env = (false, eval a X.env) :: starEach [.Name T q] X.env := by rfl) (hs2 : starEach [.Name T q] X.env = (false, eval (.Name T q) X.env) :: starEach [] X.env := by rfl)
    (hpl : (backTo pos (starEach [.Name T q] X.env)).any (·.1) = false := by rfl) : JE X (.Call (.Name "isinstance" p) [a, .Name T q] [] pos) (g1 f ga) := by
  have hb : PE X (.Name T q) (tC (.ty t)) := pe_bltn hgT hT hvT (v := .ty t) rfl hn hdb
  refine pe_weak (pe_callB call_isi hg hm hv (pa_cons ha (pa_cons hb pa_nil hs2) hs) (by decide) (by decide) hs hpl) fun σ H Q h => ?_
  obtain ⟨e, s, d, m', A, rfl, en, hg, post⟩ := h
  obtain ⟨⟨d1, m1⟩, h1, hg⟩ := bind_some_iff hg
  obtain ⟨z, h3, hg⟩ := map_some_iff hg
  cases hg
  refine ⟨e, s, d1, m1, A, rfl, en, h1, fun v u hm st rp => ?_⟩
  obtain ⟨ty, k, t1, t2, rfl⟩ := hr u d1 d v st.a rp h3
  exact ⟨v, .ty t, ty, .type t, k, rfl, .ty t, t1, t2, post _ u hm st (.bl k)⟩
/-! ### and, or, not, if -/
variable {rest : List Expr} {t u : GT}
theorem je_one {op} {g : GE} (h : JE X a g) : JE X (.BoolOp op [a] pos) g := pe_one h
theorem je_and (ha : JE X a ga) (hb : JE X (.BoolOp .And (b :: rest) pos) gb) : JE X (.BoolOp .And (a :: b :: rest) pos) (gAnd ga gb) := by
  refine pe_weak (pe_and ha hb) fun σ H Q h => ?_
  obtain ⟨e, s, d, m', A, rfl, en, hg, post⟩ := h
  obtain ⟨⟨d1, m1⟩, h1, hg⟩ := bind_some_iff hg
  obtain ⟨k, h2, hg⟩ := bind_some_iff hg
  refine ⟨e, s, d1, m1, A, rfl, en, h1, fun v u hm st rp => ?_⟩
  cases rp with
  | bl k' =>
    have e : k' = k := Option.some.inj h2
    subst e
    refine ⟨k', rfl, ?_⟩
    cases k' with
    | true => exact ⟨_, u, d, m', st.a, rfl, en.mono st, by rw [hm]; exact hg, fun w u2 hm2 st2 rp2 => post w u2 hm2 (st.trans st2) rp2⟩
    | false =>
      have hg' : some (PyData.bool false, m1) = some (d, m') := hg
      cases hg'
      exact post _ u hm st (.bl false)
  | _ => exact nomatch h2
theorem je_or (ha : JE X a ga) (hb : JE X (.BoolOp .Or (b :: rest) pos) gb) : JE X (.BoolOp .Or (a :: b :: rest) pos) (gOr ga gb) := by
  refine pe_weak (pe_or ha hb) fun σ H Q h => ?_
  obtain ⟨e, s, d, m', A, rfl, en, hg, post⟩ := h
  obtain ⟨⟨d1, m1⟩, h1, hg⟩ := bind_some_iff hg
  obtain ⟨k, h2, hg⟩ := bind_some_iff hg
  refine ⟨e, s, d1, m1, A, rfl, en, h1, fun v u hm st rp => ?_⟩
  cases rp with
  | bl k' =>
    have e : k' = k := Option.some.inj h2
    subst e
    refine ⟨k', rfl, ?_⟩
    cases k' with
    | false => exact ⟨_, u, d, m', st.a, rfl, en.mono st, by rw [hm]; exact hg, fun w u2 hm2 st2 rp2 => post w u2 hm2 (st.trans st2) rp2⟩
    | true =>
      have hg' : some (PyData.bool true, m1) = some (d, m') := hg
      cases hg'
      exact post _ u hm st (.bl true)
  | _ => exact nomatch h2
theorem je_not (ha : JE X a ga) : JE X (.UnaryOp .Not a pos) (gNot ga) := by
  refine pe_weak (pe_not ha) fun σ H Q h => ?_
  obtain ⟨e, s, d, m', A, rfl, en, hg, post⟩ := h
  obtain ⟨⟨d1, m1⟩, h1, hg⟩ := bind_some_iff hg
  obtain ⟨k, h2, hg⟩ := map_some_iff hg
  refine ⟨e, s, d1, m1, A, rfl, en, h1, fun v u hm st rp => ?_⟩
  cases rp with
  | bl k' =>
    have e : k' = k := Option.some.inj h2
    subst e
    cases hg
    exact ⟨k', rfl, post _ u hm st (.bl _)⟩
  | _ => exact nomatch h2
theorem je_ite (hc : JT X c t) (ha : JE X a ga) (hb : JE X b gb) : JE X (.IfExp c a b pos) (gIte t ga gb) := by
  refine pe_weak (pe_ifExp hc ha hb) fun σ H Q h => ?_
  obtain ⟨e, s, d, m', A, rfl, en, hg, post⟩ := h
  obtain ⟨⟨k, m1⟩, h1, hg⟩ := bind_some_iff hg
  refine ⟨e, s, k, m1, A, rfl, en, h1, fun u hm st => ?_⟩
  cases k with
  | true => exact ⟨_, u, d, m', st.a, rfl, en.mono st, by rw [hm]; exact hg, fun w u2 hm2 st2 rp2 => post w u2 hm2 (st.trans st2) rp2⟩
  | false => exact ⟨_, u, d, m', st.a, rfl, en.mono st, by rw [hm]; exact hg, fun w u2 hm2 st2 rp2 => post w u2 hm2 (st.trans st2) rp2⟩
theorem je_chain {op op' : CmpOp} {r r' : R2} {f f' : D → D → Option D} (ho : OpR X (compareOp op) r) (hr : R2ok X.K r f) (ho' : OpR X (compareOp op') r') (hr' : R2ok X.K r' f') (ha : JE X a ga) (hb : JE X b gb) (hc : JE X c gc)
    (hm : lastMarks [op, op'] [b, c] = false := by with_unfolding_all rfl) : JE X (.Compare a [op, op'] [b, c] pos) (gChain f f' ga gb gc) := by
  refine pe_weak (pe_chain ho ho' ha hb hc hm) fun σ H Q h => ?_
  obtain ⟨e, s, d, m', A, rfl, en, hg, post⟩ := h
  obtain ⟨⟨d1, m1⟩, h1, hg⟩ := bind_some_iff hg
  obtain ⟨⟨d2, m2⟩, h2, hg⟩ := bind_some_iff hg
  obtain ⟨z, h3, hg⟩ := bind_some_iff hg
  obtain ⟨k, h4, hg⟩ := bind_some_iff hg
  refine ⟨e, s, d1, m1, A, rfl, en, h1, fun v u hm st rp => ⟨e, u, d2, m2, st.a, rfl, en.mono st, by rw [hm]; exact h2, fun w u2 hm2 st2 rp2 => ?_⟩⟩
  refine hr u2 d1 d2 z v w st2.a (rp.mono st2.ex) rp2 h3 _ fun y u3 hm3 st3 rp3 => ?_
  cases rp3 with
  | bl k' =>
    have e4 : k' = k := Option.some.inj h4
    subst e4
    refine ⟨k', rfl, ?_⟩
    have st' := (st.trans st2).trans st3
    cases k' with
    | false =>
      have hg' : some (PyData.bool false, m2) = some (d, m') := hg
      cases hg'
      exact post _ u3 (by rw [hm3, hm2]) st' (.bl false)
    | true =>
      obtain ⟨⟨d3, m3⟩, h5, hg⟩ := bind_some_iff (show (gc e m2).bind _ = some (d, m') from hg)
      obtain ⟨z2, h6, hg⟩ := map_some_iff hg
      cases hg
      refine ⟨e, u3, d3, m3, st'.a, rfl, en.mono st', by rw [hm3, hm2]; exact h5, fun w3 u4 hm4 st4 rp4 => ?_⟩
      exact hr' u4 d2 d3 d w w3 st4.a ((rp2.mono st3.ex).mono st4.ex) rp4 h6 Q fun z5 u5 hm5 st5 rp5 => post z5 u5 (by rw [hm5, hm4]) ((st'.trans st4).trans st5) rp5
  | _ => exact nomatch h4
/-! ### tests -/
theorem jt_val (ha : JE X a ga) (he : ∀ whole, isTrue a X.env whole = (do let v ← whole; standAt a.pos; holding [v] (truthy v)) := by intro _; rfl) : JT X a (gtV ga) := by
  refine pt_weak (pt_val ha he) fun σ H Q h => ?_
  obtain ⟨e, s, d, m', A, rfl, en, hg, post⟩ := h
  obtain ⟨⟨d1, m1⟩, h1, hg⟩ := bind_some_iff hg
  obtain ⟨k, h2, hg⟩ := map_some_iff hg
  cases hg
  refine ⟨e, s, d1, m1, A, rfl, en, h1, fun v u hm st rp => ?_⟩
  cases rp with
  | bl k' =>
    have e4 : k' = d := Option.some.inj h2
    subst e4
    exact ⟨k', rfl, post u hm st⟩
  | _ => exact nomatch h2
theorem jt_cmp {op : CmpOp} {r : R2} {f : D → D → Option D} (ho : OpR X (compareOp op) r) (hr : R2ok X.K r f) (ha : JE X a ga) (hb : JE X b gb) (hm : behindInMarks op b = false) : JT X (.Compare a [op] [b] pos) (gtV (g2 f ga gb)) := by
  refine pt_weak (pt_cmpR ho ha hb hm) fun σ H Q h => ?_
  obtain ⟨e, s, d, m', A, rfl, en, hg, post⟩ := h
  obtain ⟨⟨d0, m0⟩, h0, hg⟩ := bind_some_iff hg
  obtain ⟨k, hk, hg⟩ := map_some_iff hg
  cases hg
  obtain ⟨⟨d1, m1⟩, h1, hg⟩ := bind_some_iff h0
  obtain ⟨⟨d2, m2⟩, h2, hg⟩ := bind_some_iff hg
  obtain ⟨z, h3, hg⟩ := map_some_iff hg
  cases hg
  refine ⟨e, s, d1, m1, A, rfl, en, h1, fun v u hm st rp => ⟨e, u, d2, m2, st.a, rfl, en.mono st, by rw [hm]; exact h2, fun w u2 hm2 st2 rp2 => ?_⟩⟩
  refine hr u2 d1 d2 d0 v w st2.a (rp.mono st2.ex) rp2 h3 _ fun z u3 hm3 st3 rp3 => ?_
  cases rp3 with
  | bl k' =>
    have e4 : k' = d := Option.some.inj hk
    subst e4
    exact ⟨k', rfl, post u3 (by rw [hm3, hm2]) ((st.trans st2).trans st3)⟩
  | _ => exact nomatch hk
theorem jt_chain {op op' : CmpOp} {r r' : R2} {f f' : D → D → Option D} (ho : OpR X (compareOp op) r) (hr : R2ok X.K r f) (ho' : OpR X (compareOp op') r') (hr' : R2ok X.K r' f') (ha : JE X a ga) (hb : JE X b gb) (hc : JE X c gc)
    (hm : lastMarks [op, op'] [b, c] = false := by with_unfolding_all rfl) : JT X (.Compare a [op, op'] [b, c] pos) (gtV (gChain f f' ga gb gc)) := by
  refine pt_weak (pt_chain ho ho' ha hb hc hm) fun σ H Q h => ?_
  obtain ⟨e, s, d, m', A, rfl, en, hg, post⟩ := h
  obtain ⟨⟨d0, m0⟩, h0, hg⟩ := bind_some_iff hg
  obtain ⟨k0, hk0, hg⟩ := map_some_iff hg
  cases hg
  obtain ⟨⟨d1, m1⟩, h1, hg⟩ := bind_some_iff h0
  obtain ⟨⟨d2, m2⟩, h2, hg⟩ := bind_some_iff hg
  obtain ⟨z, h3, hg⟩ := bind_some_iff hg
  obtain ⟨k, h4, hg⟩ := bind_some_iff hg
  refine ⟨e, s, d1, m1, A, rfl, en, h1, fun v u hm st rp => ⟨e, u, d2, m2, st.a, rfl, en.mono st, by rw [hm]; exact h2, fun w u2 hm2 st2 rp2 => ?_⟩⟩
  refine hr u2 d1 d2 z v w st2.a (rp.mono st2.ex) rp2 h3 _ fun y u3 hm3 st3 rp3 => ?_
  cases rp3 with
  | bl k' =>
    have e4 : k' = k := Option.some.inj h4
    subst e4
    refine ⟨k', rfl, ?_⟩
    have st' := (st.trans st2).trans st3
    cases k' with
    | false =>
      have hg' : some (PyData.bool false, m2) = some (d0, m0) := hg
      cases hg'
      have e5 : false = d := Option.some.inj hk0
      exact ⟨false, rfl, e5 ▸ post u3 (by rw [hm3, hm2]) st'⟩
    | true =>
      obtain ⟨⟨d3, m3⟩, h5, hg⟩ := bind_some_iff (show (gc e m2).bind _ = some (d0, m0) from hg)
      obtain ⟨z2, h6, hg⟩ := map_some_iff hg
      cases hg
      refine ⟨e, u3, d3, m3, st'.a, rfl, en.mono st', by rw [hm3, hm2]; exact h5, fun w3 u4 hm4 st4 rp4 => ?_⟩
      refine hr' u4 d2 d3 d0 w w3 st4.a ((rp2.mono st3.ex).mono st4.ex) rp4 h6 _ fun z5 u5 hm5 st5 rp5 => ?_
      cases rp5 with
      | bl k' =>
        have e4 : k' = d := Option.some.inj hk0
        exact ⟨k', rfl, e4 ▸ post u5 (by rw [hm5, hm4]) ((st'.trans st4).trans st5)⟩
      | _ => exact nomatch hk0
  | _ => exact nomatch h4
abbrev JW (X : Cx) (x : Expr) (g : GT) : Prop := PW X x (tT X.K g)
theorem jw_and1 (ha : JT X a t) : JW X (.BoolOp .And [a] pos) t := pw_and1 ha
theorem jw_or1 (ha : JT X a t) : JW X (.BoolOp .Or [a] pos) t := pw_or1 ha
theorem jw_and (ha : JT X a t) (hb : JW X (.BoolOp .And (b :: rest) pos) u) : JW X (.BoolOp .And (a :: b :: rest) pos) (gtAnd t u) := by
  refine pw_weak (pw_and ha hb) fun σ H Q h => ?_
  obtain ⟨e, s, d, m', A, rfl, en, hg, post⟩ := h
  obtain ⟨⟨k, m1⟩, h1, hg⟩ := bind_some_iff hg
  refine ⟨e, s, k, m1, A, rfl, en, h1, fun u hm st => ?_⟩
  cases k with
  | true => exact ⟨_, u, d, m', st.a, rfl, en.mono st, by rw [hm]; exact hg, fun u2 hm2 st2 => post u2 hm2 (st.trans st2)⟩
  | false =>
    have hg' : some (false, m1) = some (d, m') := hg
    cases hg'
    exact post u hm st
theorem jw_or (ha : JT X a t) (hb : JW X (.BoolOp .Or (b :: rest) pos) u) : JW X (.BoolOp .Or (a :: b :: rest) pos) (gtOr t u) := by
  refine pw_weak (pw_or ha hb) fun σ H Q h => ?_
  obtain ⟨e, s, d, m', A, rfl, en, hg, post⟩ := h
  obtain ⟨⟨k, m1⟩, h1, hg⟩ := bind_some_iff hg
  refine ⟨e, s, k, m1, A, rfl, en, h1, fun u hm st => ?_⟩
  cases k with
  | false => exact ⟨_, u, d, m', st.a, rfl, en.mono st, by rw [hm]; exact hg, fun u2 hm2 st2 => post u2 hm2 (st.trans st2)⟩
  | true =>
    have hg' : some (true, m1) = some (d, m') := hg
    cases hg'
    exact post u hm st
theorem jw_t (h : JW X a t) : JT X a t := h.pt
theorem jt_not (ha : JT X a t) : JT X (.UnaryOp .Not a pos) (gtNot t) := by
  refine pt_weak (pt_not ha) fun σ H Q h => ?_
  obtain ⟨e, s, d, m', A, rfl, en, hg, post⟩ := h
  obtain ⟨⟨k, m1⟩, h1, hg⟩ := map_some_iff hg
  cases hg
  exact ⟨e, s, k, _, A, rfl, en, h1, fun u hm st => post u hm st⟩
end
end Bs
/-! Sem3: operators by data, displays, slices, calls, mutable lists. -/
namespace Bs
open PySem PySem.Spec PyProof.Rows L2

section
variable {K : PySem.W.Frag}
/-- the value is there, the heap as it was -/
theorem keepQ {s : Sx} (a : At K s) {Q : VK} {d : D} (post : ∀ z u, u.m = s.m → Stp K s u → Rp K u.W z d → Q z u.H) {v : V} (r : Rp K s.W v d) : Q v s.H := post v s rfl (Stp.refl a) r
theorem at_eq {xs : List V} {ds : List D} {W : Hp} {i : Int} {d : D} (r : Rps K W xs ds) (h : atD ds i = some d) : ∃ v, atI xs i = some v ∧ Rp K W v d := by
  unfold atD at h
  obtain ⟨j, h1, h2⟩ := bind_some_iff h
  obtain ⟨v, h3, h4⟩ := r.get h2
  refine ⟨v, ?_, h4⟩
  unfold atI
  rw [r.length]
  show (ixD ds.length i).bind _ = _
  rw [h1]
  exact h3
theorem cut_rp {xs : List V} {ds : List D} {W : Hp} (lo hi : Option Int) (r : Rps K W xs ds) : Rps K W (cutV xs lo hi) (cutD ds lo hi) := by
  have e : ∀ (n d : Nat) (o : Option Int), sxD n d o = HT.sIx n d o := fun n d o => by cases o <;> rfl
  unfold cutV cutD
  rw [e, e, r.length]
  exact (r.drop _).take _
theorem big_sz {n : Nat} (h : n ≤ big) : n ≤ sizeLine := Nat.le_trans h (by decide)
theorem big_lt {n : Nat} (h : n < big) : n < sizeLine := Nat.lt_of_lt_of_le h (by decide)

/-! ### two places -/
theorem int2 {f : Int → Int → V} {F : D → D → Option D} (h : ∀ x y d, F x y = some d → ∃ i j, x = .int i ∧ y = .int j ∧ ∀ W, Rp K W (f i j) d) : R2ok K (rI0 f) F := by
  intro s x y d v w a rx ry e Q post
  obtain ⟨i, j, rfl, rfl, r⟩ := h x y d e
  cases rx
  cases ry
  exact ⟨i, j, rfl, rfl, keepQ a post (r _)⟩
theorem int2c {f : Int → Int → V} {C : Int → Int → Prop} {F : D → D → Option D} (h : ∀ x y d, F x y = some d → ∃ i j, x = .int i ∧ y = .int j ∧ C i j ∧ ∀ W, Rp K W (f i j) d) : R2ok K (rI C f) F := by
  intro s x y d v w a rx ry e Q post
  obtain ⟨i, j, rfl, rfl, c, r⟩ := h x y d e
  cases rx
  cases ry
  exact ⟨i, j, rfl, rfl, c, keepQ a post (r _)⟩
theorem r2_sub : R2ok K (rI0 fun i j => .int (i - j)) subD := int2 fun x y d e => by
  cases x <;> cases y <;> first | (cases e; done) | skip
  cases e
  exact ⟨_, _, rfl, rfl, fun _ => .int _⟩
theorem r2_mul : R2ok K (rI CMulW fun i j => .int (i * j)) mulD := int2c fun x y d e => by
  cases x <;> cases y <;> first | (cases e; done) | skip
  rename_i i j
  have e' : (if i.natAbs.log2 + j.natAbs.log2 < 1000000 then some (PyData.int (i * j)) else none) = some d := e
  split at e'
  · cases e'
    exact ⟨_, _, rfl, rfl, by assumption, fun _ => .int _⟩
  · cases e'
def CDivNW (_ j : Int) : Prop := j ≠ 0 ∧ j.natAbs.log2 < 9000
theorem op_divNW {X : Cx} : OpR X (binaryOp .FloorDiv) (rI CDivNW fun i j => .int (i.fdiv j)) := opI fun _ _ _ _ _ _ _ hc q => floordiv_int hc.1 q (.inl (PyProof.noPylong_of_log2 hc.2))
theorem r2_divN : R2ok K (rI CDivNW fun i j => .int (i.fdiv j)) divN := int2c fun x y d e => by
  cases x <;> cases y <;> first | (cases e; done) | skip
  rename_i i j
  have e' : (if j ≠ 0 ∧ j.natAbs.log2 < 9000 then some (PyData.int (i.fdiv j)) else none) = some d := e
  split at e'
  · cases e'
    exact ⟨_, _, rfl, rfl, by assumption, fun _ => .int _⟩
  · cases e'
theorem r2_mod : R2ok K (rI (fun _ j => 0 < j) fun i j => .int (i % j)) modD := int2c fun x y d e => by
  cases x <;> cases y <;> first | (cases e; done) | skip
  rename_i i j
  have e' : (if 0 < j then some (PyData.int (i % j)) else none) = some d := e
  split at e'
  · cases e'
    exact ⟨_, _, rfl, rfl, by assumption, fun _ => .int _⟩
  · cases e'
theorem r2_pow : R2ok K (rI CPow fun i j => .int (i ^ j.toNat)) powD := int2c fun x y d e => by
  cases x <;> cases y <;> first | (cases e; done) | skip
  rename_i i j
  have e' : (if 0 ≤ j ∧ j ≤ 1000 ∧ i.natAbs < 1000 then some (PyData.int (i ^ j.toNat)) else none) = some d := e
  split at e'
  · cases e'
    rename_i h
    exact ⟨_, _, rfl, rfl, ⟨h.1, by omega, by have := h.2.2; omega⟩, fun _ => .int _⟩
  · cases e'
theorem r2_lt : R2ok K (rI0 fun i j => .bl (decide (i < j))) ltD := int2 fun x y d e => by
  cases x <;> cases y <;> first | (cases e; done) | skip
  cases e
  exact ⟨_, _, rfl, rfl, fun _ => .bl _⟩
theorem r2_le : R2ok K (rI0 fun i j => .bl (decide (i ≤ j))) leD := int2 fun x y d e => by
  cases x <;> cases y <;> first | (cases e; done) | skip
  cases e
  exact ⟨_, _, rfl, rfl, fun _ => .bl _⟩
theorem r2_gt : R2ok K (rI0 fun i j => .bl (decide (j < i))) gtD := int2 fun x y d e => by
  cases x <;> cases y <;> first | (cases e; done) | skip
  cases e
  exact ⟨_, _, rfl, rfl, fun _ => .bl _⟩
theorem r2_ge : R2ok K (rI0 fun i j => .bl (decide (j ≤ i))) geD := int2 fun x y d e => by
  cases x <;> cases y <;> first | (cases e; done) | skip
  cases e
  exact ⟨_, _, rfl, rfl, fun _ => .bl _⟩
mutual
theorem noDict_plain : ∀ d : PyData, d.plain = true → d.hasDict = false
  | .none, _ => rfl
  | .bool _, _ => rfl
  | .int _, _ => rfl
  | .str _, _ => rfl
  | .list xs, h => noDict_plainAll xs (by simpa [PyData.plain] using h)
  | .tuple xs, h => noDict_plainAll xs (by simpa [PyData.plain] using h)
  | .dict _, h => by simp [PyData.plain] at h
theorem noDict_plainAll : ∀ xs : List PyData, PyData.plainAll xs = true → PyData.hasDictAll xs = false
  | [], _ => rfl
  | x :: r, h => by
    have h2 : x.plain = true ∧ PyData.plainAll r = true := by simpa [PyData.plainAll] using h
    simp only [PyData.hasDictAll, noDict_plain x h2.1, noDict_plainAll r h2.2, Bool.or_false]
end
def rCmpP (K : PySem.W.Frag) (c : D → D → Bool) : R2 := fun v w H Q => ∃ x y : D, Dp K H v x ∧ Dp K H w y ∧ x.plain = true ∧ y.plain = true ∧ min x.depth y.depth ≤ 64 ∧ Q (.bl (c x y)) H
theorem op_eqP {X : Cx} (hu : X.A.units + 64 < cLine) : OpR X (compareOp .Eq) (rCmpP X.K fun x y => PyData.eqv x y) := by
  rintro pins s σ H v w a b Q I rv rw_ ⟨x, y, hx, hy, px, py, dp, q⟩
  obtain ⟨l1, e1⟩ := Dp.reads I x v a hx rv
  obtain ⟨l2, e2⟩ := Dp.reads I y w b hy rw_
  exact PySem.SeqAt.eq_plain e1 e2 px py (by omega) ⟨V.bl _, H, I, rfl, q⟩
theorem op_neP {X : Cx} (hu : X.A.units + 64 < cLine) : OpR X (compareOp .NotEq) (rCmpP X.K fun x y => !PyData.eqv x y) := by
  rintro pins s σ H v w a b Q I rv rw_ ⟨x, y, hx, hy, px, py, dp, q⟩
  obtain ⟨l1, e1⟩ := Dp.reads I x v a hx rv
  obtain ⟨l2, e2⟩ := Dp.reads I y w b hy rw_
  exact PySem.SeqAt.ne_plain e1 e2 px py (by omega) ⟨V.bl _, H, I, rfl, q⟩
theorem r2_eq : R2ok K (rCmpP K fun x y => PyData.eqv x y) eqD := by
  intro s x y d v w a rx ry e Q post
  unfold eqD at e
  split at e
  · rename_i h
    cases e
    exact ⟨x, y, (rx.mono a.sub).dp (noDict_plain x h.1), (ry.mono a.sub).dp (noDict_plain y h.2.1), h.1, h.2.1, h.2.2, keepQ a post (.bl _)⟩
  · cases e
theorem r2_ne : R2ok K (rCmpP K fun x y => !PyData.eqv x y) neD := by
  intro s x y d v w a rx ry e Q post
  unfold neD at e
  split at e
  · rename_i h
    cases e
    exact ⟨x, y, (rx.mono a.sub).dp (noDict_plain x h.1), (ry.mono a.sub).dp (noDict_plain y h.2.1), h.1, h.2.1, h.2.2, keepQ a post (.bl _)⟩
  · cases e
theorem lexI_eq : ∀ (ns ms : List Int), lexI ns ms = HT.lexLt ns ms
  | [], [] => rfl
  | [], _ :: _ => rfl
  | _ :: _, [] => rfl
  | x :: xs, y :: ys => by
    rw [HT.lexLt_cons, ← lexI_eq xs ys]
    rfl
theorem r2_ltT : R2ok K (rLtT K) ltTD := by
  intro s x y d v w a rx ry e Q post
  cases rx <;> cases ry <;> first | (cases e; done) | skip
  rename_i p xs ds h1 r1 q ys es h2 r2
  obtain ⟨ns, e1, e⟩ := bind_some_iff (show (intsD ds).bind _ = some d from e)
  obtain ⟨ms, e2, e⟩ := bind_some_iff e
  cases e
  refine ⟨p, q, ns, ms, rfl, rfl, by rw [← r1.ints e1]; exact sqt_mono a.sub h1, by rw [← r2.ints e2]; exact sqt_mono a.sub h2, ?_⟩
  rw [← lexI_eq]
  exact keepQ a post (.bl _)
/-- list + list, both tracked or known -/
def rCatR : R2 := fun x y H Q => ∃ l b xs zs, x = .ref l ∧ y = .ref b ∧ Rd H l (.lst xs) ∧ Rd H b (.lst zs) ∧ xs.length + zs.length ≤ sizeLine ∧ ∀ p, H p = none → Q (.ref p) (upd H p (.lst (xs ++ zs)))
theorem op_catR {X : Cx} : OpR X (binaryOp .Add) rCatR := by
  intro pins s σ H x y v u Q I rx ry h
  obtain ⟨l, b, xs, zs, rfl, rfl, hH, hB, hz, q⟩ := h
  cases rx
  cases ry
  obtain ⟨z, its, n, r, e⟩ := hH.ok I.hok
  obtain ⟨z2, its2, n2, r2, e2⟩ := hB.ok I.hok
  have hl := r.length
  have hl2 := r2.length
  refine PySem.P.add_list e e2 ?_ (by rw [List.size_toArray, List.size_toArray]; omega)
  have ea : its.toArray ++ its2.toArray = (its ++ its2).toArray := by simp
  rw [ea]
  exact ⟨.ref _, _, I.lnew (t' := s.toks) (r.append r2) (by rw [List.length_append]; omega), rfl, q _ I.fresh⟩
theorem op_addL {X : Cx} : OpR X (binaryOp .Add) (fun x y H Q => rI0 (fun i j => .int (i + j)) x y H Q ∨ rCatR x y H Q) := op_add.or op_catR
theorem rd_W {W H : Hp} {a : Addr} {u : HO} (e : Same W H) (h : Rd W a u) : Rd H a u := rd_mono e h
theorem r2_add : R2ok K (fun x y H Q => rI0 (fun i j => .int (i + j)) x y H Q ∨ rCatR x y H Q) addD := by
  intro s x y d v w a rx ry e Q post
  cases rx <;> cases ry <;> first | (cases e; done) | skip
  · rename_i i j
    cases e
    exact .inl ⟨i, j, rfl, rfl, keepQ a post (.int _)⟩
  · rename_i p xs ds h1 r1 q ys es h2 r2
    have e' : (if ds.length + es.length ≤ big then some (PyData.list (ds ++ es)) else none) = some d := e
    split at e'
    · rename_i hz
      cases e'
      refine .inr ⟨p, q, xs, ys, rfl, rfl, rd_mono a.sub h1, rd_mono a.sub h2, big_sz (by rw [r1.length, r2.length]; exact hz), fun n hn => ?_⟩
      have st := stp_new (o := .lst (xs ++ ys)) a hn
      exact post _ _ (by rfl) st (.lst (.inl upd_same) ((r1.app r2).mono st.ex))
    · cases e'
theorem r2_idx : R2ok K (rIx K) idxD := by
  intro s x y d v w a rx ry e Q post
  cases rx <;> cases ry <;> first | (cases e; done) | skip
  · rename_i p xs ds h1 r1 i
    obtain ⟨z, e1, r⟩ := at_eq r1 e
    exact .inl ⟨p, xs, i, z, rfl, rfl, .inl (rd_mono a.sub h1), e1, keepQ a post r⟩
  · rename_i p xs ds h1 r1 i
    obtain ⟨z, e1, r⟩ := at_eq r1 e
    exact .inr (.inl ⟨p, xs, i, z, rfl, rfl, sqt_mono a.sub h1, e1, keepQ a post r⟩)
  · rename_i p xs ds h1 r1 i
    obtain ⟨z, e1, r⟩ := at_eq r1 e
    exact .inl ⟨p, xs, i, z, rfl, rfl, sql_mono a.sub h1, e1, keepQ a post r⟩

/-! ### one place -/
theorem r1_neg : R1ok K (rU fun i => .int (-i)) negD := by
  intro s x d v a rx e Q post
  cases rx <;> first | (cases e; done) | skip
  cases e
  exact ⟨_, rfl, keepQ a post (.int _)⟩
def rLenS (K : PySem.W.Frag) : List V → Hp → VK → Prop := fun xs H Q => ∃ p ys, xs = [.ref p] ∧ (SqL K H p ys ∨ SqT K H p ys) ∧ Q (.int ys.length) H
theorem c1_len : C1ok K (rLenS K) lenD := by
  intro s x d v a rx e Q post
  cases rx <;> first | (cases e; done) | skip
  · rename_i p xs ds h r
    cases e
    exact ⟨p, xs, rfl, .inl (.inl (rd_mono a.sub h)), by rw [r.length]; exact keepQ a post (.int _)⟩
  · rename_i p xs ds h r
    cases e
    exact ⟨p, xs, rfl, .inr (sqt_mono a.sub h), by rw [r.length]; exact keepQ a post (.int _)⟩
  · rename_i p xs ds h r
    cases e
    exact ⟨p, xs, rfl, .inl (sql_mono a.sub h), by rw [r.length]; exact keepQ a post (.int _)⟩
theorem c2_gcd : C2ok K rGcd gcdD := by
  intro s x y d v w a rx ry e Q post
  cases rx <;> cases ry <;> first | (cases e; done) | skip
  cases e
  exact ⟨_, _, rfl, keepQ a post (.int _)⟩
theorem c1_all : C1ok K (rAll K) allD := by
  intro s x d v a rx e Q post
  cases rx <;> first | (cases e; done) | skip
  rename_i p xs ds h r
  obtain ⟨bs, e1, e2⟩ := map_some_iff (show (blsD ds).map _ = some d from e)
  subst e2
  have ex := r.bls e1
  subst ex
  exact ⟨p, bs, rfl, .inl (rd_mono a.sub h), keepQ a post (.bl _)⟩
theorem c1_sum : C1ok K (rSum K) sumD := by
  intro s x d v a rx e Q post
  cases rx <;> first | (cases e; done) | skip
  rename_i p xs ds h r
  obtain ⟨bs, e1, e2⟩ := map_some_iff (show (intsD ds).map _ = some d from e)
  subst e2
  have ex := r.ints e1
  subst ex
  exact ⟨p, bs, rfl, .inl (rd_mono a.sub h), keepQ a post (.int _)⟩
def rTupO (K : PySem.W.Frag) : List V → Hp → VK → Prop := fun xs H Q => ∃ p ys, xs = [.ref p] ∧ ((SqL K H p ys ∧ ∀ l, H l = none → Q (.ref l) (upd H l (.tup ys))) ∨ (SqT K H p ys ∧ Q (.ref p) H))
theorem c1_tup : C1ok K (rTupO K) tupleD := by
  intro s x d v a rx e Q post
  cases rx <;> first | (cases e; done) | skip
  · rename_i p xs ds h r
    cases e
    refine ⟨p, xs, rfl, .inl ⟨.inl (rd_mono a.sub h), fun l hl => ?_⟩⟩
    have st := stp_new (o := .tup xs) a hl
    exact post _ _ (by rfl) st (.tup (.inl (.inl upd_same)) (r.mono st.ex))
  · rename_i p xs ds h r
    cases e
    exact ⟨p, xs, rfl, .inr ⟨sqt_mono a.sub h, keepQ a post (.tup h r)⟩⟩
def rAbs : List V → Hp → VK → Prop := fun xs H Q => ∃ i, xs = [.int i] ∧ Q (.int (if i < 0 then -i else i)) H
theorem c1_abs : C1ok K rAbs absD := by
  intro s x d v a rx e Q post
  cases rx <;> first | (cases e; done) | skip
  cases e
  exact ⟨_, rfl, keepQ a post (.int _)⟩
def rInt : List V → Hp → VK → Prop := fun xs H Q => (∃ i, xs = [.int i] ∧ Q (.int i) H) ∨ ∃ k, xs = [.bl k] ∧ Q (.int (if k then 1 else 0)) H
theorem c1_int : C1ok K rInt intD := by
  intro s x d v a rx e Q post
  cases rx <;> first | (cases e; done) | skip
  cases e
  exact .inl ⟨_, rfl, keepQ a post (.int _)⟩
def rMin2 : List V → Hp → VK → Prop := fun xs H Q => ∃ i j, xs = [.int i, .int j] ∧ Q (.int (if j < i then j else i)) H
def rMax2 : List V → Hp → VK → Prop := fun xs H Q => ∃ i j, xs = [.int i, .int j] ∧ Q (.int (if j > i then j else i)) H
theorem c2_min : C2ok K rMin2 minD := by
  intro s x y d v w a rx ry e Q post
  cases rx <;> cases ry <;> first | (cases e; done) | skip
  cases e
  exact ⟨_, _, rfl, keepQ a post (.int _)⟩
theorem c2_max : C2ok K rMax2 maxD := by
  intro s x y d v w a rx ry e Q post
  cases rx <;> cases ry <;> first | (cases e; done) | skip
  cases e
  exact ⟨_, _, rfl, keepQ a post (.int _)⟩
def rDm : List V → Hp → VK → Prop := fun xs H Q => ∃ i j, xs = [.int i, .int j] ∧ CDiv i j ∧ ∀ p, H p = none → Q (.ref p) (upd H p (.tup [.int (i / j), .int (i % j)]))
theorem c2_dm : C2ok K rDm dmD := by
  intro s x y d v w a rx ry e Q post
  cases rx <;> cases ry <;> first | (cases e; done) | skip
  rename_i i j
  have e' : (if 0 < j ∧ j < 1073741824 then some (PyData.tuple [.int (i / j), .int (i % j)]) else none) = some d := e
  split at e'
  · rename_i h
    cases e'
    refine ⟨i, j, rfl, h, fun p hp => ?_⟩
    have st := stp_new (o := .tup [.int (i / j), .int (i % j)]) a hp
    exact post _ _ (by rfl) st (.tup (.inl (.inl upd_same)) (.cons (.int _) (.cons (.int _) .nil)))
  · cases e'
/-- isinstance -/
theorem sqt_ty {W H : Hp} {a : Addr} {xs : List V} (h : SqT K H a xs) : TyX K H (.ref a) (.type "tuple") := by
  rcases h with (h | ⟨o, h⟩) | ⟨o, its, n, hk, hc, _⟩
  · exact .base (.tup h)
  · exact .fTuple h
  · exact .kTuple hk hc
theorem isi_int (s : Sx) (x d : D) (v : V) (a : At K s) (r : Rp K s.W v x) (e : isiD .int x = some d) : ∃ ty k, TyX K s.H v ty ∧ PySem.W.kitOne K ty (.type "int") = some k ∧ d = .bool k := by
  cases r <;> first | (cases e; done) | skip
  · cases e
    exact ⟨_, false, .base .non, kit_ty (a := "NoneType") (by decide +kernel), rfl⟩
  · cases e
    exact ⟨_, true, .base (.int _), kit_ty (a := "int") (by decide +kernel), rfl⟩
  · rename_i h _
    cases e
    exact ⟨_, false, sqt_ty (W := s.W) (sqt_mono a.sub h), kit_ty (a := "tuple") (by decide +kernel), rfl⟩
theorem isi_bool (s : Sx) (x d : D) (v : V) (a : At K s) (r : Rp K s.W v x) (e : isiD .bool x = some d) : ∃ ty k, TyX K s.H v ty ∧ PySem.W.kitOne K ty (.type "bool") = some k ∧ d = .bool k := by
  cases r <;> first | (cases e; done) | skip
  cases e
  exact ⟨_, false, .base (.int _), kit_ty (a := "int") (by decide +kernel), rfl⟩
theorem isi_tup (s : Sx) (x d : D) (v : V) (a : At K s) (r : Rp K s.W v x) (e : isiD .tuple x = some d) : ∃ ty k, TyX K s.H v ty ∧ PySem.W.kitOne K ty (.type "tuple") = some k ∧ d = .bool k := by
  cases r <;> first | (cases e; done) | skip
  · cases e
    exact ⟨_, false, .base .non, kit_ty (a := "NoneType") (by decide +kernel), rfl⟩
  · cases e
    exact ⟨_, false, .base (.int _), kit_ty (a := "int") (by decide +kernel), rfl⟩
  · rename_i h _
    cases e
    exact ⟨_, true, sqt_ty (W := s.W) (sqt_mono a.sub h), kit_ty (a := "tuple") (by decide +kernel), rfl⟩
end

section
variable {X : Cx} {a b c : Expr} {es : List Expr} {ga gb gc : GE} {gl gr : GL} {pos : Pos}
theorem je_isN {j pos'} (ha : JE X a ga) : JE X (.Compare a [.Is] [.Constant .none j pos'] pos) (g1 isND ga) := by
  refine pe_weak (pe_cmp (pc_isN ha) rfl) fun σ H Q h => ?_
  obtain ⟨e, s, d, m', A, rfl, en, hg, post⟩ := h
  obtain ⟨⟨d1, m1⟩, h1, hg⟩ := bind_some_iff hg
  obtain ⟨z, h3, hg⟩ := map_some_iff hg
  cases hg
  refine ⟨e, s, _, _, A, rfl, en, h1, fun v u hm st rp => ?_⟩
  cases rp <;> cases h3
  · exact post _ u hm st (.bl true)
  all_goals exact post _ u hm st (.bl false)
theorem jt_isN {j pos'} (ha : JE X a ga) : JT X (.Compare a [.Is] [.Constant .none j pos'] pos) (gtV (g1 isND ga)) := by
  refine pt_weak (pt_cmp (pc_isN ha) rfl) fun σ H Q h => ?_
  obtain ⟨e, s, d, m', A, rfl, en, hg, post⟩ := h
  obtain ⟨⟨d0, m0⟩, h0, hg⟩ := bind_some_iff hg
  obtain ⟨k, hk, hg⟩ := map_some_iff hg
  cases hg
  obtain ⟨⟨d1, m1⟩, h1, hg⟩ := bind_some_iff h0
  obtain ⟨z, h3, hg⟩ := map_some_iff hg
  cases hg
  refine ⟨e, s, _, _, A, rfl, en, h1, fun v u hm st rp => ?_⟩
  cases rp <;> cases h3 <;> cases hk
  · exact ⟨true, rfl, post u hm st⟩
  all_goals exact ⟨false, rfl, post u hm st⟩
/-! ### items -/
theorem jd_nil : JD X [] gl0 := by
  refine pa_weak pa_nil fun σ H Q h => ?_
  obtain ⟨e, s, d, m', A, rfl, en, hg, post⟩ := h
  have hg' : some (([] : List D), s.m) = some (d, m') := hg
  cases hg'
  exact post [] s rfl (Stp.refl A) .nil
theorem jd_cons (ha : JE X a ga) (hr : JD X es gr) (hs : starEach (a :: es) X.env = (false, eval a X.env) :: starEach es X.env := by rfl) : JD X (a :: es) (glc ga gr) := by
  refine pa_weak (pa_cons ha hr hs) fun σ H Q h => ?_
  obtain ⟨e, s, d, m', A, rfl, en, hg, post⟩ := h
  obtain ⟨⟨d1, m1⟩, h1, hg⟩ := bind_some_iff hg
  obtain ⟨⟨d2, m2⟩, h2, hg⟩ := map_some_iff hg
  cases hg
  exact ⟨e, s, _, _, A, rfl, en, h1, fun v u hm st rp => ⟨e, u, _, _, st.a, rfl, en.mono st, by rw [hm]; exact h2, fun vs u2 hm2 st2 rp2 => post (v :: vs) u2 hm2 (st.trans st2) (.cons (rp.mono st2.ex) rp2)⟩⟩
theorem je_tup {k} (h : JD X es gl) : JE X (.Tuple es k pos) (gTup gl) := by
  refine pe_weak (pe_tup h) fun σ H Q h => ?_
  obtain ⟨e, s, d, m', A, rfl, en, hg, post⟩ := h
  obtain ⟨⟨d1, m1⟩, h1, hg⟩ := bind_some_iff hg
  have hg' : (if d1.length ≤ big then some (PyData.tuple d1, m1) else none) = some (d, m') := hg
  split at hg'
  · rename_i hz
    cases hg'
    refine ⟨e, s, _, _, A, rfl, en, h1, fun vs u hm st rp => ⟨big_sz (by rw [rp.length]; exact hz), fun p hp => ?_⟩⟩
    have st2 := stp_new (o := .tup vs) st.a hp
    exact post _ _ (by exact hm) (st.trans st2) (.tup (.inl (.inl upd_same)) (rp.mono st2.ex))
  · cases hg'
theorem jl_disp (h : JD X es gl) : JL X (.List es pos) (glD gl) := by
  refine pe_weak (pe_lst h) fun σ H Q h => ?_
  obtain ⟨e, s, d, m', A, rfl, en, hg, post⟩ := h
  obtain ⟨⟨d1, m1⟩, h1, hg⟩ := bind_some_iff hg
  have hg' : (if d1.length ≤ big then some (d1, m1) else none) = some (d, m') := hg
  split at hg'
  · rename_i hz
    cases hg'
    refine ⟨e, s, _, _, A, rfl, en, h1, fun vs u hm st rp => ⟨big_sz (by rw [rp.length]; exact hz), fun p hp => ?_⟩⟩
    have st2 := stp_own (o := .lst vs) st.a hp
    exact post p vs _ (by exact hm) (st.trans st2) (st.fresh hp) upd_same (st.a.free hp) (st.a.notAs hp) rp
  · cases hg'
/-- a new list, frozen -/
theorem je_list (h : JL X a gl) : JE X a (gList gl) := by
  refine pe_weak h fun σ H Q h => ?_
  obtain ⟨e, s, d, m', A, rfl, en, hg, post⟩ := h
  obtain ⟨⟨d1, m1⟩, h1, hg⟩ := map_some_iff hg
  cases hg
  refine ⟨e, s, _, _, A, rfl, en, h1, fun p xs u hm st hn hp hw ha rp => ?_⟩
  exact post (.ref p) { u with W := upd u.W p (.lst xs) } (by exact hm) (st.frz hn hp hw ha) (.lst (.inl upd_same) (rp.mono (same_new hw)))
theorem keep_own {K : PySem.W.Frag} {u u2 : Sx} (st : Stp K u u2) {p : Addr} {o : HO} (hp : u.H p = some o) (ha : p ∉ u.as) : u2.H p = some o := st.fr p o hp fun z => ha (live_mem z)
theorem jl_rep (h : JL X a gl) (hb : JE X b gb) : JL X (.BinOp a .Mult b pos) (glRep gl gb) := by
  refine pe_weak (pe_op op_rep h hb) fun σ H Q h => ?_
  obtain ⟨e, s, d, m', A, rfl, en, hg, post⟩ := h
  obtain ⟨⟨d1, m1⟩, h1, hg⟩ := bind_some_iff hg
  obtain ⟨⟨d2, m2⟩, h2, hg⟩ := bind_some_iff hg
  refine ⟨e, s, _, _, A, rfl, en, h1, fun p xs u hm st hn hp hw ha rp => ⟨e, u, _, _, st.a, rfl, en.mono st, by rw [hm]; exact h2, fun w u2 hm2 st2 rp2 => ?_⟩⟩
  cases rp2 <;> first | (cases hg; done) | skip
  rename_i k
  have hg' : (if (0 ≤ k ∧ k ≤ big) ∧ d1.length * k.toNat ≤ big then some ((List.replicate k.toNat d1).flatten, m2) else none) = some (d, m') := hg
  split at hg'
  · rename_i hz
    cases hg'
    refine ⟨p, k, xs, rfl, rfl, keep_own st2 hp ha, by omega, ?_, big_sz (by rw [rp.length]; exact hz.2), fun q hq => ?_⟩
    · have : big < 2 ^ 63 := by decide
      omega
    · have st3 := stp_own (o := .lst (List.replicate k.toNat xs).flatten) st2.a hq
      exact post q _ _ (by exact hm2) ((st.trans st2).trans st3) ((st.trans st2).fresh hq) upd_same (st2.a.free hq) (st2.a.notAs hq) ((rp.rep _).mono st2.ex)
  · cases hg'
theorem jl_cat {a b : Expr} {ga gb : GL} (h : JL X a ga) (hb : JL X b gb) : JL X (.BinOp a .Add b pos) (glCat ga gb) := by
  refine pe_weak (pe_op op_cat h hb) fun σ H Q h => ?_
  obtain ⟨e, s, d, m', A, rfl, en, hg, post⟩ := h
  obtain ⟨⟨d1, m1⟩, h1, hg⟩ := bind_some_iff hg
  obtain ⟨⟨d2, m2⟩, h2, hg⟩ := bind_some_iff hg
  have hg' : (if d1.length + d2.length ≤ big then some (d1 ++ d2, m2) else none) = some (d, m') := hg
  split at hg'
  · rename_i hz
    cases hg'
    refine ⟨e, s, _, _, A, rfl, en, h1, fun p xs u hm st hn hp hw ha rp => ⟨e, u, _, _, st.a, rfl, en.mono st, by rw [hm]; exact h2, fun p2 ys u2 hm2 st2 hn2 hp2 hw2 ha2 rp2 => ?_⟩⟩
    refine ⟨p, p2, xs, ys, rfl, rfl, keep_own st2 hp ha, hp2, big_sz (by rw [rp.length, rp2.length]; exact hz), fun q hq => ?_⟩
    have st3 := stp_own (o := .lst (xs ++ ys)) st2.a hq
    exact post q _ _ (by exact hm2) ((st.trans st2).trans st3) ((st.trans st2).fresh hq) upd_same (st2.a.free hq) (st2.a.notAs hq) ((rp.mono st2.ex).app rp2)
  · cases hg'
/-! ### slices -/
variable {lo hi : Option Expr} {gp gq : En → Mm → Option (Option Int × Mm)} {p2 : Pos}
theorem jo_none : JO X none gpN := by
  refine po_weak po_none fun σ H Q h => ?_
  obtain ⟨e, s, d, m', A, rfl, en, hg, post⟩ := h
  have hg' : some ((none : Option Int), s.m) = some (d, m') := hg
  cases hg'
  exact post s rfl (Stp.refl A)
theorem jo_some (ha : JE X a ga) : JO X (some a) (gpS ga) := by
  refine po_weak (po_some ha) fun σ H Q h => ?_
  obtain ⟨e, s, d, m', A, rfl, en, hg, post⟩ := h
  obtain ⟨⟨d1, m1⟩, h1, hg⟩ := bind_some_iff hg
  refine ⟨e, s, _, _, A, rfl, en, h1, fun v u hm st rp => ?_⟩
  cases rp <;> first | (cases hg; done) | skip
  rename_i i
  have hg' : some (some i, m1) = some (d, m') := hg
  cases hg'
  exact ⟨i, rfl, post u hm st⟩
theorem jl_sl (ha : JE X a ga) (hl : JO X lo gp) (hh : JO X hi gq) : JL X (.Subscript a (.Slice lo hi none p2) pos) (glSl ga gp gq) := by
  refine pe_weak (pe_slice sl_list ha hl hh) fun σ H Q h => ?_
  obtain ⟨e, s, d, m', A, rfl, en, hg, post⟩ := h
  obtain ⟨⟨d1, m1⟩, h1, hg⟩ := bind_some_iff hg
  obtain ⟨⟨l, m2⟩, h2, hg⟩ := bind_some_iff hg
  obtain ⟨⟨r, m3⟩, h3, hg⟩ := bind_some_iff hg
  refine ⟨e, s, _, _, A, rfl, en, h1, fun v u hm st rp => ⟨e, u, l, m2, st.a, rfl, en.mono st, by rw [hm]; exact h2, fun u2 hm2 st2 => ?_⟩⟩
  refine ⟨e, u2, r, m3, st2.a, rfl, (en.mono st).mono st2, by rw [hm2]; exact h3, fun u3 hm3 st3 => ?_⟩
  have st' := (st.trans st2).trans st3
  have fin : ∀ (xs : List V) (ds : List D), Rps X.K u.W xs ds → (cutD ds l r, m3) = (d, m') → ∀ p, u3.H p = none → Q (.ref p) (upd u3.H p (.lst (cutV xs l r))) := fun xs ds rr he p hp => by
    cases he
    have st4 := stp_own (o := .lst (cutV xs l r)) st3.a hp
    exact post p _ _ (by exact hm3) (st'.trans st4) (st'.fresh hp) upd_same (st3.a.free hp) (st3.a.notAs hp) ((cut_rp l r rr).mono (st2.ex.trans st3.ex))
  cases rp with
  | @lst p xs ds h4 r4 => exact ⟨p, xs, rfl, .inl (rd_mono st3.a.sub (rd_mono (st2.ex.trans st3.ex) h4)), fin xs ds r4 (Option.some.inj hg)⟩
  | @rol p xs ds h4 r4 => exact ⟨p, xs, rfl, sql_mono st3.a.sub (sql_mono (st2.ex.trans st3.ex) h4), fin xs _ r4 (Option.some.inj hg)⟩
  | _ => cases hg
theorem cutV_whole {xs : List V} {lo hi : Option Int} (h : HT.sIx xs.length 0 lo = 0 ∧ HT.sIx xs.length xs.length hi = xs.length) : cutV xs lo hi = xs := by
  unfold cutV
  rw [h.1, h.2, List.drop_zero, Nat.sub_zero, List.take_length]
theorem je_slT (ha : JE X a ga) (hl : JO X lo gp) (hh : JO X hi gq) : JE X (.Subscript a (.Slice lo hi none p2) pos) (gSlT ga gp gq) := by
  refine pe_weak (pe_slice sl_tupA ha hl hh) fun σ H Q h => ?_
  obtain ⟨e, s, d, m', A, rfl, en, hg, post⟩ := h
  obtain ⟨⟨d1, m1⟩, h1, hg⟩ := bind_some_iff hg
  obtain ⟨⟨l, m2⟩, h2, hg⟩ := bind_some_iff hg
  obtain ⟨⟨r, m3⟩, h3, hg⟩ := bind_some_iff hg
  refine ⟨e, s, _, _, A, rfl, en, h1, fun v u hm st rp => ⟨e, u, l, m2, st.a, rfl, en.mono st, by rw [hm]; exact h2, fun u2 hm2 st2 => ?_⟩⟩
  refine ⟨e, u2, r, m3, st2.a, rfl, (en.mono st).mono st2, by rw [hm2]; exact h3, fun u3 hm3 st3 => ?_⟩
  have st' := (st.trans st2).trans st3
  cases rp with
  | @tup p xs ds h4 r4 =>
  cases hg
  have r5 := (cut_rp l r r4).mono (st2.ex.trans st3.ex)
  refine ⟨p, xs, rfl, sqt_mono st3.a.sub (sqt_mono (st2.ex.trans st3.ex) h4), fun hw => ?_, fun _ q hq => ?_⟩
  · rw [cutV_whole hw] at r5
    exact post _ u3 hm3 st' (.tup (sqt_mono (st2.ex.trans st3.ex) h4) r5)
  · have st4 := stp_new (o := .tup (cutV xs l r)) st3.a hq
    exact post _ _ (by exact hm3) (st'.trans st4) (.tup (.inl (.inl upd_same)) (r5.mono st4.ex))
  | _ => cases hg
def rLstO (K : PySem.W.Frag) : List V → Hp → VK → Prop := fun xs H Q => ∃ p ys, xs = [.ref p] ∧ (SqL K H p ys ∨ SqT K H p ys) ∧ ∀ l, H l = none → Q (.ref l) (upd H l (.lst ys))
theorem jl_of {p : Pos} (ha : JE X a ga) (hm : X.mg "list" = none) (hg : Gl X "list" := by rfl) (hv : bootBuiltins "list" = some (.type "list") := by decide +kernel)
    (hs : starEach [a] X.env = (false, eval a X.env) :: starEach [] X.env := by rfl) (hpl : (backTo pos (starEach [] X.env)).any (·.1) = false := by rfl) : JL X (.Call (.Name "list" p) [a] [] pos) (glOf ga) := by
  refine pe_weak (pe_callTy (r := rLstO X.K) call_list_of hg hm hv (pa_cons ha pa_nil hs) (by decide) (by decide) hs hpl) fun σ H Q h => ?_
  obtain ⟨e, s, d, m', A, rfl, en, hg, post⟩ := h
  obtain ⟨⟨d1, m1⟩, h1, hg⟩ := bind_some_iff hg
  refine ⟨e, s, _, _, A, rfl, en, h1, fun v u hm st rp => ?_⟩
  cases rp <;> first | (cases hg; done) | skip
  · rename_i p xs ds h4 r4
    cases hg
    refine ⟨p, xs, rfl, .inl (.inl (rd_mono st.a.sub h4)), fun q hq => ?_⟩
    have st2 := stp_own (o := .lst xs) st.a hq
    exact post q _ _ (by exact hm) (st.trans st2) (st.fresh hq) upd_same (st.a.free hq) (st.a.notAs hq) r4
  · rename_i p xs ds h4 r4
    cases hg
    refine ⟨p, xs, rfl, .inr (sqt_mono st.a.sub h4), fun q hq => ?_⟩
    have st2 := stp_own (o := .lst xs) st.a hq
    exact post q _ _ (by exact hm) (st.trans st2) (st.fresh hq) upd_same (st.a.free hq) (st.a.notAs hq) r4
/-! ### mutable lists -/
theorem mvar {i k : Nat} {s : Sx} {σ : L2.St} {e : En} (en : EnR X.K s σ e) (h : e[i]? = some (some (.at k))) : ∃ p, σ[i]? = some (some (.ref p)) ∧ s.as[k]? = some p := by
  obtain ⟨v, h1, p, h2, rfl⟩ := en.get i _ h
  exact ⟨p, h1, h2⟩
theorem je_mix {i : Nat} {x : Str} {q : Pos} (hb : JE X b gb) (hN : X.N[i]? = some x := by rfl) (hv : Vis X.env.scope x := by first | exact Or.inl rfl | exact Or.inr (Or.inl rfl) | exact Or.inr (Or.inr rfl)) (hd : (x == ("__debug__" : Str)) = false := by decide)
    (hcd : (x == ("__classdict__" : Str)) = false := by decide) (hs : PlainIx b := by exact fun _ _ => rfl) : JE X (.Subscript (.Name x q) b pos) (gMIx i gb) := by
  refine pe_weak (pe_ix ix_list (pe_var hN hv hd hcd) hb hs) fun σ H Q h => ?_
  obtain ⟨e, s, d, m', A, rfl, en, hg, post⟩ := h
  unfold gMIx at hg
  split at hg
  · rename_i k he
    obtain ⟨⟨d1, m1⟩, h1, hg⟩ := bind_some_iff hg
    obtain ⟨p, e1, e2⟩ := mvar en he
    refine ⟨.ref p, e1, e, s, d1, m1, A, rfl, en, h1, fun v u hm st rp => ?_⟩
    cases rp <;> first | (cases hg; done) | skip
    rename_i j
    have hg' : (match m1[k]? with
      | some (some xs) => (atD xs j).map fun z => (z, m1)
      | _ => none) = some (d, m') := hg
    split at hg'
    · rename_i xs hk
      obtain ⟨z, h3, hg⟩ := map_some_iff hg'
      cases hg
      obtain ⟨l, el⟩ := st.pre
      have e3 : u.as[k]? = some p := by rw [el, List.getElem?_append_left (List.getElem?_eq_some_iff.mp e2).1]; exact e2
      obtain ⟨hw, ys, h4, h5⟩ := st.a.at_ k p xs e3 (by rw [hm]; exact hk)
      obtain ⟨v, h6, h7⟩ := at_eq h5 h3
      exact ⟨p, ys, j, v, rfl, rfl, .inl (.inl h4), h6, post v u hm st h7⟩
    · cases hg'
  · cases hg
theorem je_frz {i : Nat} {x : Str} (hN : X.N[i]? = some x := by rfl) (hv : Vis X.env.scope x := by first | exact Or.inl rfl | exact Or.inr (Or.inl rfl) | exact Or.inr (Or.inr rfl)) (hd : (x == ("__debug__" : Str)) = false := by decide)
    (hcd : (x == ("__classdict__" : Str)) = false := by decide) : JE X (.Name x pos) (gFrz i) := by
  refine pe_weak (pe_var hN hv hd hcd) fun σ H Q h => ?_
  obtain ⟨e, s, d, m', A, rfl, en, hg, post⟩ := h
  unfold gFrz at hg
  split at hg
  · rename_i k he
    split at hg
    · rename_i xs hk
      cases hg
      obtain ⟨p, e1, e2⟩ := mvar en he
      obtain ⟨hw, ys, h4, h5⟩ := A.at_ k p xs e2 hk
      have st := stp_kill A e2 hk h4
      exact ⟨.ref p, e1, post (.ref p) { s with W := upd s.W p (.lst ys), m := s.m.set k none } (by rfl) st (.lst (.inl upd_same) (h5.mono st.ex))⟩
    · cases hg
  · cases hg
/-! ### arguments, calls -/
structure JA (X : Cx) (es : List Expr) (g : GA) : Prop where
  pa : PA X es (tA X.K g)
  len : ∀ e m ss m', g e m = some (ss, m') → ss.length = es.length
theorem ja_nil : JA X [] ga0 := by
  refine ⟨pa_weak pa_nil fun σ H Q h => ?_, fun e m ss m' h => ?_⟩
  · obtain ⟨e, s, d, m', A, rfl, en, hg, post⟩ := h
    have hg' : some (([] : List Sl), s.m) = some (d, m') := hg
    cases hg'
    exact post [] s rfl (Stp.refl A) .nil
  · have h' : some (([] : List Sl), m) = some (ss, m') := h
    cases h'
    rfl
theorem paired_mono {K : PySem.W.Frag} {s u : Sx} (st : Stp K s u) : ∀ {ss : List Sl} {vs : List V}, Paired (SlR K s) ss vs → Paired (SlR K u) ss vs
  | _, _, .nil => .nil
  | _, _, .cons h r => .cons (h.mono st) (paired_mono st r)
theorem ja_cons {gr : GA} (ha : JE X a ga) (hr : JA X es gr) (hs : starEach (a :: es) X.env = (false, eval a X.env) :: starEach es X.env := by rfl) : JA X (a :: es) (gac ga gr) := by
  refine ⟨pa_weak (pa_cons ha hr.pa hs) fun σ H Q h => ?_, fun e m ss m' h => ?_⟩
  · obtain ⟨e, s, d, m', A, rfl, en, hg, post⟩ := h
    obtain ⟨⟨d1, m1⟩, h1, hg⟩ := bind_some_iff hg
    obtain ⟨⟨d2, m2⟩, h2, hg⟩ := map_some_iff hg
    cases hg
    exact ⟨e, s, d1, m1, A, rfl, en, h1, fun v u hm st rp => ⟨e, u, d2, m2, st.a, rfl, en.mono st, by rw [hm]; exact h2, fun vs u2 hm2 st2 rp2 => post (v :: vs) u2 hm2 (st.trans st2) (.cons (SlR.mono (x := .d d1) st2 rp) rp2)⟩⟩
  · obtain ⟨⟨d1, m1⟩, h1, hg⟩ := bind_some_iff h
    obtain ⟨⟨d2, m2⟩, h2, hg⟩ := map_some_iff hg
    cases hg
    rw [List.length_cons, List.length_cons, hr.len _ _ _ _ h2]
theorem ja_mut {gr : GA} {i : Nat} {x : Str} {q : Pos} (hr : JA X es gr) (hN : X.N[i]? = some x := by rfl) (hv : Vis X.env.scope x := by first | exact Or.inl rfl | exact Or.inr (Or.inl rfl) | exact Or.inr (Or.inr rfl)) (hd : (x == ("__debug__" : Str)) = false := by decide)
    (hcd : (x == ("__classdict__" : Str)) = false := by decide) (hs : starEach (.Name x q :: es) X.env = (false, eval (.Name x q) X.env) :: starEach es X.env := by rfl) : JA X (.Name x q :: es) (gam i gr) := by
  refine ⟨pa_weak (pa_cons (pe_var hN hv hd hcd) hr.pa hs) fun σ H Q h => ?_, fun e m ss m' hg => ?_⟩
  · obtain ⟨e, s, d, m', A, rfl, en, hg, post⟩ := h
    unfold gam at hg
    split at hg
    · rename_i k he
      obtain ⟨⟨d2, m2⟩, h2, hg⟩ := map_some_iff hg
      cases hg
      obtain ⟨p, e1, e2⟩ := mvar en he
      exact ⟨.ref p, e1, e, s, d2, m2, A, rfl, en, h2, fun vs u2 hm2 st2 rp2 => post (.ref p :: vs) u2 hm2 st2 (.cons (SlR.mono (x := .at k) st2 ⟨p, e2, rfl⟩) rp2)⟩
    · cases hg
  · unfold gam at hg
    split at hg
    · rename_i k he
      obtain ⟨⟨d2, m2⟩, h2, hg⟩ := map_some_iff hg
      cases hg
      rw [List.length_cons, List.length_cons, hr.len _ _ _ _ h2]
    · cases hg
/-- a def's promise: it hands back what F says -/
def spG (K : PySem.W.Frag) (n : Nat) (F : Fn) : Sp := fun vs H Q _ => ∃ (s : Sx) (ss : List Sl) (d : D) (m' : Mm), ss.length = n ∧ At K s ∧ s.H = H ∧ Paired (SlR K s) ss vs ∧ F ss s.m = some (d, m') ∧
  ∀ v u, u.m = m' → u.as = s.as → Stp K s u → Rp K u.W v d → Q v u.H
theorem paired_len {α β : Type} {R : α → β → Prop} : ∀ {xs : List α} {ys : List β}, Paired R xs ys → xs.length = ys.length
  | _, _, .nil => rfl
  | _, _, .cons _ r => congrArg (· + 1) (paired_len r)
/-- a def of the module that keeps such a promise -/
structure OkFn (P : Program) (w : World) (K : PySem.W.Frag) (mg : Str → Option Value) (base : Heap) (x : Str) (ps : List Str) (k : Nat) (F : Fn) : Prop where
  ex : ∃ f fd, mg x = some (.ref f) ∧ PySem.W.keepIn K (.ref f) = true ∧ Binds K fd ps [] ∧ FnOk P w K mg base CX0 k f fd ps (spG K ps.length F) ∧ ∃ oc od osl, K.lookup f = some ⟨oc, od, .func fd, osl⟩
theorem je_call {x : Str} {p : Pos} {ps : List Str} {k : Nat} {F : Fn} {gA : GA} (G : OkFn X.prog X.w X.K X.mg X.base x ps k F) (hr : Room k X.A) (ha : JA X (a :: es) gA) (hg : Gl X x := by rfl) (hdb : (x == ("__debug__" : Str)) = false := by decide)
    (hs : starEach (a :: es) X.env = (false, eval a X.env) :: starEach es X.env := by rfl) (hpl : (backTo pos (starEach es X.env)).any (·.1) = false := by rfl) (hlen : (a :: es).length = ps.length := by rfl) : JE X (.Call (.Name x p) (a :: es) [] pos) (gCall F gA) := by
  obtain ⟨f, fd, h1, h2, h3, h4, _⟩ := G.ex
  refine pe_weak (pe_call h4 hr hg h1 h2 h3 .nil pass0 ha.pa hdb hs hpl) fun σ H Q h => ?_
  obtain ⟨e, s, d, m', A, rfl, en, hg, post⟩ := h
  obtain ⟨⟨ss, m1⟩, h5, hg⟩ := bind_some_iff hg
  refine ⟨e, s, ss, m1, A, rfl, en, h5, fun vs u hm st rp => ?_⟩
  refine ⟨u, ss, d, m', (ha.len e s.m ss m1 h5).trans hlen, st.a, rfl, by rw [List.append_nil]; exact rp, by rw [hm]; exact hg, fun v u2 hm2 _ st2 rp2 => post v u2 hm2 (st.trans st2) rp2⟩
end
end Bs
/-! Sem4: walks, comprehensions, targets, statements, loops, defs. -/
namespace Bs
open PySem PySem.Spec PyProof.Rows L2

/-! ### what is walked -/
structure WkOk (K : PySem.W.Frag) (J : It) (ds : List D) (u : Sx) : Prop where
  go : ∀ (i : Nat) (v : Sx), i < ds.length → Stp K u v → J.go i v.H
  stop : ∀ (v : Sx), Stp K u v → J.stop ds.length v.H
  yld : ∀ (i : Nat) (d : D) (v : Sx) (x : V) (H' : Hp), ds[i]? = some d → Stp K u v → J.yld i v.H x H' → ∃ w : Sx, w.H = H' ∧ w.m = v.m ∧ Stp K v w ∧ Rp K w.W x d
def tX (K : PySem.W.Frag) (g : GL) : TI := fun σ H R => ∃ (e : En) (s : Sx) (ds : List D) (m' : Mm), At K s ∧ s.H = H ∧ EnR K s σ e ∧ g e s.m = some (ds, m') ∧ ∀ J u, u.m = m' → Stp K s u → WkOk K J ds u → R J u.H
abbrev JX (X : Cx) (tg iter : Expr) (g : GL) : Prop := PI X tg iter (tX X.K g)
theorem pi_weak {X : Cx} {tg x : Expr} {t t' : TI} (h : PI X tg x t) (w : ∀ σ H R, t' σ H R → t σ H R) : PI X tg x t' := ⟨fun pins s σ H R I q => h.run pins s σ H R I (w σ H R q)⟩
section
variable {K : PySem.W.Frag}
theorem wk_list {a : Addr} {xs : List V} {ds : List D} {u : Sx} (h : SqL K u.W a xs) (r : Rps K u.W xs ds) : WkOk K (Itl K a) ds u := by
  refine ⟨fun i v hi st => ?_, fun v st => ?_, fun i d v x H' hd st y => ?_⟩
  · exact ⟨xs, xs[i]'(by rw [r.length]; exact hi), sql_mono st.a.sub (sql_mono st.ex h), by simp⟩
  · exact ⟨xs, sql_mono st.a.sub (sql_mono st.ex h), Nat.le_of_eq r.length⟩
  · obtain ⟨rfl, y⟩ := y
    obtain ⟨z, h1, h2⟩ := r.get hd
    have e := y xs (sql_mono st.a.sub (sql_mono st.ex h))
    rw [h1] at e
    cases e
    exact ⟨v, rfl, rfl, Stp.refl st.a, h2.mono st.ex⟩
theorem wk_tup {a : Addr} {xs : List V} {ds : List D} {u : Sx} (h : SqT K u.W a xs) (r : Rps K u.W xs ds) : WkOk K (Itt K a) ds u := by
  refine ⟨fun i v hi st => ?_, fun v st => ?_, fun i d v x H' hd st y => ?_⟩
  · exact ⟨xs, xs[i]'(by rw [r.length]; exact hi), sqt_mono st.a.sub (sqt_mono st.ex h), by simp⟩
  · exact ⟨xs, sqt_mono st.a.sub (sqt_mono st.ex h), Nat.le_of_eq r.length⟩
  · obtain ⟨rfl, y⟩ := y
    obtain ⟨z, h1, h2⟩ := r.get hd
    have e := y xs (sqt_mono st.a.sub (sqt_mono st.ex h))
    rw [h1] at e
    cases e
    exact ⟨v, rfl, rfl, Stp.refl st.a, h2.mono st.ex⟩
theorem rng_get {lo n : Int} {i : Nat} {d : D} (h : (rngD lo n)[i]? = some d) : d = .int (lo + (i : Nat)) ∧ i < (n - lo).toNat := by
  unfold rngD at h
  rw [List.getElem?_map] at h
  obtain ⟨j, h1, h2⟩ := map_some_iff h
  have h3 : i < (n - lo).toNat := by
    have := (List.getElem?_eq_some_iff.mp h1).1
    simpa using this
  rw [List.getElem?_range h3] at h1
  cases h1
  exact ⟨h2.symm, h3⟩
theorem rng_len (lo n : Int) : (rngD lo n).length = (n - lo).toNat := by simp [rngD]
theorem wk_rng {lo n : Int} {k : Nat} (hk : k = (n - lo).toNat) {u : Sx} : WkOk K (Itr lo k) (rngD lo n) u := by
  subst hk
  refine ⟨fun i v hi st => ?_, fun v st => ?_, fun i d v x H' hd st y => ?_⟩
  · rw [rng_len] at hi
    exact hi
  · rw [rng_len]
    exact Nat.le_refl _
  · obtain ⟨rfl, rfl⟩ := y
    obtain ⟨rfl, _⟩ := rng_get hd
    exact ⟨v, rfl, rfl, Stp.refl st.a, .int _⟩
end
section
variable {X : Cx} {tg a b : Expr} {ga gb : GE} {pos p : Pos} {es : List Expr}
theorem jx_list (ha : JE X a ga) : JX X tg a (gxL ga) := by
  refine pi_weak (pi_list ha) fun σ H R h => ?_
  obtain ⟨e, s, ds, m', A, rfl, en, hg, post⟩ := h
  obtain ⟨⟨d1, m1⟩, h1, hg⟩ := bind_some_iff hg
  refine ⟨e, s, d1, m1, A, rfl, en, h1, fun v u hm st rp => ?_⟩
  cases rp with
  | @lst p xs ds h4 r4 =>
    cases hg
    exact ⟨p, rfl, ⟨xs, .inl (rd_mono st.a.sub h4)⟩, post _ u hm st (wk_list (.inl h4) r4)⟩
  | @rol p xs ds h4 r4 =>
    cases hg
    exact ⟨p, rfl, ⟨xs, sql_mono st.a.sub h4⟩, post _ u hm st (wk_list h4 r4)⟩
  | _ => cases hg
theorem jx_tup (ha : JE X a ga) : JX X tg a (gxT ga) := by
  refine pi_weak (pi_tup ha) fun σ H R h => ?_
  obtain ⟨e, s, ds, m', A, rfl, en, hg, post⟩ := h
  obtain ⟨⟨d1, m1⟩, h1, hg⟩ := bind_some_iff hg
  refine ⟨e, s, d1, m1, A, rfl, en, h1, fun v u hm st rp => ?_⟩
  cases rp with
  | @tup p xs ds h4 r4 =>
    cases hg
    exact ⟨p, rfl, ⟨xs, sqt_mono st.a.sub h4⟩, post _ u hm st (wk_tup h4 r4)⟩
  | _ => cases hg
theorem jx_r1 (ha : JE X a ga) (hm : X.mg "range" = none) (hg : Gl X "range" := by rfl) (hs : starEach [a] X.env = [(false, eval a X.env)] := by rfl) : JX X tg (.Call (.Name "range" p) [a] [] pos) (gxR1 ga) := by
  refine pi_weak (pi_range1 hg hm (pa_cons ha pa_nil hs) hs) fun σ H R h => ?_
  obtain ⟨e, s, ds, m', A, rfl, en, hg, post⟩ := h
  obtain ⟨⟨d1, m1⟩, h1, hg⟩ := bind_some_iff hg
  refine ⟨e, s, d1, m1, A, rfl, en, h1, fun v u hm st rp => ?_⟩
  cases rp with
  | int n =>
    have hg' : (if -1000000 ≤ n ∧ n ≤ 1000000 then some (rngD 0 n, m1) else none) = some (ds, m') := hg
    split at hg'
    · rename_i hz
      cases hg'
      exact ⟨n, rfl, by omega, by omega, post _ u hm st (wk_rng (by omega))⟩
    · cases hg'
  | _ => cases hg
theorem jx_r2 (ha : JE X a ga) (hb : JE X b gb) (hm : X.mg "range" = none) (hg : Gl X "range" := by rfl) (hs : starEach [a, b] X.env = [(false, eval a X.env), (false, eval b X.env)] := by rfl) (hs2 : starEach [b] X.env = [(false, eval b X.env)] := by rfl) :
    JX X tg (.Call (.Name "range" p) [a, b] [] pos) (gxR2 ga gb) := by
  refine pi_weak (pi_range2 hg hm (pa_cons ha (pa_cons hb pa_nil hs2) (by rw [hs, hs2])) hs hs2) fun σ H R h => ?_
  obtain ⟨e, s, ds, m', A, rfl, en, hg, post⟩ := h
  obtain ⟨⟨d1, m1⟩, h1, hg⟩ := bind_some_iff hg
  obtain ⟨⟨d2, m2⟩, h2, hg⟩ := bind_some_iff hg
  refine ⟨e, s, _, _, A, rfl, en, h1, fun v u hm st rp => ⟨e, u, _, _, st.a, rfl, en.mono st, by rw [hm]; exact h2, fun w u2 hm2 st2 rp2 => ?_⟩⟩
  cases rp with
  | int lo =>
    cases rp2 with
    | int n =>
      have hg' : (if (-1000000 ≤ lo ∧ lo ≤ 1000000) ∧ (-1000000 ≤ n ∧ n ≤ 1000000) then some (rngD lo n, m2) else none) = some (ds, m') := hg
      split at hg'
      · rename_i hz
        cases hg'
        exact ⟨lo, n, rfl, ⟨by omega, by omega, by omega, by omega⟩, post _ u2 hm2 (st.trans st2) (wk_rng rfl)⟩
      · cases hg'
    | _ => cases hg
  | _ => cases hg
end

/-! ### targets -/
def tG (K : PySem.W.Frag) (g : GG) : TG := fun v σ H Q => ∃ (e : En) (s : Sx) (d : D) (e' : En) (m' : Mm), At K s ∧ s.H = H ∧ EnR K s σ e ∧ Rp K s.W v d ∧ g d e s.m = some (e', m') ∧ ∀ σ' u, u.m = m' → Stp K s u → EnR K u σ' e' → Q σ' u.H
def tGs (K : PySem.W.Frag) (g : GGs) : TGs := fun vs σ H Q => ∃ (e : En) (s : Sx) (ds : List D) (e' : En) (m' : Mm), At K s ∧ s.H = H ∧ EnR K s σ e ∧ Rps K s.W vs ds ∧ g ds e s.m = some (e', m') ∧ ∀ σ' u, u.m = m' → Stp K s u → EnR K u σ' e' → Q σ' u.H
abbrev JG (X : Cx) (x : Expr) (g : GG) : Prop := PG X x (tG X.K g)
abbrev JGs (X : Cx) (x : List Expr) (g : GGs) : Prop := PGs X x (tGs X.K g)
theorem pg_weak {X : Cx} {x : Expr} {t t' : TG} (h : PG X x t) (w : ∀ v σ H Q, t' v σ H Q → t v σ H Q) : PG X x t' := ⟨fun pins s σ H v u Q I r q => h.run pins s σ H v u Q I r (w v σ H Q q)⟩
theorem pgs_weak {X : Cx} {x : List Expr} {t t' : TGs} (h : PGs X x t) (w : ∀ v σ H Q, t' v σ H Q → t v σ H Q) : PGs X x t' := ⟨fun pins s σ H v u Q I r q => h.run pins s σ H v u Q I r (w v σ H Q q)⟩
section
variable {X : Cx} {a b : Expr} {ga gb : GE} {pos p : Pos} {es : List Expr} {gg : GG} {gs : GGs}
theorem jg_name {i : Nat} {x : Str} (hN : X.N.Nodup) (hi : X.N[i]? = some x := by rfl) (hx : Loc X.env.scope x := by first | exact Or.inl rfl | exact Or.inr rfl) (hf : X.fn x = true ∨ X.env.scope.names.lookup x = some .local := by first | exact .inl rfl | exact .inr rfl) : JG X (.Name x pos) (ggN i) := by
  refine pg_weak (pg_name hN hi hx hf) fun v σ H Q h => ?_
  obtain ⟨e, s, d, e', m', A, rfl, en, rp, hg, post⟩ := h
  cases hg
  exact post _ s rfl (Stp.refl A) (en.set i (x := .d d) rp)
theorem jgs_nil : JGs X [] gg0 := by
  refine pgs_weak pgs_nil fun v σ H Q h => ?_
  obtain ⟨e, s, d, e', m', A, rfl, en, rp, hg, post⟩ := h
  cases rp with
  | nil =>
    cases hg
    exact ⟨rfl, post _ s rfl (Stp.refl A) en⟩
  | cons _ _ => cases hg
theorem jgs_cons (h1 : JG X a gg) (h2 : JGs X es gs) (hs : (assignEach (a :: es) X.env).map (·.2) = assign a X.env :: (assignEach es X.env).map (·.2) := by rfl) : JGs X (a :: es) (ggc gg gs) := by
  refine pgs_weak (pgs_cons h1 h2 hs) fun v σ H Q h => ?_
  obtain ⟨e, s, d, e', m', A, rfl, en, rp, hg, post⟩ := h
  cases rp with
  | nil => cases hg
  | @cons x vs d ds r1 r2 =>
    obtain ⟨⟨e1, m1⟩, h3, hg⟩ := bind_some_iff (show (gg d e s.m).bind _ = some (e', m') from hg)
    exact ⟨x, vs, rfl, e, s, d, e1, m1, A, rfl, en, r1, h3, fun σ' u hm st en' => ⟨e1, u, ds, e', m', st.a, rfl, en', r2.mono st.ex, by rw [hm]; exact hg, fun σ2 u2 hm2 st2 en2 => post σ2 u2 hm2 (st.trans st2) en2⟩⟩
theorem jg_tup {k n : Nat} (h : JGs X es gs) (hc : X.calm = true := by rfl) (hn : (assignEach es X.env).length = n := by rfl) (hst : (assignEach es X.env).findIdx? (·.1) = none := by rfl) : JG X (.Tuple es k pos) (ggT n gs) := by
  refine pg_weak (pg_tup hc h hn hst) fun v σ H Q h => ?_
  obtain ⟨e, s, d, e', m', A, rfl, en, rp, hg, post⟩ := h
  cases rp with
  | @tup p xs ds h4 r4 =>
    have hg' : (if ds.length = n then gs ds e s.m else none) = some (e', m') := hg
    split at hg'
    · rename_i hz
      exact ⟨p, xs, rfl, sqt_mono A.sub h4, r4.length.trans hz, e, s, ds, e', m', A, rfl, en, r4, hg', post⟩
    · cases hg'
  | _ => cases hg
theorem jg_unl {k n : Nat} (h : JGs X es gs) (hc : X.calm = true := by rfl) (hn : (assignEach es X.env).length = n := by rfl) (hst : (assignEach es X.env).findIdx? (·.1) = none := by rfl) : JG X (.Tuple es k pos) (ggL n gs) := by
  refine pg_weak (pg_unl hc h hn hst) fun v σ H Q h => ?_
  obtain ⟨e, s, d, e', m', A, rfl, en, rp, hg, post⟩ := h
  cases rp with
  | @lst p xs ds h4 r4 =>
    have hg' : (if ds.length = n then gs ds e s.m else none) = some (e', m') := hg
    split at hg'
    · rename_i hz
      exact ⟨p, xs, rfl, .inl (rd_mono A.sub h4), r4.length.trans hz, e, s, ds, e', m', A, rfl, en, r4, hg', post⟩
    · cases hg'
  | _ => cases hg
theorem jg_mut {i : Nat} {x : Str} {q : Pos} (hb : JE X b gb) (hN : X.N[i]? = some x := by rfl) (hv : Vis X.env.scope x := by first | exact Or.inl rfl | exact Or.inr (Or.inl rfl) | exact Or.inr (Or.inr rfl)) (hd : (x == ("__debug__" : Str)) = false := by decide)
    (hcd : (x == ("__classdict__" : Str)) = false := by decide) (hs : ∀ v, assign (.Subscript (.Name x q) b pos) X.env v = (do
      let ov ← holding [v] (eval (.Name x q) X.env)
      let iv ← holding [v, ov] (eval b X.env)
      standAt pos
      holding [v, ov, iv] (setItem ov iv v)
      release [v, ov, iv] []) := by intro _; rfl) : JG X (.Subscript (.Name x q) b pos) (ggM i gb) := by
  refine pg_weak (pg_sub (pe_var hN hv hd hcd) hb set_list hs) fun v σ H Q h => ?_
  obtain ⟨e, s, d, e', m', A, rfl, en, rp, hg, post⟩ := h
  unfold ggM at hg
  split at hg
  · rename_i k he
    obtain ⟨⟨d1, m1⟩, h1, hg⟩ := bind_some_iff hg
    obtain ⟨p, e1, e2⟩ := mvar en he
    refine ⟨.ref p, e1, e, s, d1, m1, A, rfl, en, h1, fun w u hm st rw_ => ?_⟩
    cases rw_ with
    | int j =>
      obtain ⟨m2, h3, hg⟩ := map_some_iff (show (setM m1 k j d).map _ = some (e', m') from hg)
      cases hg
      unfold setM at h3
      split at h3
      · rename_i xs hk
        obtain ⟨n, h4, h5⟩ := map_some_iff h3
        obtain ⟨l, el⟩ := st.pre
        have e3 : u.as[k]? = some p := by rw [el, List.getElem?_append_left (List.getElem?_eq_some_iff.mp e2).1]; exact e2
        have hk' : u.m[k]? = some (some xs) := by rw [hm]; exact hk
        obtain ⟨hw, ys, h6, h7⟩ := st.a.at_ k p xs e3 hk'
        have st2 := stp_put (ys := ys.set n v) st.a e3 hk' (h7.set (rp.mono st.ex) n)
        refine ⟨p, ys, j, n, rfl, rfl, h6, ?_, post _ _ ?_ (st.trans st2) (en.mono (st.trans st2))⟩
        · rw [h7.length]
          exact h4
        · show u.m.set k _ = _
          rw [hm]
          exact h5
      · cases h3
    | _ => cases hg
  · cases hg
end

/-! ### statements -/
def PostS (K : PySem.W.Frag) (s : Sx) (o : Out) (Z : Ends) : Prop := match o with
  | .nx e' m' => ∀ σ' u, u.m = m' → Stp K s u → EnR K u σ' e' → Z.nx σ' u.H
  | .rt d m' => ∀ v u, u.m = m' → Stp K s u → Rp K u.W v d → Z.rt v u.H
  | .rl ds m' => ∀ p xs u, u.m = m' → Stp K s u → s.H p = none → u.H p = some (.lst xs) → u.W p = none → p ∉ u.as → Rps K u.W xs ds → Z.rt (.ref p) u.H
def tS (K : PySem.W.Frag) (g : GS) : TS := fun Z σ H => ∃ (e : En) (s : Sx) (o : Out), At K s ∧ s.H = H ∧ EnR K s σ e ∧ g e s.m = some o ∧ PostS K s o Z
abbrev JS (X : Cx) (x : Stmt) (g : GS) : Prop := PS X x (tS X.K g)
abbrev JSs (X : Cx) (x : List Stmt) (g : GS) : Prop := PSs X x (tS X.K g)
theorem ps_weak {X : Cx} {x : Stmt} {t t' : TS} (h : PS X x t) (w : ∀ Z σ H, t' Z σ H → t Z σ H) : PS X x t' := ⟨fun pins s σ H Z I q => h.run pins s σ H Z I (w Z σ H q)⟩
theorem pss_weak {X : Cx} {x : List Stmt} {t t' : TS} (h : PSs X x t) (w : ∀ Z σ H, t' Z σ H → t Z σ H) : PSs X x t' := ⟨fun pins s σ H Z I q => h.run pins s σ H Z I (w Z σ H q)⟩
theorem PostS.mono {K : PySem.W.Frag} {s t : Sx} (st : Stp K s t) {o : Out} {Z : Ends} (h : PostS K s o Z) : PostS K t o Z := by
  cases o with
  | nx e m => exact fun σ' u hm st2 en => h σ' u hm (st.trans st2) en
  | rt d m => exact fun v u hm st2 rp => h v u hm (st.trans st2) rp
  | rl ds m => exact fun p xs u hm st2 hn hp hw ha rp => h p xs u hm (st.trans st2) (st.fresh hn) hp hw ha rp
/-- only what follows is another -/
theorem PostS.other {K : PySem.W.Frag} {s : Sx} {o : Out} {Z Z' : Ends} (h : PostS K s o Z) (ho : ∀ e m, o ≠ .nx e m) (hr : Z'.rt = Z.rt) : PostS K s o Z' := by
  cases o with
  | nx e m => exact absurd rfl (ho e m)
  | rt d m =>
    intro v u hm st2 rp
    rw [hr]
    exact h v u hm st2 rp
  | rl ds m =>
    intro p xs u hm st2 hn hp hw ha rp
    rw [hr]
    exact h p xs u hm st2 hn hp hw ha rp
section
variable {X : Cx} {a b c : Expr} {ga gb : GE} {pos p : Pos} {st : Stmt} {sts : List Stmt} {g g' : GS} {t : GT} {gl : GL}
theorem jss_nil : JSs X [] gsN := by
  refine pss_weak pss_nil fun Z σ H h => ?_
  obtain ⟨e, s, o, A, rfl, en, hg, post⟩ := h
  cases hg
  exact post σ s rfl (Stp.refl A) en
theorem jss_one (h : JS X st g) : JSs X [st] g := pss_one h
theorem jss_cons (h1 : JS X st g) (h2 : JSs X sts g') : JSs X (st :: sts) (gsSeq g g') := by
  refine pss_weak (pss_cons h1 h2) fun Z σ H h => ?_
  obtain ⟨e, s, o, A, rfl, en, hg, post⟩ := h
  obtain ⟨o1, h3, hg⟩ := bind_some_iff hg
  refine ⟨e, s, o1, A, rfl, en, h3, ?_⟩
  cases o1 with
  | nx e1 m1 => exact fun σ' u hm st2 en2 => ⟨e1, u, o, st2.a, rfl, en2, by rw [hm]; exact hg, post.mono st2⟩
  | rt d m1 =>
    cases hg
    exact post
  | rl d m1 =>
    cases hg
    exact post
theorem js_never : JS X st gsNever := by
  refine ps_weak ps_never fun Z σ H h => ?_
  obtain ⟨e, s, o, A, rfl, en, hg, post⟩ := h
  cases hg
theorem js_ret (ha : JE X a ga) : JS X (.Return (some a) pos) (gsRet ga) := by
  refine ps_weak (ps_ret ha) fun Z σ H h => ?_
  obtain ⟨e, s, o, A, rfl, en, hg, post⟩ := h
  obtain ⟨⟨d, m1⟩, h3, hg⟩ := map_some_iff hg
  cases hg
  exact ⟨e, s, d, m1, A, rfl, en, h3, fun v u hm st2 rp => post v u hm st2 rp⟩
theorem js_retL (ha : JL X a gl) : JS X (.Return (some a) pos) (gsRetL gl) := by
  refine ps_weak (ps_ret ha) fun Z σ H h => ?_
  obtain ⟨e, s, o, A, rfl, en, hg, post⟩ := h
  obtain ⟨⟨d, m1⟩, h3, hg⟩ := map_some_iff hg
  cases hg
  exact ⟨e, s, d, m1, A, rfl, en, h3, fun p xs u hm st2 hn hp hw ha rp => post p xs u hm st2 hn hp hw ha rp⟩
theorem js_drop (ha : JE X a ga) (hs : swapsWith a none pos.line X.env = pure false := by rfl) : JS X (.Expr a pos) (gsDrop ga) := by
  refine ps_weak (ps_expr ha hs) fun Z σ H h => ?_
  obtain ⟨e, s, o, A, rfl, en, hg, post⟩ := h
  obtain ⟨⟨d, m1⟩, h3, hg⟩ := map_some_iff hg
  cases hg
  exact ⟨e, s, d, m1, A, rfl, en, h3, fun v u hm st2 rp => post σ u hm st2 (en.mono st2)⟩
theorem js_if {x y : List Stmt} (hc : JT X c t) (ha : JSs X x g) (hb : JSs X y g') : JS X (.If c x y pos) (gsIf t g g') := by
  refine ps_weak (ps_if hc ha hb) fun Z σ H h => ?_
  obtain ⟨e, s, o, A, rfl, en, hg, post⟩ := h
  obtain ⟨⟨k, m1⟩, h1, hg⟩ := bind_some_iff hg
  refine ⟨e, s, k, m1, A, rfl, en, h1, fun u hm st2 => ?_⟩
  cases k with
  | true => exact ⟨e, u, o, st2.a, rfl, en.mono st2, by rw [hm]; exact hg, post.mono st2⟩
  | false => exact ⟨e, u, o, st2.a, rfl, en.mono st2, by rw [hm]; exact hg, post.mono st2⟩
theorem js_asg {gg : GG} (ha : JE X a ga) (hg : JG X b gg) (hs : swapsWithSole [b] a pos.line X.env = pure false := by rfl) (hw : swappedStores [b] a X.env = pure none := by rfl)
    (h1 : (assignEach [b] X.env).map (·.2) = [assign b X.env] := by rfl) : JS X (.Assign [b] a pos) (gsAsg ga gg) := by
  refine ps_weak (ps_asg ha hg hs hw h1) fun Z σ H h => ?_
  obtain ⟨e, s, o, A, rfl, en, hg, post⟩ := h
  obtain ⟨⟨d, m1⟩, h3, hg⟩ := bind_some_iff hg
  obtain ⟨⟨e1, m2⟩, h4, hg⟩ := map_some_iff hg
  cases hg
  exact ⟨e, s, d, m1, A, rfl, en, h3, fun v u hm st2 rp => ⟨e, u, d, e1, m2, st2.a, rfl, en.mono st2, rp, by rw [hm]; exact h4, fun σ' u2 hm2 st3 en3 => post σ' u2 hm2 (st2.trans st3) en3⟩⟩
theorem js_set {i : Nat} {x : Str} {q : Pos} (hN : X.N.Nodup) (ha : JE X a ga) (hi : X.N[i]? = some x := by rfl) (hx : Loc X.env.scope x := by first | exact Or.inl rfl | exact Or.inr rfl) (hs : swapsWith a (some (.Name x q)) pos.line X.env = pure false := by rfl)
    (hf : X.fn x = true ∨ X.env.scope.names.lookup x = some .local := by first | exact .inl rfl | exact .inr rfl) : JS X (.Assign [.Name x q] a pos) (gsAsg ga (ggN i)) := by
  refine ps_weak (ps_set hN hi hx ha hs hf) fun Z σ H h => ?_
  obtain ⟨e, s, o, A, rfl, en, hg, post⟩ := h
  obtain ⟨⟨d, m1⟩, h3, hg⟩ := bind_some_iff hg
  obtain ⟨⟨e1, m2⟩, h4, hg⟩ := map_some_iff hg
  cases hg
  cases h4
  exact ⟨e, s, d, m1, A, rfl, en, h3, fun v u hm st2 rp => post _ u hm st2 ((en.mono st2).set i (x := .d d) rp)⟩
/-- x = a new list, mutable from here on -/
theorem js_new {i : Nat} {x : Str} {q : Pos} (hN : X.N.Nodup) (ha : JL X a gl) (hi : X.N[i]? = some x := by rfl) (hx : Loc X.env.scope x := by first | exact Or.inl rfl | exact Or.inr rfl) (hs : swapsWith a (some (.Name x q)) pos.line X.env = pure false := by rfl)
    (hf : X.fn x = true ∨ X.env.scope.names.lookup x = some .local := by first | exact .inl rfl | exact .inr rfl) : JS X (.Assign [.Name x q] a pos) (gsNew i gl) := by
  refine ps_weak (ps_set hN hi hx ha hs hf) fun Z σ H h => ?_
  obtain ⟨e, s, o, A, rfl, en, hg, post⟩ := h
  obtain ⟨⟨ds, m1⟩, h3, hg⟩ := map_some_iff hg
  cases hg
  refine ⟨e, s, ds, m1, A, rfl, en, h3, fun p xs u hm st2 hn hp hw ha rp => ?_⟩
  have st3 := st2.alloc hn hp hw ha rp
  refine post _ { u with as := u.as ++ [p], m := u.m ++ [some ds] } ?_ st3 ((en.mono st3).set i (x := .at m1.length) ⟨p, ?_, rfl⟩)
  · show u.m ++ [some ds] = m1 ++ [some ds]
    rw [hm]
  · show (u.as ++ [p])[m1.length]? = some p
    rw [← hm, ← st2.a.len]
    simp
theorem js_par {i j : Nat} {x y : Str} {px py pt : Pos} {kt k2 pt2} (hN : X.N.Nodup) (ha : JE X a ga) (hb : JE X b gb) (hi : X.N[i]? = some x := by rfl) (hj : X.N[j]? = some y := by rfl) (hij : i ≠ j := by decide)
    (hx : X.env.scope.names.lookup x = some .local := by rfl) (hy : X.env.scope.names.lookup y = some .local := by rfl) (hc : X.calm = true := by rfl)
    (hw : swappedStores [.Tuple [.Name x px, .Name y py] kt pt] (.Tuple [a, b] k2 pt2) X.env = pure (some [x, y]) := by rfl)
    (hs : swapsWithSole [.Tuple [.Name x px, .Name y py] kt pt] (.Tuple [a, b] k2 pt2) pos.line X.env = pure false := by rfl)
    (hsa : starEach [a, b] X.env = (false, eval a X.env) :: starEach [b] X.env := by rfl) (hsb : starEach [b] X.env = (false, eval b X.env) :: starEach [] X.env := by rfl) :
    JS X (.Assign [.Tuple [.Name x px, .Name y py] kt pt] (.Tuple [a, b] k2 pt2) pos) (gsPar i j ga gb) := by
  refine ps_weak (ps_par hc hN hi hj hij hx hy (pa_cons ha (pa_cons hb pa_nil hsb) hsa) hw hs) fun Z σ H h => ?_
  obtain ⟨e, s, o, A, rfl, en, hg, post⟩ := h
  obtain ⟨⟨d1, m1⟩, h1, hg⟩ := bind_some_iff hg
  obtain ⟨⟨d2, m2⟩, h2, hg⟩ := map_some_iff hg
  cases hg
  refine ⟨e, s, _, _, A, rfl, en, h1, fun v u hm st2 rp => ⟨e, u, _, _, st2.a, rfl, en.mono st2, by rw [hm]; exact h2, fun w u2 hm2 st3 rp2 => ?_⟩⟩
  exact ⟨v, w, rfl, post _ u2 hm2 (st2.trans st3) (((en.mono (st2.trans st3)).set i (x := .d d1) (rp.mono st3.ex)).set j (x := .d d2) rp2)⟩
theorem js_parN {i j : Nat} {x y : Str} {px py pt : Pos} {kt k2 pt2} (hN : X.N.Nodup) (ha : JE X a ga) (hb : JL X b gl) (hi : X.N[i]? = some x := by rfl) (hj : X.N[j]? = some y := by rfl) (hij : i ≠ j := by decide)
    (hx : X.env.scope.names.lookup x = some .local := by rfl) (hy : X.env.scope.names.lookup y = some .local := by rfl) (hc : X.calm = true := by rfl)
    (hw : swappedStores [.Tuple [.Name x px, .Name y py] kt pt] (.Tuple [a, b] k2 pt2) X.env = pure (some [x, y]) := by rfl)
    (hs : swapsWithSole [.Tuple [.Name x px, .Name y py] kt pt] (.Tuple [a, b] k2 pt2) pos.line X.env = pure false := by rfl)
    (hsa : starEach [a, b] X.env = (false, eval a X.env) :: starEach [b] X.env := by rfl) (hsb : starEach [b] X.env = (false, eval b X.env) :: starEach [] X.env := by rfl) :
    JS X (.Assign [.Tuple [.Name x px, .Name y py] kt pt] (.Tuple [a, b] k2 pt2) pos) (gsParN i j ga gl) := by
  refine ps_weak (ps_par hc hN hi hj hij hx hy (pa_cons ha (pa_cons hb pa_nil hsb) hsa) hw hs) fun Z σ H h => ?_
  obtain ⟨e, s, o, A, rfl, en, hg, post⟩ := h
  obtain ⟨⟨d1, m1⟩, h1, hg⟩ := bind_some_iff hg
  obtain ⟨⟨d2, m2⟩, h2, hg⟩ := map_some_iff hg
  cases hg
  refine ⟨e, s, _, _, A, rfl, en, h1, fun v u hm st2 rp => ⟨e, u, _, _, st2.a, rfl, en.mono st2, by rw [hm]; exact h2, fun p xs u2 hm2 st3 hn hp hw ha rp2 => ?_⟩⟩
  have st4 := st2.trans (st3.alloc hn hp hw ha rp2)
  refine ⟨v, .ref p, rfl, post _ { u2 with as := u2.as ++ [p], m := u2.m ++ [some d2] } ?_ st4 (((en.mono st4).set i (x := .d d1) (rp.mono st3.ex)).set j (x := .at m2.length) ⟨p, ?_, rfl⟩)⟩
  · show u2.m ++ [some d2] = m2 ++ [some d2]
    rw [hm2]
  · show (u2.as ++ [p])[m2.length]? = some p
    rw [← hm2, ← st3.a.len]
    simp
theorem js_aug {i : Nat} {x : Str} {q : Pos} (hN : X.N.Nodup) (ha : JE X a ga) (hi : X.N[i]? = some x := by rfl) (hx : Loc X.env.scope x := by first | exact Or.inl rfl | exact Or.inr rfl)
    (hf : X.fn x = true ∨ X.env.scope.names.lookup x = some .local := by first | exact .inl rfl | exact .inr rfl) : JS X (.AugAssign (.Name x q) .Add a pos) (gsAug i addI ga) := by
  refine ps_weak (ps_aug hN hi hx ha ip_add hf) fun Z σ H h => ?_
  obtain ⟨e, s, o, A, rfl, en, hg, post⟩ := h
  unfold gsAug at hg
  split at hg
  · rename_i x' he
    obtain ⟨⟨d1, m1⟩, h1, hg⟩ := bind_some_iff hg
    obtain ⟨z, h2, hg⟩ := map_some_iff hg
    cases hg
    obtain ⟨v, h3, h4⟩ := en.get i _ he
    refine ⟨v, h3, e, s, d1, m1, A, rfl, en, h1, fun w u hm st2 rp => ?_⟩
    have h4' : Rp X.K s.W v x' := h4
    cases h4' <;> cases rp <;> first | (cases h2; done) | skip
    cases h2
    exact ⟨_, _, rfl, rfl, post _ u hm st2 ((en.mono st2).set i (x := .d (.int _)) (.int _))⟩
  · cases hg
theorem js_augS {i : Nat} {x : Str} {q : Pos} (hN : X.N.Nodup) (ha : JE X a ga) (hi : X.N[i]? = some x := by rfl) (hx : Loc X.env.scope x := by first | exact Or.inl rfl | exact Or.inr rfl)
    (hf : X.fn x = true ∨ X.env.scope.names.lookup x = some .local := by first | exact .inl rfl | exact .inr rfl) : JS X (.AugAssign (.Name x q) .Sub a pos) (gsAug i subD ga) := by
  refine ps_weak (ps_aug hN hi hx ha ip_sub hf) fun Z σ H h => ?_
  obtain ⟨e, s, o, A, rfl, en, hg, post⟩ := h
  unfold gsAug at hg
  split at hg
  · rename_i x' he
    obtain ⟨⟨d1, m1⟩, h1, hg⟩ := bind_some_iff hg
    obtain ⟨z, h2, hg⟩ := map_some_iff hg
    cases hg
    obtain ⟨v, h3, h4⟩ := en.get i _ he
    refine ⟨v, h3, e, s, d1, m1, A, rfl, en, h1, fun w u hm st2 rp => ?_⟩
    have h4' : Rp X.K s.W v x' := h4
    cases h4' <;> cases rp <;> first | (cases h2; done) | skip
    cases h2
    exact ⟨_, _, rfl, rfl, post _ u hm st2 ((en.mono st2).set i (x := .d (.int _)) (.int _))⟩
  · cases hg
theorem js_app {i : Nat} {x : Str} {q q2 q3 : Pos} (ha : JE X a ga) (hN : X.N[i]? = some x := by rfl) (hv : Vis X.env.scope x := by first | exact Or.inl rfl | exact Or.inr (Or.inl rfl) | exact Or.inr (Or.inr rfl)) (hd : (x == ("__debug__" : Str)) = false := by decide)
    (hcd : (x == ("__classdict__" : Str)) = false := by decide) (hbase : attributeBase (.Name x q) "append" X.env (eval (.Name x q) X.env) = eval (.Name x q) X.env := by rfl)
    (hfew : ((backTo q3 (starEach [a] X.env)).all (fun x => !x.1) && (backToKw q3 (keywordEach [] X.env)).all (fun x => x.1.isSome) && decide ([a].length + ([] : List Keyword).length + (if ([] : List Keyword).isEmpty then 0 else 1) < 30)) = true := by rfl)
    (hline : (q2.endLine == q3.line) = true := by rfl) (hs : starEach [a] X.env = (false, eval a X.env) :: starEach [] X.env := by rfl) (hplain : (backTo q3 (starEach [] X.env)).any (·.1) = false := by rfl)
    (hsw : swapsWith (.Call (.Attribute (.Name x q) "append" q2) [a] [] q3) none pos.line X.env = pure false := by rfl) : JS X (.Expr (.Call (.Attribute (.Name x q) "append" q2) [a] [] q3) pos) (gsApp i ga) := by
  refine ps_weak (ps_expr (pe_bm PySem.F.plainAttrs_list PySem.F.slot_list_append PySem.F.type_list_append mt_append (pe_var hN hv hd hcd) (pa_cons ha pa_nil hs) hbase hfew hline hs hplain) hsw) fun Z σ H h => ?_
  obtain ⟨e, s, o, A, rfl, en, hg, post⟩ := h
  unfold gsApp at hg
  split at hg
  · rename_i k he
    obtain ⟨p, e1, e2⟩ := mvar en he
    split at hg
    case h_2 => cases hg
    rename_i ws hk0
    obtain ⟨⟨d1, m1⟩, h1, hg⟩ := bind_some_iff hg
    split at hg
    · rename_i xs hk
      split at hg
      · rename_i hz
        cases hg
        refine ⟨.ref p, e1, ?_, e, s, d1, m1, A, rfl, en, h1, fun w u hm st2 rp => ?_⟩
        · obtain ⟨_, zs, h8, _⟩ := A.at_ k p ws e2 hk0
          exact .inl ⟨rfl, zs, .inl (.inl h8)⟩
        · obtain ⟨l, el⟩ := st2.pre
          have e3 : u.as[k]? = some p := by rw [el, List.getElem?_append_left (List.getElem?_eq_some_iff.mp e2).1]; exact e2
          have hk' : u.m[k]? = some (some xs) := by rw [hm]; exact hk
          obtain ⟨hw, ys, h6, h7⟩ := st2.a.at_ k p xs e3 hk'
          have st3 := stp_put (ys := ys ++ [w]) st2.a e3 hk' (h7.snoc rp)
          refine ⟨p, ys, w, rfl, rfl, h6, big_lt (by rw [h7.length]; exact hz), post σ _ ?_ (st2.trans st3) (en.mono (st2.trans st3))⟩
          show u.m.set k _ = _
          rw [hm]
      · cases hg
    · cases hg
  · cases hg
end
end Bs
/-! Sem5: loops, comprehensions, defs. -/
namespace Bs
open PySem PySem.Spec PyProof.Rows L2

section
variable {X : Cx} {a b c : Expr} {ga gb : GE} {pos p : Pos} {st : Stmt} {sts : List Stmt} {g g' : GS} {t : GT} {gl : GL}
theorem js_for {tg iter : Expr} {body : List Stmt} {src : GL} {gg : GG} {gb : GS} (hp : PassesOwn (model X.prog X.w) X.A X.env X.xe) (hi : JX X tg iter src) (hg : JG X tg gg) (hb : JSs X body gb) (hc : X.calm = true := by rfl)
    (hs : ∀ x, foldedSetIterable iter X.env x = pure x := by intro _; rfl) : JS X (.For tg iter body [] pos) (gsFor src gg gb) := by
  refine ps_weak (ps_for hp hc hi hg hb hs) fun Z σ H h => ?_
  obtain ⟨e, s, o, A, rfl, en, hg, post⟩ := h
  obtain ⟨⟨ds, m1⟩, h1, hg⟩ := bind_some_iff hg
  refine ⟨e, s, ds, m1, A, rfl, en, h1, fun J u hm st wk => ?_⟩
  refine ⟨fun i k σ' H' => k = ds.length - i ∧ i ≤ ds.length ∧ ∃ (e1 : En) (v : Sx), v.H = H' ∧ Stp X.K u v ∧ EnR X.K v σ' e1 ∧ forG gg gb (ds.drop i) e1 v.m = some o,
    ⟨ds.length, by simp, Nat.zero_le _, e, u, rfl, Stp.refl st.a, en.mono st, by rw [hm]; exact hg⟩, ?_⟩
  rintro i k σ' H' ⟨rfl, hi, e1, v, rfl, st2, en1, hf⟩
  by_cases hlt : i < ds.length
  · refine .inr ⟨wk.go i v hlt st2, fun σ2 H2 => i + 1 ≤ ds.length ∧ ∃ (e2 : En) (w : Sx), w.H = H2 ∧ Stp X.K u w ∧ EnR X.K w σ2 e2 ∧ forG gg gb (ds.drop (i + 1)) e2 w.m = some o,
      fun σ2 H2 h => ⟨ds.length - (i + 1), by omega, rfl, h⟩, fun x H2 y => ?_⟩
    obtain ⟨w, rfl, hwm, st3, rp⟩ := wk.yld i (ds[i]) v x H2 (List.getElem?_eq_getElem hlt) st2 y
    have ed : ds.drop i = ds[i] :: ds.drop (i + 1) := List.drop_eq_getElem_cons hlt
    rw [ed] at hf
    obtain ⟨⟨e2, m2⟩, h2, hf⟩ := bind_some_iff (show (gg ds[i] e1 v.m).bind _ = some o from hf)
    obtain ⟨o2, h3, hf⟩ := bind_some_iff hf
    refine ⟨e1, w, ds[i], e2, m2, st3.a, rfl, en1.mono st3, rp, by rw [hwm]; exact h2, fun σ2 w2 hm2 st4 en2 => ?_⟩
    refine ⟨e2, w2, o2, st4.a, rfl, en2, by rw [hm2]; exact h3, ?_⟩
    have st5 := (st2.trans st3).trans st4
    cases o2 with
    | nx e3 m3 => exact fun σ3 w3 hm3 st6 en3 => ⟨hlt, e3, w3, rfl, st5.trans st6, en3, by rw [hm3]; exact hf⟩
    | rt d m3 =>
      cases hf
      exact (post.mono (st.trans st5)).other (fun _ _ z => by cases z) rfl
    | rl d m3 =>
      cases hf
      exact (post.mono (st.trans st5)).other (fun _ _ z => by cases z) rfl
  · have ei : i = ds.length := by omega
    subst ei
    rw [List.drop_length] at hf
    cases hf
    exact .inl ⟨wk.stop v st2, post σ' v rfl (st.trans st2) en1⟩
theorem js_while {c : Expr} {body : List Stmt} {gb : GS} {fuel : En → Nat} (hp : PassesOwn (model X.prog X.w) X.A X.env X.xe) (hc : JT X c t) (hb : JSs X body gb) : JS X (.While c body [] pos) (gsWhile fuel t gb) := by
  refine ps_weak (ps_while hp hc hb) fun Z σ H h => ?_
  obtain ⟨e, s, o, A, rfl, en, hg, post⟩ := h
  refine ⟨fun k σ' H' => ∃ (e1 : En) (v : Sx), v.H = H' ∧ Stp X.K s v ∧ EnR X.K v σ' e1 ∧ whileG t gb k e1 v.m = some o, ⟨fuel e, e, s, rfl, Stp.refl A, en, hg⟩, ?_⟩
  rintro k σ' H' ⟨e1, v, rfl, st, en1, hf⟩
  cases k with
  | zero => cases hf
  | succ k =>
    obtain ⟨⟨d, m1⟩, h1, hf⟩ := bind_some_iff (show (t e1 v.m).bind _ = some o from hf)
    refine ⟨e1, v, d, m1, st.a, rfl, en1, h1, fun u hm st2 => ?_⟩
    cases d with
    | true =>
      obtain ⟨o2, h3, hf⟩ := bind_some_iff (show (gb e1 m1).bind _ = some o from hf)
      show ∃ N : L2.St → Hp → Prop, _
      refine ⟨fun σ2 H2 => ∃ (e2 : En) (w : Sx), w.H = H2 ∧ Stp X.K s w ∧ EnR X.K w σ2 e2 ∧ whileG t gb k e2 w.m = some o, fun σ2 H2 h => ⟨k, Nat.lt_succ_self k, h⟩, ?_⟩
      refine ⟨e1, u, o2, st2.a, rfl, en1.mono st2, by rw [hm]; exact h3, ?_⟩
      cases o2 with
      | nx e3 m3 => exact fun σ3 w3 hm3 st6 en3 => ⟨e3, w3, rfl, (st.trans st2).trans st6, en3, by rw [hm3]; exact hf⟩
      | rt d m3 =>
        cases hf
        exact (post.mono (st.trans st2)).other (fun _ _ z => by cases z) rfl
      | rl d m3 =>
        cases hf
        exact (post.mono (st.trans st2)).other (fun _ _ z => by cases z) rfl
    | false =>
      have hf' : some (Out.nx e1 m1) = some o := hf
      cases hf'
      exact post σ' u hm (st.trans st2) (en1.mono st2)
/-! ### comprehensions -/
structure JI (X : Cx) (ifs : List Expr) (t : GT) : Prop where
  p : PTs X ifs (tT X.K t)
theorem ji_nil : JI X [] gtYes := by
  refine ⟨⟨fun pins s σ H Q I h => ?_⟩⟩
  refine pts_nil.run pins s σ H Q I ?_
  obtain ⟨e, s, o, m', A, rfl, en, hg, post⟩ := h
  cases hg
  exact post s rfl (Stp.refl A)
theorem ji_one (h : JT X c t) : JI X [c] t := ⟨pts_one h⟩
theorem comp_core {K : PySem.W.Frag} {src : GL} {j : Nat} {vs : List Nat} {y : GE} (hj : vs = [j]) {σ : L2.St} {H : Hp} {Q : VK} (h : tL K (glLc src j vs t y) σ H Q) : tLc (tX K src) (gName j) (tT K t) (tE K y) vs σ H Q := by
  obtain ⟨e, s, o, m', A, rfl, en, hg, post⟩ := h
  obtain ⟨⟨ds, m1⟩, h1, hg⟩ := bind_some_iff hg
  refine ⟨e, s, ds, m1, A, rfl, en, h1, fun J u hm st wk => ?_⟩
  intro Dl hD
  refine ⟨fun i k H' => k = ds.length - i ∧ i ≤ ds.length ∧ ∃ (v : Sx) (acc : List V) (da : List D), v.H = H' ∧ Stp K u v ∧ v.H Dl = some (.lst acc) ∧ v.W Dl = none ∧ Dl ∉ v.as ∧ Rps K v.W acc da ∧ compG (wipeE e vs) j t y (ds.drop i) v.m da = some (o, m'), ⟨ds.length, by simp, Nat.zero_le _, ?_⟩, ?_⟩
  · have st2 := stp_own (o := .lst []) st.a hD
    exact ⟨{ u with H := upd u.H Dl (.lst []) }, [], [], rfl, st2, upd_same, st.a.free hD, st.a.notAs hD, .nil, by show compG (wipeE e vs) j t y ds u.m [] = _; rw [hm]; exact hg⟩
  · rintro i k H' ⟨rfl, hi, v, acc, da, rfl, st2, hp, hw, ha, rp, hf⟩
    by_cases hlt : i < ds.length
    · refine .inr ⟨wk.go i v hlt st2, fun H2 => i + 1 ≤ ds.length ∧ ∃ (v : Sx) (acc : List V) (da : List D), v.H = H2 ∧ Stp K u v ∧ v.H Dl = some (.lst acc) ∧ v.W Dl = none ∧ Dl ∉ v.as ∧ Rps K v.W acc da ∧ compG (wipeE e vs) j t y (ds.drop (i + 1)) v.m da = some (o, m'),
        fun H2 h => ⟨ds.length - (i + 1), by omega, rfl, h⟩, fun x H2 yl => ?_⟩
      obtain ⟨w, rfl, hwm, st3, rx⟩ := wk.yld i (ds[i]) v x H2 (List.getElem?_eq_getElem hlt) st2 yl
      have ed : ds.drop i = ds[i] :: ds.drop (i + 1) := List.drop_eq_getElem_cons hlt
      rw [ed] at hf
      have st5 := st2.trans st3
      have enw : EnR K w ((wipe σ vs).set j (some x)) ((wipeE e vs).set j (some (.d ds[i]))) := ((en.mono (st.trans st5)).wipe vs).set j (x := .d ds[i]) rx
      refine ⟨?_, ?_⟩
      · subst hj
        show ((σ.set j none).set j (some x)).set j none = σ.set j none
        rw [List.set_set, List.set_set]
      · obtain ⟨⟨k, m2⟩, h2, hf⟩ := bind_some_iff (show (t _ v.m).bind _ = some (o, m') from hf)
        refine ⟨_, w, k, m2, st3.a, rfl, enw, by rw [hwm]; exact h2, fun u2 hm2 st6 => ?_⟩
        obtain ⟨hp3, hw3, ha3⟩ := st3.apart hp hw ha
        obtain ⟨hp6, hw6, ha6⟩ := st6.apart hp3 hw3 ha3
        cases k with
        | true =>
          obtain ⟨⟨d, m3⟩, h3, hf⟩ := bind_some_iff (show (y _ m2).bind _ = some (o, m') from hf)
          refine iteT ?_
          refine ⟨_, u2, d, m3, st6.a, rfl, enw.mono st6, by rw [hm2]; exact h3, fun z u3 hm3 st7 rz => ?_⟩
          have hf' : (if da.length < big then compG (wipeE e vs) j t y (ds.drop (i + 1)) m3 (da ++ [d]) else none) = some (o, m') := hf
          split at hf'
          · rename_i hz
            obtain ⟨hp7, hw7, ha7⟩ := st7.apart hp6 hw6 ha6
            have st8 := (st5.trans st6).trans st7
            refine ⟨acc, hp7, big_lt (by rw [rp.length]; exact hz), hlt, { u3 with H := upd u3.H Dl (.lst (acc ++ [z])) }, acc ++ [z], da ++ [d], rfl, st8.mut hD hp7 hw7 ha7, upd_same, hw7, ha7, ?_, by show compG _ _ _ _ _ u3.m _ = _; rw [hm3]; exact hf'⟩
            exact (((rp.mono st3.ex).mono st6.ex).mono st7.ex).snoc rz
          · cases hf'
        | false =>
          have hf' : compG (wipeE e vs) j t y (ds.drop (i + 1)) m2 da = some (o, m') := hf
          refine iteF ?_
          exact ⟨hlt, u2, acc, da, rfl, st5.trans st6, hp6, hw6, ha6, (rp.mono st3.ex).mono st6.ex, by rw [hm2]; exact hf'⟩
    · have ei : i = ds.length := by omega
      subst ei
      rw [List.drop_length] at hf
      have hf' : some (da, v.m) = some (o, m') := hf
      cases hf'
      exact .inl ⟨wk.stop v st2, post Dl acc v rfl (st.trans st2) (st.fresh hD) hp hw ha rp⟩
theorem jl_lc {elt iter : Expr} {ifs : List Expr} {scope : Scope} {j : Nat} {x : Str} {px : Pos} {src : GL} {y : GE} (hN : X.N.Nodup) (hi : JX X (.Name x px) iter src) (ok : BlkOk X.N X.env.scope scope [(x, j)])
    (ht : ∀ (s : Shared) (H : Hp) (C : Addr) (cl : List (Str × Addr)) (fp : List Addr), JI (X.blk s H scope (compEnvC scope cl C X.env) fp) ifs t) (he : ∀ (s : Shared) (H : Hp) (C : Addr) (cl : List (Str × Addr)) (fp : List Addr), JE (X.blk s H scope (compEnvC scope cl C X.env) fp) elt y)
    (hc : X.calm = true := by rfl) (hg : ∀ (s : Shared) (H : Hp) (C : Addr) (cl : List (Str × Addr)) (fp : List Addr), PG (X.blk s H scope (compEnvC scope cl C X.env) fp) (.Name x px) (gName j) := by exact fun _ _ _ _ _ => pg_name (by assumption) rfl (Or.inl rfl))
    (hs : ∀ x, foldedSetIterable iter X.env x = pure x := by intro _; rfl) : JL X (.ListComp elt [⟨.Name x px, iter, ifs, 0⟩] scope pos) (glLc src j [j] t y) :=
  pe_weak (pe_lc (tt := tT X.K t) (te := tE X.K y) hc hN hi ok hg (fun s H C cl fp => (ht s H C cl fp).p) he hs) fun σ H Q h => comp_core rfl h
/-- name = [..] on one line -/
theorem js_setLc {elt iter : Expr} {ifs : List Expr} {scope : Scope} {i j : Nat} {x z : Str} {px pz spos : Pos} {src : GL} {y : GE} (hN : X.N.Nodup) (hi : JX X (.Name x px) iter src) (ok : BlkOk X.N X.env.scope scope [(x, j)])
    (ht : ∀ (s : Shared) (H : Hp) (C : Addr) (cl : List (Str × Addr)) (fp : List Addr), JI (X.blk s H scope (compEnvC scope cl C X.env) fp) ifs t) (he : ∀ (s : Shared) (H : Hp) (C : Addr) (cl : List (Str × Addr)) (fp : List Addr), JE (X.blk s H scope (compEnvC scope cl C X.env) fp) elt y)
    (hz : X.N[i]? = some z := by rfl) (hzl : X.env.scope.names.lookup z = some .local := by rfl) (hsw : swapsWith (.ListComp elt [⟨.Name x px, iter, ifs, 0⟩] scope pos) (some (.Name z pz)) spos.line X.env = pure true := by exact sw_true rfl rfl rfl (by decide +kernel))
    (hc : X.calm = true := by rfl) (hg : ∀ (s : Shared) (H : Hp) (C : Addr) (cl : List (Str × Addr)) (fp : List Addr), PG (X.blk s H scope (compEnvC scope cl C X.env) fp) (.Name x px) (gName j) := by exact fun _ _ _ _ _ => pg_name (by assumption) rfl (Or.inl rfl))
    (hs : ∀ x, foldedSetIterable iter X.env x = pure x := by intro _; rfl) : JS X (.Assign [.Name z pz] (.ListComp elt [⟨.Name x px, iter, ifs, 0⟩] scope pos) spos) (gsAsg (gList (glLc src j [j] t y)) (ggN i)) := by
  refine ps_weak (ps_setLc (tt := tT X.K t) (te := tE X.K y) hc hN hz hzl hsw hi ok hg (fun s H C cl fp => (ht s H C cl fp).p) he hs) fun Z σ H h => ?_
  obtain ⟨e, s, o, A, rfl, en, hg, post⟩ := h
  obtain ⟨⟨d, m1⟩, h3, hg⟩ := bind_some_iff hg
  obtain ⟨⟨e1, m2⟩, h4, hg⟩ := map_some_iff hg
  cases hg
  cases h4
  obtain ⟨⟨ds, m3⟩, h5, h6⟩ := map_some_iff h3
  cases h6
  refine comp_core rfl ⟨e, s, ds, m3, A, rfl, en, h5, fun p xs u hm st hn hp hw ha rp => ?_⟩
  have st2 := st.frz hn hp hw ha
  exact post (σ.set i (some (.ref p))) { u with W := upd u.W p (.lst xs) } hm st2 ((en.mono st2).set i (x := .d (.list ds)) (.lst (.inl upd_same) (rp.mono (same_new hw))))
end

/-! ### defs -/
section
variable {P : Program} {w : World} {K : PySem.W.Frag} {mg : Str → Option Value} {base : Heap}
theorem stp_cut {s u : Sx} (a : At K s) (h : Stp K s u) : Stp K s { u with as := s.as, m := u.m.take s.m.length } := by
  obtain ⟨l, el⟩ := h.pre
  have hl : u.m.length = s.as.length + l.length := by rw [← h.a.len, el, List.length_append]
  refine ⟨⟨h.a.sub, ?_, a.nd, fun p hp => ?_, fun k p ds e1 e2 => ?_⟩, h.ex, ⟨[], by simp⟩, h.fr, fun b q => ?_⟩
  · show s.as.length = (u.m.take s.m.length).length
    rw [List.length_take, hl, a.len]
    omega
  · rcases h.a.tr p (by rw [el]; exact List.mem_append_left _ hp) with ⟨k, ds, e1, e2⟩ | z
    · left
      obtain ⟨i, hi⟩ := List.getElem?_of_mem hp
      have hil : i < s.as.length := (List.getElem?_eq_some_iff.mp hi).1
      have e3 : u.as[i]? = some p := by rw [el, List.getElem?_append_left hil]; exact hi
      have ek : k = i := nodup_ixA h.a.nd e1 e3
      subst ek
      exact ⟨k, ds, hi, by show (u.m.take s.m.length)[k]? = _; rw [List.getElem?_take_of_lt (by rw [← a.len]; exact hil)]; exact e2⟩
    · exact .inr z
  · have e2' : (u.m.take s.m.length)[k]? = some (some ds) := e2
    have hk : k < s.m.length := by
      have := (List.getElem?_eq_some_iff.mp e1).1
      rw [← a.len]
      exact this
    rw [List.getElem?_take_of_lt hk] at e2'
    exact h.a.at_ k p ds (by rw [el, List.getElem?_append_left (List.getElem?_eq_some_iff.mp e1).1]; exact e1) e2'
  · rcases q with q | q
    · exact h.fs b (.inl q)
    · exact a.old q
theorem en_start {s : Sx} {ss : List Sl} {vs : List V} (n : Nat) (r : Paired (SlR K s) ss vs) : EnR K s (vs.map some ++ List.replicate (n - vs.length) none) (ss.map some ++ List.replicate (n - ss.length) none) := by
  have hl := paired_len r
  refine ⟨by simp [hl], fun i x h => ?_⟩
  by_cases hi : i < ss.length
  · rw [List.getElem?_append_left (by simpa using hi), List.getElem?_map] at h
    obtain ⟨y, h1, h2⟩ := map_some_iff h
    have h2' : y = x := Option.some.inj h2
    subst h2'
    obtain ⟨v, h3, h4⟩ := paired_at r h1
    exact ⟨v, by rw [List.getElem?_append_left (by rw [List.length_map, ← hl]; exact hi), List.getElem?_map, h3] <;> rfl, h4⟩
  · rw [List.getElem?_append_right (by simpa using hi)] at h
    have := List.mem_of_getElem? h
    simp at this
where
  paired_at {α β : Type} {R : α → β → Prop} : ∀ {xs : List α} {ys : List β} {i : Nat} {x : α}, Paired R xs ys → xs[i]? = some x → ∃ y, ys[i]? = some y ∧ R x y
    | _, _, _, _, .nil, e => by simp at e
    | _, _, 0, _, .cons r _, e => by
      have q := Option.some.inj e
      subst q
      exact ⟨_, rfl, r⟩
    | _, _, i + 1, x, .cons _ t, e => by
      obtain ⟨u, h1, h2⟩ := paired_at (i := i) (x := x) t (by simpa using e)
      exact ⟨u, by simpa using h1, h2⟩
/-- a body's reading at a call -/
theorem body_of {s : Sx} {ss : List Sl} {vs : List V} {d : D} {m' : Mm} {g : GS} {n : Nat} (a : At K s) (r : Paired (SlR K s) ss vs) (h : runB n g ss s.m = some (d, m')) {Q : VK} (q : ∀ v u, u.m = m' → u.as = s.as → Stp K s u → Rp K u.W v d → Q v u.H) :
    tS K g { nx := fun _ H' => Q .non H', rt := Q } (vs.map some ++ List.replicate (n - vs.length) none) s.H := by
  obtain ⟨o, h1, h2⟩ := bind_some_iff h
  refine ⟨_, s, o, a, rfl, en_start n r, h1, ?_⟩
  have cut : ∀ (v : V) (u : Sx) (m1 : Mm), u.m = m1 → Stp K s u → m1.take s.m.length = m' → Rp K u.W v d → Q v u.H := fun v u m1 hm st e rp => by
    subst hm
    exact q v { u with as := s.as, m := u.m.take s.m.length } e rfl (stp_cut a st) rp
  cases o with
  | nx e1 m1 =>
    cases h2
    exact fun σ' u hm st en => cut .non u m1 hm st rfl .non
  | rt x m1 =>
    cases h2
    exact fun v u hm st rp => cut v u m1 hm st rfl rp
  | rl xs m1 =>
    cases h2
    exact fun p ys u hm st hn hp hw ha rp => cut (.ref p) { u with W := upd u.W p (.lst ys) } m1 hm (st.frz hn hp hw ha) rfl (.lst (.inl upd_same) (rp.mono (same_new hw)))
/-- where a def stands -/
structure DefAt (K : PySem.W.Frag) (mg : Str → Option Value) (x : Str) (st : Stmt) (ps : List Str) : Prop where
  ex : ∃ f fd, FunD K x x (defArgs st) (defBody st) (defScope st) [] [] f fd ∧ mg x = some (.ref f) ∧ Binds K fd ps []
theorem funD_look {x : Str} {ar : Arguments} {bd : List Stmt} {sc : Scope} {dvs : List V} {kws : List (Str × V)} {f : Addr} {fd : FuncData} (F : FunD K x x ar bd sc dvs kws f fd) : ∃ oc od osl, K.lookup f = some ⟨oc, od, .func fd, osl⟩ := by
  obtain ⟨oc, od, _, _, _, _, _, _, _, osl, _, lk, _⟩ := F.ex
  exact ⟨oc, od, osl, lk⟩
theorem okfn {x : Str} {st : Stmt} {sc : Scope} (N : List Str) {ps : List Str} {k : Nat} {n : Nat} (hnn : N.length = n) (g : GS) (F : DefAt K mg x st ps) (hsc : defScope st = sc) (S : FnScope N ps sc)
    (hb : ∀ (f : Addr) (cdv : Value) (A : Around) (outer : List Env) (s : Shared) (H : Hp) (E : XK), Room k (A.deeper (envOfC x sc s.heap.objs.size f cdv)) → JSs (cxOf CX0 P w K mg base N x sc f cdv A outer s H E).nox (defBody st) g) :
    OkFn P w K mg base x ps (k + 1) (runB n g) := by
  subst hnn
  subst hsc
  obtain ⟨f, fd, F, hm, hB⟩ := F.ex
  refine ⟨f, fd, hm, F.kp, hB, F.ok S (fun vs H Q E h => ?_) (fun cdv A outer s H vs Q E hr h => ?_), funD_look F⟩
  · obtain ⟨s, ss, d, m', hl, _, _, r, _⟩ := h
    rw [← paired_len r]
    exact hl
  · obtain ⟨z, ss, d, m', hl, a, rfl, r, hF, q⟩ := h
    exact ⟨tS K g, (hb f cdv A outer s z.H E hr).nox, body_of a r hF q⟩
/-- a def that is never come to -/
theorem okfn0 {x : Str} {st : Stmt} {ps : List Str} {k : Nat} (F : DefAt K mg x st ps) : OkFn P w K mg base x ps k failF := by
  obtain ⟨f, fd, F, hm, hB⟩ := F.ex
  refine ⟨f, fd, hm, F.kp, hB, ⟨fun vs H Q E h => ?_, fun A outer s H args us vs Q E hr he hb hv h => ?_⟩, funD_look F⟩
  · obtain ⟨s, ss, d, m', hl, _, _, r, hF, _⟩ := h
    cases hF
  · obtain ⟨s, ss, d, m', hl, _, _, r, hF, _⟩ := h
    cases hF
theorem OkFn.mono {x : Str} {ps : List Str} {j k : Nat} {F : Fn} (h : OkFn P w K mg base x ps j F) (hk : j ≤ k) : OkFn P w K mg base x ps k F := by
  obtain ⟨f, fd, h1, h2, h3, h4, h5⟩ := h.ex
  exact ⟨f, fd, h1, h2, h3, h4.mono hk, h5⟩
end
end Bs
/-! Sem6: enumerate of a tuple, t[a::2], repr of data, calls by keywords alone. -/
namespace Bs
open PySem PySem.Spec PyProof.Rows L2

/-! ### enumerate(t) -/
section
variable {prog : Program} {w : World} {A : Around} {E : Value → Shared → Prop} {s : Shared}
abbrev enumRec (p : Addr) : Obj := { cls := .type "enumerate", data := .fields #[.none, .bool false, .ref p, rawInt 0, .none, .none] }
abbrev tupIt (t : Addr) : Obj := { cls := .type "tuple_iterator", data := .fields #[.ref t, .int 0 0] }
theorem meets_enumT (t : Addr) (items : Array Value) : Meets (Builtin.«enumerate.__new__» ⟨[.type "enumerate", .ref t], []⟩) (fun _ R s => s.heap.IsTuple t items ∧
      R (.ok (.ret (.ref (s.heap.push (tupIt t)).objs.size))) { s with heap := (s.heap.push (tupIt t)).push (enumRec s.heap.objs.size) }) :=
  .of_wp fun prog w A R s hh => by
    obtain ⟨hp, g, d, tk, os⟩ := s
    obtain ⟨ht, h⟩ := hh
    have hsub := sub_enumerate
    have q1 : ∀ {A' : Around} {E : Value → Shared → Prop} {Q : Value → Shared → Prop}, Q (.ref hp.objs.size) ⟨hp.push (tupIt t), g, d, tk, os⟩ → wpAny (model prog w) A' (pyIter (.ref t)) Q E ⟨hp, g, d, tk, os⟩ :=
      fun q => wpAny_pyIter_tuple ht q
    wp_walk using q1
    refine wpAny_stack_any fun st => wpAny_pure ?_
    split
    · rename_i c _ _ _ _ _
      cases (c == Value.type "enumerate") <;> (wp_walk using q1) <;> exact ⟨_, rfl, h⟩
    · wp_walk using q1
      exact ⟨_, rfl, h⟩
theorem call_enumT {t : Addr} {items : Array Value} {Q : Value → Shared → Prop} (hT : s.heap.IsTuple t items)
    (h : ∀ h', IsEnum h' (s.heap.objs.size + 1) s.heap.objs.size 0 .none → h'.IsTupleIter s.heap.objs.size t 0 → h'.objs.size = s.heap.objs.size + 2 → (∀ b o, s.heap.get? b = some o → h'.get? b = some o) → Q (.ref (s.heap.objs.size + 1)) { s with heap := h' }) :
    wpAny (model prog w) A (call (.type "enumerate") [.ref t]) Q E s := by
  refine callType_new F.called_enumerate (by decide) (F.typeCall_enumerate_1 _) (F.newCall_enumerate_1 _) (fun obj => F.args_object_init_2 obj _) F.entry_enumerate_new (meets_enumT t items) ⟨hT, ?_⟩
  have hz : (s.heap.push (tupIt t)).objs.size = s.heap.objs.size + 1 := Heap.size_push ..
  show _ ∧ _
  rw [hz]
  have he : IsEnum ((s.heap.push (tupIt t)).push (enumRec s.heap.objs.size)) (s.heap.objs.size + 1) s.heap.objs.size 0 .none := by
    have z := Heap.get?_push_size (s.heap.push (tupIt t)) (o := enumRec s.heap.objs.size) rfl
    rw [hz] at z
    exact z
  refine ⟨⟨_, he, rfl⟩, h _ he ⟨_, Heap.get?_push_of_some _ (Heap.get?_push_size _ rfl), rfl, rfl⟩ (by rw [Heap.size_push, hz]) fun b o x => Heap.get?_push_of_some _ (Heap.get?_push_of_some _ x)⟩
end
/-- the tuple at a, each item in a new pair -/
def IteT (K : PySem.W.Frag) (a : Addr) : It :=
  ⟨fun i H => ∃ (xs : List V) (x : V), SqT K H a xs ∧ xs[i]? = some x, fun i H v H' => ∃ T x, v = .ref T ∧ H T = none ∧ H' = upd H T (.tup [.int (i : Nat), x]) ∧ ∀ xs, SqT K H a xs → xs[i]? = some x, fun i H => ∃ xs : List V, SqT K H a xs ∧ xs.length = i⟩
theorem turn_enumT {P : Program} {w : World} {K : PySem.W.Frag} {elts : List Expr} {kk : Nat} {tpos : Pos} (a e it : Addr) :
    Turn P w K (.Tuple elts kk tpos) (IteT K a) [e, it] e (fun i h => (∃ old, IsEnum h e it ((i : Nat) : Int) old) ∧ h.IsTupleIter it a i ∧ e ≠ it ∧ a ≠ it ∧ a ≠ e) where
  mem := by simp
  obj := fun i h st b hb => by
    obtain ⟨⟨old, he⟩, ⟨o, ho, hc, hd⟩, _⟩ := st
    have e' : b = e ∨ b = it := by simpa using hb
    rcases e' with z | z
    · rw [z]; exact ⟨_, he, fun v q => nomatch q⟩
    · rw [z]; exact ⟨o, ho, fun v q => by rw [hd] at q; cases q⟩
  keep := fun i h h' st k => let ⟨⟨old, he⟩, hi, hne⟩ := st; ⟨⟨old, k e (by simp) _ he⟩, hi.at fun o q => k it (by simp) o q, hne⟩
  item := by
    intro X hP hw hK hc i pins s σ H E I hf st hg
    subst hP hw hK
    obtain ⟨⟨old, he⟩, hit, hne, hai, hae⟩ := st
    obtain ⟨xs, x, hq, hx⟩ := hg
    obtain ⟨its, rv, p, hz⟩ := I.tuple hq
    obtain ⟨u, hu, ru⟩ := rv.get hx
    have hel : e < s.heap.objs.size := Heap.lt_size he
    have hil : it < s.heap.objs.size := by obtain ⟨_, q, _⟩ := hit; exact Heap.lt_size q
    have Dr := Draws.tuple (prog := X.prog) (w := X.w) (A := X.A.in1) (show X.A.in1.handled = none from I.ok.hd hc) it a hai its.toArray
    have hil2 : i < its.toArray.size := by
      have := (List.getElem?_eq_some_iff.mp hu).1
      simpa using this
    refine wpAny_pyNext_enum_itemD Dr he ⟨hit, p⟩ hil2 hne (by simp [hne, Ne.symm hae]) fun x' h' tk hP ho hit' hT hsz hk => ?_
    have ex : x' = u := by
      have h1 : its.toArray[i]? = some x' := hP
      rw [show its.toArray[i]? = some u by simpa using hu] at h1
      exact (Option.some.inj h1).symm
    subst ex
    refine ⟨_, rfl, wpAny_letOwnedTupleGo_enum (s := { s with heap := h', toks := tk + 1 }) ho fun h'' he' sb => ?_⟩
    have hT2 : h''.get? s.heap.objs.size = some { cls := .type "tuple", data := .seq #[.int i tk, x'] } := (sb.2 _ (Nat.ne_of_gt hel)).trans hT
    have new : ObjOk X.prog X.w (upd H s.heap.objs.size (.tup [.int (i : Nat), x])) h'' s.heap.objs.size (.tup [.int (i : Nat), x]) :=
      ⟨by show 2 ≤ sizeLine; decide, [.int i tk, x'], .cons ⟨_, rfl⟩ (.cons ru .nil), ⟨_, hT2, rfl, _, rfl⟩⟩
    have I1 : Inv X pins σ (upd H s.heap.objs.size (.tup [.int (i : Nat), x])) { s with heap := h'', toks := tk + 1 } :=
      I.turnedNew (ch := [e, it]) (fun b ob hb q => (sb.2 b (fun z => hb (by simp [z]))).trans (hk b ob (fun z => hb (by simp [z])) (fun z => hb (by simp [z])) q)) hf (Nat.le_refl _) new
    refine ⟨.ref s.heap.objs.size, _, I1, rfl, ⟨_, x, rfl, I.hok.fresh (Nat.le_refl _), rfl, fun ys hy => by rw [I.tuple_inj hy hq]; exact hx⟩, ⟨⟨x', ?_⟩, hit'.1.at fun o q => (sb.2 it (Ne.symm hne)).trans q, hne, hai, hae⟩, fun b hb => ?_⟩
    · have e1 : ((i + 1 : Nat) : Int) = (i : Int) + 1 := by omega
      rw [e1]
      exact he'
    · have hb' : b < s.heap.objs.size := by
        have e' : b = e ∨ b = it := by simpa using hb
        rcases e' with z | z
        · rw [z]; exact hel
        · rw [z]; exact hil
      rw [upd_ne (Nat.ne_of_lt hb')]
      exact (hf b hb).1
  done := by
    intro X hP hw hK hc i pins s σ H E I hf st hg
    subst hP hw hK
    obtain ⟨⟨old, he⟩, hit, hne, hai, hae⟩ := st
    obtain ⟨xs, hq, hx⟩ := hg
    obtain ⟨its, rv, p, hz⟩ := I.tuple hq
    obtain ⟨f0, f1, f2, f3, f4, f5⟩ := hf it (by simp)
    have hl := rv.length
    have Dr := Draws.tuple (prog := X.prog) (w := X.w) (A := X.A.in1) (show X.A.in1.handled = none from I.ok.hd hc) it a hai its.toArray
    have ei : i = its.toArray.size := by
      rw [List.size_toArray, ← hl]
      exact hx.symm
    subst ei
    exact wpAny_pyNext_enum_endD Dr he ⟨hit, p⟩ fun h' eb => ⟨rfl, I.turned (t' := s.toks) (fun b o hb q => eb b o hb q) f0 f1 f3 f4 f5⟩
  self := fun A i s Q E st h => let ⟨⟨_, he⟩, _⟩ := st; wpAny_pyIter_enum he h
def iEnumT (K : PySem.W.Frag) (ta : TA) : TI := fun σ H R => ta σ H fun vs H1 => ∃ a xs, vs = [.ref a] ∧ SqT K H1 a xs ∧ R (IteT K a) H1
theorem pi_enumT {X : Cx} {e : Expr} {ta : TA} {p pos tpos : Pos} {elts : List Expr} {kk : Nat} (hg : Gl X "enumerate") (hm : X.mg "enumerate" = none) (ha : PA X [e] ta) (hs : starEach [e] X.env = [(false, eval e X.env)] := by rfl) :
    PI X (.Tuple elts kk tpos) (.Call (.Name "enumerate" p) [e] [] pos) (iEnumT X.K ta) := by
  refine ⟨fun pins s σ H R I h => ?_⟩
  refine Call_ (ld_blt I hg hm boot_enumerate (PyProof.Rows.callWith_type1 (thn (ha.run pos pins s σ H _ I h) fun us s1 ⟨vs, H1, I1, r1, q1⟩ => ?_) hs rfl))
  obtain ⟨a, xs, rfl, hq, q⟩ := q1
  obtain ⟨u, rfl, rx⟩ := vals1 r1
  cases rx
  obtain ⟨its, rv, p', hz⟩ := I1.tuple hq
  refine call_enumT p' fun h' he hit hsz hk => wpAny_pyIter_enum he ?_
  have al : a < s1.heap.objs.size := p'.lt
  have I2 : Inv X pins σ H1 { s1 with heap := h' } := I1.kept (t' := s1.toks) hk
  refine ⟨s1.heap.objs.size + 1, [s1.heap.objs.size + 1, s1.heap.objs.size], _, _, H1, rfl, I2, turn_enumT a (s1.heap.objs.size + 1) s1.heap.objs.size, ⟨⟨.none, he⟩, hit, Nat.succ_ne_self _, Nat.ne_of_lt al, Nat.ne_of_lt (Nat.lt_succ_of_lt al)⟩, fun b hb => ?_, q⟩
  have hle : s1.heap.objs.size ≤ b := by
    rcases List.mem_cons.mp hb with z | z
    · rw [z]; exact Nat.le_add_right _ _
    · rw [List.mem_singleton.mp z]; exact Nat.le_refl _
  exact I1.fpOk hle (I1.hok.fresh hle)
theorem wk_enumT {K : PySem.W.Frag} {a : Addr} {xs : List V} {ds : List D} {u : Sx} (h : SqT K u.W a xs) (r : Rps K u.W xs ds) : WkOk K (IteT K a) (enumD ds) u := by
  have hl : (enumD ds).length = ds.length := by simp [enumD]
  refine ⟨fun i v hi st => ?_, fun v st => ?_, fun i d v x H' hd st y => ?_⟩
  · rw [hl] at hi
    exact ⟨xs, xs[i]'(by rw [r.length]; exact hi), sqt_mono st.a.sub (sqt_mono st.ex h), by simp⟩
  · exact ⟨xs, sqt_mono st.a.sub (sqt_mono st.ex h), by rw [hl, r.length]⟩
  · obtain ⟨T, z, rfl, hT, rfl, y⟩ := y
    have hz := y xs (sqt_mono st.a.sub (sqt_mono st.ex h))
    obtain ⟨d0, h1, h2⟩ := r.getV hz
    have ed : d = .tuple [.int (i : Nat), d0] := by
      have hd' : (ds.zipIdx.map fun p => PyData.tuple [.int (p.2 : Nat), p.1])[i]? = some d := hd
      rw [List.getElem?_map, List.getElem?_zipIdx, h1] at hd'
      have := Option.some.inj hd'
      rw [← this]
      simp
    subst ed
    have st2 := stp_new (o := .tup [.int (i : Nat), z]) st.a hT
    exact ⟨{ v with W := upd v.W T (.tup [.int (i : Nat), z]), H := upd v.H T (.tup [.int (i : Nat), z]) }, rfl, rfl, st2, .tup (.inl (.inl upd_same)) (.cons (.int _) (.cons (h2.mono (st.ex.trans st2.ex)) .nil))⟩
section
variable {X : Cx} {a b c : Expr} {ga gb : GE} {pos p : Pos} {es : List Expr}
theorem jx_enum {tpos : Pos} {elts : List Expr} {kk : Nat} (ha : JE X a ga) (hm : X.mg "enumerate" = none) (hg : Gl X "enumerate" := by rfl) (hs : starEach [a] X.env = [(false, eval a X.env)] := by rfl) : JX X (.Tuple elts kk tpos) (.Call (.Name "enumerate" p) [a] [] pos) (gxE ga) := by
  refine pi_weak (pi_enumT hg hm (pa_cons ha pa_nil hs) hs) fun σ H R h => ?_
  obtain ⟨e, s, ds, m', A, rfl, en, hg, post⟩ := h
  obtain ⟨⟨d1, m1⟩, h1, hg⟩ := bind_some_iff hg
  refine ⟨e, s, d1, m1, A, rfl, en, h1, fun v u hm st rp => ?_⟩
  cases rp with
  | @tup p xs ds h4 r4 =>
    cases hg
    exact ⟨p, xs, rfl, sqt_mono st.a.sub h4, post _ u hm st (wk_enumT h4 r4)⟩
  | _ => cases hg
end

/-! ### repr of data, where nothing is being shown -/
def rRepr (K : PySem.W.Frag) : List V → Hp → VK → Prop := fun xs H Q => ∃ a d, xs = [.ref a] ∧ Dp K H (.ref a) d ∧ d.showable = true ∧ d.hasDict = false ∧ d.depth ≤ 60 ∧ d.shown.length ≤ sizeLine ∧ Q (.str d.shown) H
theorem call_reprD {X : Cx} (hg : X.A.guards = some []) (hu : X.A.units + 64 < cLine) : CallR X (.builtin "repr") (rRepr X.K) := by
  intro pins s σ H xs us Q I r h
  obtain ⟨a, d, rfl, hd, h1, h2, h3, h4, q⟩ := h
  obtain ⟨u, rfl, rx⟩ := vals1 r
  obtain ⟨as, rd⟩ := Dp.reads I d _ u hd rx
  cases rx
  exact repr_of_reads' rd h1 (PyData.noDict_hsm h2) hg (by omega) (fun _ _ e => e) (fun h' u tk hk => ⟨.str d.shown, H, I.kept (t' := tk) hk, ⟨_, rfl⟩, q⟩) h4
theorem c1_repr {K : PySem.W.Frag} : C1ok K (rRepr K) reprD := by
  intro s x d v a rx e Q post
  have key : ∀ (y : D), (∃ p, v = .ref p) → Rp K s.W v y → (if y.showable = true ∧ y.hasDict = false ∧ y.depth ≤ 60 ∧ y.shown.length ≤ sizeLine then some (PyData.str y.shown) else none) = some d → rRepr K [v] s.H Q := fun y hv r e => by
    obtain ⟨p, rfl⟩ := hv
    split at e
    · rename_i h
      cases e
      exact ⟨p, y, rfl, (r.mono a.sub).dp h.2.1, h.1, h.2.1, h.2.2.1, h.2.2.2, keepQ a post (.str _)⟩
    · cases e
  cases rx with
  | lst h r => exact key _ ⟨_, rfl⟩ (.lst h r) e
  | tup h r => exact key _ ⟨_, rfl⟩ (.tup h r) e
  | _ => cases e

/-! ### t[i::2] -/
section
variable {prog : Program} {w : World} {A : Around} {E : Value → Shared → Prop} {s : Shared}
theorem pick_fun {α : Type} {f g : Nat → Option α} (l : List Nat) (h : ∀ m, f m = g m) : l.filterMap f = l.filterMap g := by
  rw [show f = g from funext h]
theorem alt2_pick {α : Type} : ∀ (xs : List α) (i : Nat), (List.range (if i < xs.length then (xs.length - i - 1) / 2 + 1 else 0)).filterMap (fun m => xs[i + m * 2]?) = alt2 (xs.drop i)
  | [], i => by simp [alt2]
  | [x], 0 => by simp [alt2, List.range_succ]
  | [x], i + 1 => by simp [alt2]
  | x :: y :: r, 0 => by
    have ih := alt2_pick r 0
    rw [List.drop_zero] at ih ⊢
    show _ = x :: alt2 r
    rw [← ih]
    have e : (if 0 < (x :: y :: r).length then ((x :: y :: r).length - 0 - 1) / 2 + 1 else 0) = (if 0 < r.length then (r.length - 0 - 1) / 2 + 1 else 0) + 1 := by
      rw [List.length_cons, List.length_cons, if_pos (by omega)]
      by_cases h : 0 < r.length
      · rw [if_pos h]
        omega
      · rw [if_neg h]
        omega
    rw [e, List.range_succ_eq_map, List.filterMap_cons]
    simp only [Nat.zero_mul, Nat.zero_add, List.getElem?_cons_zero]
    rw [List.filterMap_map]
    congr 1
    refine pick_fun _ fun m => ?_
    show (x :: y :: r)[(m + 1) * 2]? = r[m * 2]?
    have : (m + 1) * 2 = (m * 2) + 1 + 1 := by omega
    rw [this, List.getElem?_cons_succ, List.getElem?_cons_succ]
  | x :: y :: r, i + 1 => by
    have ih := alt2_pick (y :: r) i
    rw [List.drop_succ_cons, ← ih]
    have e : (if i + 1 < (x :: y :: r).length then ((x :: y :: r).length - (i + 1) - 1) / 2 + 1 else 0) = (if i < (y :: r).length then ((y :: r).length - i - 1) / 2 + 1 else 0) := by
      rw [List.length_cons (a := x)]
      by_cases h : i < (y :: r).length
      · rw [if_pos h, if_pos (by omega)]
        omega
      · rw [if_neg h, if_neg (by omega)]
    rw [e]
    refine pick_fun _ fun m => ?_
    have : i + 1 + m * 2 = (i + m * 2) + 1 := by omega
    rw [this, List.getElem?_cons_succ]
theorem alt2_len {α : Type} : ∀ (xs : List α), (alt2 xs).length ≤ xs.length
  | [] => Nat.le_refl _
  | [x] => Nat.le_refl _
  | x :: y :: r => by
    have := alt2_len r
    simp only [alt2, List.length_cons]
    omega
theorem slice2 {t sl : Addr} {its : List Value} {i : Nat} {k : Tok} {vl : Value} {Q : Value → Shared → Prop} (ht : IsTup s.heap t its.toArray) (hs : s.heap.IsSliceOf sl vl .none (.int 2 k)) (pl : IsPart vl (some (i : Int)))
    (h : Q (.ref s.heap.objs.size) { s with heap := s.heap.push { cls := .type "tuple", data := .seq (alt2 (its.drop i)).toArray } }) (hz : its.length ≤ sizeLine) : wpAny (model prog w) A (getItem (.ref t) (.ref sl)) Q E s := by
  have hsz : sizeOk (.seq (alt2 (its.drop i)).toArray) := by
    show (alt2 (its.drop i)).toArray.size ≤ sizeLine
    have h1 := alt2_len (its.drop i)
    rw [List.length_drop] at h1
    rw [List.size_toArray]
    omega
  obtain ⟨os, hos, hcs, hds⟩ := id hs
  have hT : s.TypeIs (.ref sl) "slice" := ⟨os, hos, hcs⟩
  have app : ∀ {A' : Around} {E' : Value → Shared → Prop} {Q' : Int × Int × Nat → Shared → Prop}, Q' (((min i its.length : Nat) : Int), 2, if min i its.length < its.length then (its.length - min i its.length - 1) / 2 + 1 else 0) s →
      wpAny (model prog w) A' (Builtin.Slice.sliceApplied (.ref sl) (pure (its.toArray.size : Int))) Q' E' s := fun {A' E' Q'} q => by
    unfold Builtin.Slice.sliceApplied Builtin.Slice.sliceFields
    refine wpAny_bind (wpAny_bind (wpAny_field hos hds (x := vl) rfl (wpAny_bind (wpAny_field hos hds (x := .none) rfl (wpAny_bind (wpAny_field hos hds (x := .int 2 k) rfl (wpAny_pure ?_)))))))
    refine wpAny_bind (HT.slicePart_ (.int 2 k) ?_)
    show wpAny _ _ (if ((2 : Int) == 0) = true then _ else _) _ _ s
    rw [if_neg (by decide)]
    refine wpAny_bind (HT.slicePart_ pl (wpAny_bind (HT.slicePart_ .none (wpAny_bind (wpAny_pure ?_)))))
    have ea : Builtin.Slice.sliceAdjust (some (i : Int)) none 2 (its.toArray.size : Int) = (((min i its.length : Nat) : Int), (its.length : Int)) := by
      unfold Builtin.Slice.sliceAdjust
      rw [List.size_toArray]
      simp only [show ¬ ((2 : Int) < 0) by omega, if_false, show ¬ ((i : Int) < 0) by omega]
      refine Prod.ext ?_ rfl
      show min (i : Int) (its.length : Int) = _
      omega
    have ep : Builtin.Slice.slicePlaces ((min i its.length : Nat) : Int) (its.length : Int) 2 = if min i its.length < its.length then (its.length - min i its.length - 1) / 2 + 1 else 0 := by
      unfold Builtin.Slice.slicePlaces
      simp only [show (2 : Int) > 0 by omega, if_true]
      by_cases hl : min i its.length < its.length
      · rw [if_pos hl, if_pos (by omega)]
        omega
      · rw [if_neg hl, if_neg (by omega)]
        rfl
    show wpAny _ _ (match Builtin.Slice.sliceAdjust (some (i : Int)) none 2 (its.toArray.size : Int) with | (lo, hi) => pure (lo, (2 : Int), Builtin.Slice.slicePlaces lo hi 2)) _ _ s
    rw [ea]
    show wpAny _ _ (pure (((min i its.length : Nat) : Int), (2 : Int), Builtin.Slice.slicePlaces ((min i its.length : Nat) : Int) (its.length : Int) 2)) _ _ s
    rw [ep]
    exact wpAny_pure q
  have pick : ((List.range (if min i its.length < its.length then (its.length - min i its.length - 1) / 2 + 1 else 0)).filterMap fun (m : Nat) => its.toArray[(((min i its.length : Nat) : Int) + (m : Int) * 2).toNat]?).toArray = (alt2 (its.drop i)).toArray := by
    congr 1
    have e1 : (fun (m : Nat) => its.toArray[(((min i its.length : Nat) : Int) + (m : Int) * 2).toNat]?) = fun m => its[min i its.length + m * 2]? := by
      funext m
      have : (((min i its.length : Nat) : Int) + (m : Int) * 2).toNat = min i its.length + m * 2 := by omega
      rw [this]
      simp
    rw [e1, alt2_pick]
    congr 1
    by_cases hl : i ≤ its.length
    · rw [Nat.min_eq_left hl]
    · rw [Nat.min_eq_right (by omega), List.drop_length, List.drop_of_length_le (by omega)]
  unfold getItem
  try with_reducible refine wpAny_holding ?_
  first | refine wpAny_bind (wpAny_pure ?_) | skip
  refine wpAny_bind (wpAny_sequenceKey ht.typeIs (by decide) ?_)
  refine wpAny_bind (wpAny_callSpecial?_slot (name := Str.ofString "__getitem__") ht.typeIs PyProof.Rows.slot_tuple_getitem (wpAny_call_entry PyProof.Rows.slot_tuple_getitem ht.typeIs entry_tuple_getitem ?_ (args_tuple_getitem _ _)))
  show wpAny _ _ (Builtin.Tuple.tupleItemsOf (.ref t) >>= _) _ _ s
  refine wpAny_bind (tupleItemsOf_ ht (wpAny_bind (wpAny_typeOf hT ?_)))
  rw [if_pos (by decide)]
  refine wpAny_bind (app ?_)
  have hno : ¬ ((((min i its.length : Nat) : Int) == 0 && (2 : Int) == 1 && (if min i its.length < its.length then (its.length - min i its.length - 1) / 2 + 1 else 0) == its.toArray.size) = true) := by
    rw [show ((2 : Int) == 1) = false from rfl, Bool.and_false, Bool.false_and]
    exact Bool.false_ne_true
  show wpAny _ _ (if (((min i its.length : Nat) : Int) == 0 && (2 : Int) == 1 && (if min i its.length < its.length then (its.length - min i its.length - 1) / 2 + 1 else 0) == its.toArray.size) = true then _ else _) _ _ s
  rw [if_neg hno, pick]
  first
    | exact wpAny_bind (m := Builtin.Tuple.tupleExact _) (wpAny_newObj_type (wpAny_pure ⟨_, rfl, wpAny_pure h⟩) hsz)
    | exact wpAny_bind (m := Builtin.Tuple.tupleExact _) (wpAny_newObj_type (wpAny_bind (wpAny_pure (wpAny_pure ⟨_, rfl, wpAny_pure h⟩))) hsz)
    | exact wpAny_bind (wpAny_bind (m := Builtin.Tuple.tupleExact _) (wpAny_newObj_type (wpAny_pure (wpAny_pure ⟨_, rfl, wpAny_pure h⟩)) hsz))
    | exact wpAny_bind (wpAny_bind (m := Builtin.Tuple.tupleExact _) (wpAny_newObj_type (wpAny_pure ⟨_, rfl, wpAny_pure h⟩) hsz))
end
theorem Rps.alt {K : PySem.W.Frag} {W : Hp} : ∀ {xs : List V} {ds : List D}, Rps K W xs ds → Rps K W (alt2 xs) (alt2 ds)
  | _, _, .nil => .nil
  | _, _, .cons h .nil => .cons h .nil
  | _, _, .cons h (.cons _ r) => .cons h (Rps.alt r)
theorem vals_alt : ∀ {xs : List V} {us : List Value}, Vals xs us → Vals (alt2 xs) (alt2 us)
  | _, _, .nil => .nil
  | _, _, .cons h .nil => .cons h .nil
  | _, _, .cons h (.cons _ r) => .cons h (vals_alt r)
def tSl2 (K : PySem.W.Frag) (te ti : TE) : TE := fun σ H Q => te σ H fun x H1 => ti σ H1 fun y H2 => ∃ a xs i, x = .ref a ∧ y = .int i ∧ 0 ≤ i ∧ SqT K H2 a xs ∧ ∀ p, H2 p = none → Q (.ref p) (upd H2 p (.tup (alt2 (xs.drop i.toNat))))
theorem pe_sl2 {X : Cx} {e b : Expr} {te ti : TE} {pos p2 p3 : Pos} {j} (he : PE X e te) (hb : PE X b ti) : PE X (.Subscript e (.Slice (some b) none (some (.Constant (.int 2) j p3)) p2) pos) (tSl2 X.K te ti) := by
  refine ⟨fun pins s σ H Q I h => ?_⟩
  refine Subscript_ (thn (he.run pins s σ H _ I h) fun v s1 ⟨x, H1, I1, r1, q1⟩ => ?_)
  refine wpAny_Slice ?_
  rw [evalPart_some]
  refine thn (hb.run pins s1 σ H1 _ I1 q1) fun vl s2 ⟨y, H2, I2, r2, q2⟩ => ?_
  obtain ⟨a, xs, i, rfl, rfl, hi, hq, q⟩ := q2
  obtain ⟨ti, rfl⟩ := r2
  cases r1
  rw [evalPart_none]
  refine wpAny_pure ?_
  have st := (po_some (X := X) (e := .Constant (.int 2) j p3) (pe_int (X := X))).run pins s2 σ H2 (fun o H' => o = some 2 ∧ H' = H2) I2 ⟨2, rfl, rfl, rfl⟩
  refine thn st fun vs s3 ⟨o, H3, I3, pt, eo, eh⟩ => ?_
  subst eo
  subst eh
  cases pt with
  | int _ tk =>
  have I4 : Inv X pins σ H3 { s3 with heap := s3.heap.push { cls := .type "slice", data := .fields #[.int i ti, .none, .int 2 tk] } } := I3.kept (t' := s3.toks) fun b ob q => Heap.get?_push_of_some _ q
  obtain ⟨its, rv, hT, hz⟩ := I4.tuple hq
  obtain ⟨n, rfl⟩ := Int.eq_ofNat_of_zero_le hi
  have fin : wpAny (model X.prog X.w) X.A (getItem (.ref a) (.ref s3.heap.objs.size)) (EP X pins σ Q) X.xe { s3 with heap := s3.heap.push { cls := .type "slice", data := .fields #[.int (n : Int) ti, .none, .int 2 tk] } } := by
    refine slice2 (i := n) hT (Heap.IsSliceOf.new ..) (.int _ _) ?_ (by rw [← rv.length]; exact hz)
    refine ⟨.ref _, _, I4.laid (t' := s3.toks) (o := .tup (alt2 (xs.drop n))) (fun b ob q => Heap.get?_push_of_some _ q) (Nat.le_refl _) ?_, rfl, q _ (I4.hok.fresh (Nat.le_refl _))⟩
    refine ⟨?_, _, vals_alt (rv.drop n), ⟨_, Heap.get?_push_size _ rfl, rfl, 0, rfl⟩⟩
    have h1 := alt2_len (xs.drop n)
    rw [List.length_drop] at h1
    omega
  show wpAny (model X.prog X.w) X.A (subscriptTail e (.Slice (some b) none (some (.Constant (.int 2) j p3)) p2) (.ref a) (.ref s3.heap.objs.size)) (EP X pins σ Q) X.xe _
  exact tail_any (ops := [.ref a, .ref s3.heap.objs.size]) hT.typeIs PyProof.Rows.slot_tuple_getitem.lookup fin (by with_unfolding_all rfl)
section
variable {X : Cx} {a b c : Expr} {ga gb : GE} {pos p p2 p3 : Pos} {es : List Expr}
theorem je_sl2 {j} (ha : JE X a ga) (hb : JE X b gb) : JE X (.Subscript a (.Slice (some b) none (some (.Constant (.int 2) j p3)) p2) pos) (gSl2 ga gb) := by
  refine pe_weak (pe_sl2 ha hb) fun σ H Q h => ?_
  obtain ⟨e, s, d, m', A, rfl, en, hg, post⟩ := h
  obtain ⟨⟨d1, m1⟩, h1, hg⟩ := bind_some_iff hg
  obtain ⟨⟨d2, m2⟩, h2, hg⟩ := bind_some_iff hg
  refine ⟨e, s, _, _, A, rfl, en, h1, fun v u hm st rp => ⟨e, u, _, _, st.a, rfl, en.mono st, by rw [hm]; exact h2, fun w u2 hm2 st2 rp2 => ?_⟩⟩
  cases rp with
  | @tup p xs ds h4 r4 =>
    cases rp2 with
    | int i =>
      have hg' : (if 0 ≤ i then some (PyData.tuple (alt2 (ds.drop i.toNat)), m2) else none) = some (d, m') := hg
      split at hg'
      · rename_i hi
        cases hg'
        refine ⟨p, xs, i, rfl, rfl, hi, sqt_mono st2.a.sub (sqt_mono st2.ex h4), fun q hq => ?_⟩
        have st3 := stp_new (o := .tup (alt2 (xs.drop i.toNat))) st2.a hq
        exact post _ _ (by exact hm2) ((st.trans st2).trans st3) (.tup (.inl (.inl upd_same)) (((r4.drop i.toNat).alt.mono st2.ex).mono st3.ex))
      · cases hg'
    | _ => cases hg
  | _ => cases hg
end
end Bs
/-! Sem7: where nothing is being shown (guards); keywords alone; a list handed back and handed on; the law's end. -/
namespace Bs
open PySem PySem.Spec PyProof.Rows L2

section
variable {P : Program} {w : World} {K : PySem.W.Frag} {mg : Str → Option Value} {base : Heap}
/-- what a def's code does under a wish, where nothing is being shown -/
def RunsG (P : Program) (w : World) (K : PySem.W.Frag) (mg : Str → Option Value) (base : Heap) (k : Nat) (f : Addr) (fd : FuncData) (ps : List Str) (sp : Sp) : Prop :=
  ∀ (B : Around) (fr : List Env) (t : Shared) (G : Hp) (as : Args) (ws : List Value) (xs : List V) (Q : VK),
    B.guards = some [] → Room k B → Env0 P w K mg base B fr t G → BindsTo t fd as (ps.zip ws) → Vals xs ws → sp xs G Q E0 → codeAny (model P w) B (.call (.ref f) as) (CR CX0 fr P w G t Q E0) t
structure OkG (P : Program) (w : World) (K : PySem.W.Frag) (mg : Str → Option Value) (base : Heap) (x : Str) (ps : List Str) (k : Nat) (F : Fn) : Prop where
  ex : ∃ f fd, mg x = some (.ref f) ∧ PySem.W.keepIn K (.ref f) = true ∧ Binds K fd ps [] ∧ RunsG P w K mg base k f fd ps (spG K ps.length F) ∧ ∃ oc od osl, K.lookup f = some ⟨oc, od, .func fd, osl⟩
theorem runsG_of {f : Addr} {nm qu : Str} {ar : Arguments} {bd : List Stmt} {sc : Scope} {v1 v2 v3 v4 v5 v6 v7 : Value} {o1 o2 : Option Addr} {N ps : List Str} {sp : Sp} {k : Nat} {sl : Array (Option Value)}
    (at_ : K.lookup f = some ⟨v1, o1, .func (PySem.W.fnOf nm qu ar bd sc v2 v3 v4 v5 o2 v6 v7), sl⟩) (code : PySem.W.codeIn K v6 qu = true) (S : FnScope N ps sc) (len : ∀ vs H Q E, sp vs H Q E → vs.length = ps.length)
    (body : ∀ (B : Around) (fr : List Env) (t : Shared) (G : Hp) (xs : List V) (Q : VK), B.guards = some [] → Room k (B.deeper (envOfC qu sc t.heap.objs.size f v6)) → sp xs G Q E0 →
      ∃ r, PSs (cxOf CX0 P w K mg base N qu sc f v6 B fr t G E0) bd r ∧ r { nx := fun _ H' => Q .non H', rt := Q } (start N xs) G) :
    RunsG P w K mg base (k + 1) f (PySem.W.fnOf nm qu ar bd sc v2 v3 v4 v5 o2 v6 v7) ps sp := by
  intro B fr t G as ws xs Q hg hr e0 hb hv hs
  have lx := len xs G Q E0 hs
  have inK : K.In t.heap := e0.mod.kin.keeps fun a o z => (e0.bs a o z).1
  have nl : t.heap.NoLimit := e0.mod.nolimit.keeps fun a o z => (e0.bs a o z).1
  have kinds : ∀ y ∈ ps.zip ws, sc.names.lookup y.1 = some .local ∨ (sc.names.lookup y.1 = some .cell ∧ ((cellsFrom (t.heap.objs.size + 1) sc.names []).lookup y.1).isSome = true) := by
    intro y hy
    obtain ⟨n, v⟩ := y
    exact (S.par n (List.of_mem_zip hy).1).imp id fun q => ⟨q, PySem.W.cellsFrom_some _ _ _ (.inl q)⟩
  apply codeAny_call_function hr.depth (inK f _ at_) rfl S.co S.gen rfl (PySem.W.codeRec_of inK code)
  apply hb
  refine wpAny_newFunctionEnv_cells S.kind kinds fun en hen t1 tr => ?_
  subst hen
  constructor
  · exact nl.keeps tr.toInCall.keep
  apply codeAny_func
  obtain ⟨r, hr1, hr2⟩ := body B fr t G xs Q hg (hr.deeper _) hs
  have J0 := inv_start (CX := CX0) (w := w) (P := P) (K := K) (E := E0) (mg := mg) (base := base) S hr.hd e0 lx hv tr
  refine wpAny_mono (hr1.run [] t1 (start N xs) G _ J0 hr2) ?_ fun _ _ z => z
  intro fl t2 h2
  have done : ∀ {σ2 : L2.St} {H2 : Hp} {y : V} {u : Value}, Inv (cxOf CX0 P w K mg base N qu sc f v6 B fr t G E0) [] σ2 H2 t2 → RelV y u → Q y H2 → CE fr P w G t Q u t2 := by
    intro σ2 H2 y u J ry q
    exact ⟨y, H2, J.os, J.bare, J.base, J.hok, ry, q⟩
  cases fl with
  | ret u =>
    obtain ⟨y, σ2, H2, J, ry, q⟩ := h2
    exact done J ry q
  | next =>
    obtain ⟨σ2, H2, J, q⟩ := h2
    exact done (y := V.non) (u := Value.none) J rfl q
  | brk =>
    obtain ⟨_, _, _, z⟩ := h2
    exact z.elim
  | cont =>
    obtain ⟨_, _, _, z⟩ := h2
    exact z.elim
/-- a def whose body shows data -/
theorem okG {x : Str} {st : Stmt} {sc : Scope} (N : List Str) {ps : List Str} {k : Nat} {n : Nat} (hnn : N.length = n) (g : GS) (F : DefAt K mg x st ps) (hsc : defScope st = sc) (S : FnScope N ps sc)
    (hb : ∀ (f : Addr) (cdv : Value) (A : Around) (outer : List Env) (s : Shared) (H : Hp) (E : XK), A.guards = some [] → Room k (A.deeper (envOfC x sc s.heap.objs.size f cdv)) → JSs (cxOf CX0 P w K mg base N x sc f cdv A outer s H E).nox (defBody st) g) :
    OkG P w K mg base x ps (k + 1) (runB n g) := by
  subst hnn
  subst hsc
  obtain ⟨f, fd, F, hm, hB⟩ := F.ex
  have hkp := F.kp
  obtain ⟨oc, od, dV, kV, doc, pm, an, cdv, ct, osl, rfl, lk, hcd, _, _⟩ := F.ex
  refine ⟨f, _, hm, hkp, hB, runsG_of lk hcd S (fun vs H Q E h => ?_) (fun B fr t G xs Q hg hr h => ?_), oc, od, osl, lk⟩
  · obtain ⟨s, ss, d, m', hl, _, _, r, _⟩ := h
    rw [← paired_len r]
    exact hl
  · obtain ⟨z, ss, d, m', hl, a, rfl, r, hF, q⟩ := h
    exact ⟨tS K g, (hb f cdv B fr t z.H E0 hg hr).nox, body_of a r hF q⟩
end

section
variable {X : Cx} {k : Nat} {f : Addr} {fd : FuncData} {ps : List Str} {sp : Sp} {x : Str} {p pos : Pos} {a : Expr} {es : List Expr} {t : TA}
theorem pe_callG (F : RunsG X.prog X.w X.K X.mg X.base k f fd ps sp) (len : ∀ vs H Q E, sp vs H Q E → vs.length = ps.length) (hgd : X.A.guards = some []) (hr : Room k X.A) (hg : Gl X x) (hm : X.mg x = some (.ref f)) (hk : PySem.W.keepIn X.K (.ref f) = true) (hb : Binds X.K fd ps [])
    (ha : PA X (a :: es) t) (hdb : (x == ("__debug__" : Str)) = false) (hs : starEach (a :: es) X.env = (false, eval a X.env) :: starEach es X.env) (hpl : (backTo pos (starEach es X.env)).any (·.1) = false) :
    PE X (.Call (.Name x p) (a :: es) [] pos) (tCall sp [] E0 t) := by
  constructor
  intro pins s σ H Q I h
  apply wpAny_Call_Name_kw
  apply ld_glob I hg hm _ hdb
  apply PySem.W.callWith_K (h₀ := X.base) I.ok.mod.kin hk _ hs hpl
  refine thn (ha.run pos pins s σ H _ I h) ?_
  rintro us s1 ⟨vs, H1, I1, r, q⟩
  refine ⟨I1.kIn, ?_⟩
  rw [List.append_nil] at q
  have hl : (us ++ ([] : List Value)).length = ps.length := by
    rw [List.append_nil, ← r.length]
    exact len _ _ _ _ q
  have bt := hb s1 us I1.kIn hl
  rw [List.append_nil] at bt
  apply wpAny_call
  refine codeAny_mono (F X.A X.stack s1 H1 ⟨us, []⟩ us vs Q hgd hr I1.env0 bt r q) ?_
  intro rr s2 h2
  match rr, h2 with
  | .ok (.ret u), h2 => exact I1.after h2
  | .ok .next, h2 => exact h2.elim
  | .ok .brk, h2 => exact h2.elim
  | .ok .cont, h2 => exact h2.elim
  | .error e, h2 => exact (show False from h2).elim
theorem spG_len {K : PySem.W.Frag} {F : Fn} (vs : List V) (H : Hp) (Q : VK) (E : XK) (h : spG K ps.length F vs H Q E) : vs.length = ps.length := by
  obtain ⟨s, ss, d, m', hl, _, _, r, _⟩ := h
  rw [← paired_len r]
  exact hl
end

/-! ### keywords alone -/
abbrev JK (X : Cx) (kws : List Keyword) (g : GA) : Prop := PK X kws (tA X.K g)
section
variable {X : Cx} {a b c : Expr} {ga : GE} {x : Str} {p pos kpos : Pos} {ps ks : List Str} {st : Stmt} {F : Fn} {k : Nat}
theorem jk_nil : JK X [] ga0 := by
  constructor
  intro pos pins s σ H Q I h
  refine pk_nil.run pos pins s σ H Q I ?_
  obtain ⟨e, s, d, m', A, rfl, en, hg, post⟩ := h
  have hg' : some (([] : List Sl), s.m) = some (d, m') := hg
  cases hg'
  exact post [] s rfl (Stp.refl A) .nil
theorem jk_cons {kws : List Keyword} {gr : GA} {nm : Option Str} (ha : JE X a ga) (hr : JK X kws gr) : JK X (⟨nm, a, kpos⟩ :: kws) (gac ga gr) := by
  constructor
  intro pos pins s σ H Q I h
  refine (pk_cons ha hr).run pos pins s σ H Q I ?_
  obtain ⟨e, s, d, m', A, rfl, en, hg, post⟩ := h
  obtain ⟨⟨d1, m1⟩, h1, hg⟩ := bind_some_iff hg
  obtain ⟨⟨d2, m2⟩, h2, hg⟩ := map_some_iff hg
  cases hg
  exact ⟨e, s, d1, m1, A, rfl, en, h1, fun v u hm st rp => ⟨e, u, d2, m2, st.a, rfl, en.mono st, by rw [hm]; exact h2, fun vs u2 hm2 st2 rp2 => post (v :: vs) u2 hm2 (st.trans st2) (.cons (SlR.mono (x := .d d1) st2 rp) rp2)⟩⟩
theorem paired_getD {α β : Type} {R : α → β → Prop} {xs : List α} {ys : List β} (h : Paired R xs ys) (i : Nat) {x : α} {y : β} (d : R x y) : R (xs[i]?.getD x) (ys[i]?.getD y) := by
  induction h generalizing i with
  | nil => simpa using d
  | cons q _ ih =>
    cases i with
    | zero => simpa using q
    | succ i => simpa using ih i
theorem paired_perm3 {α β : Type} {R : α → β → Prop} {i j l : Nat} {xs : List α} {ys : List β} (h : Paired R xs ys) : Paired R (perm3 i j l xs) (perm3 i j l ys) := by
  cases h with
  | nil => exact .nil
  | cons h1 t1 => cases t1 with
    | nil => exact .nil
    | cons h2 t2 => cases t2 with
      | nil => exact .nil
      | cons h3 t3 => cases t3 with
        | nil =>
          have pp := Paired.cons h1 (.cons h2 (.cons h3 .nil))
          exact .cons (paired_getD pp i h1) (.cons (paired_getD pp j h1) (.cons (paired_getD pp l h1) .nil))
        | cons h4 t4 => exact .nil
/-- f(k1 = a, k2 = b, k3 = c) -/
theorem je_callK {i j l : Nat} {gA : GA} {kws : List Keyword} (D : DefAt X.K X.mg x st ps) (G : OkFn X.prog X.w X.K X.mg X.base x ps k F) (hr : Room k X.A) (ha : JK X kws gA)
    (hbind : ∀ (kV doc pm : Value) (an : Option Addr) (cdv ct : Value) (us : List Value), us.length = 3 → bindArgs (PySem.W.fnOf x x (defArgs st) (defBody st) (defScope st) .none kV doc pm an cdv ct) ⟨[], ks.zip us⟩ = pure (ps.zip (perm3 i j l us)))
    (hps : ps.length = 3) (hg : Gl X x := by rfl) (hdb : (x == ("__debug__" : Str)) = false := by decide)
    (hall : (backToKw pos (keywordEach kws X.env)).all (·.1.isSome) = true := by rfl) (hks : (backToKw pos (keywordEach kws X.env)).filterMap (·.1) = ks := by rfl)
    (hpl : ((backTo pos (starEach [] X.env)).any (·.1) || (backToKw pos (keywordEach kws X.env)).any (·.1.isNone)) = false := by rfl) : JE X (.Call (.Name x p) [] kws pos) (gCallK i j l F gA) := by
  constructor
  intro pins s σ H Q I h
  obtain ⟨f, fd, hm, hk, _, hF, oc, od, osl, lk⟩ := G.ex
  obtain ⟨f2, fd2, hD, hm2, _⟩ := D.ex
  rw [hm] at hm2
  cases hm2
  obtain ⟨oc2, od2, dV, kV, doc, pm, an, cdv, ct, osl2, rfl, lk2, _, hD1, _⟩ := hD.ex
  rw [lk] at lk2
  cases lk2
  have hdv : dV = .none := by
    rcases hD1 with ⟨_, z⟩ | ⟨z, _⟩
    · exact z
    · exact absurd rfl z
  subst hdv
  obtain ⟨e, z, d, m', A, rfl, en, hgv, post⟩ := h
  obtain ⟨⟨ss, m1⟩, h5, hgv⟩ := bind_some_iff hgv
  have hgv' : (if ss.length = 3 then F (perm3 i j l ss) m1 else none) = some (d, m') := hgv
  split at hgv'
  case isFalse => cases hgv'
  rename_i l3
  apply wpAny_Call_Name_kw
  apply ld_glob I hg hm _ hdb
  apply PySem.W.callWith_KW0 (h₀ := X.base) I.ok.mod.kin hk hall _ hpl
  refine thn (ha.run pos pins s σ z.H (fun vs H1 => spG X.K ps.length F (perm3 i j l vs) H1 Q E0 ∧ vs.length = 3) I ⟨e, z, ss, m1, A, rfl, en, h5, fun vs u hm2 st2 rp => ?_⟩) ?_
  · refine ⟨⟨u, perm3 i j l ss, d, m', ?_, st2.a, rfl, paired_perm3 rp, by rw [hm2]; exact hgv', fun v u2 hm3 _ st3 rp3 => post v u2 hm3 (st2.trans st3) rp3⟩, ?_⟩
    · rw [hps]
      match ss, l3 with
      | [_, _, _], _ => rfl
    · rw [← paired_len rp]
      exact l3
  · rintro us s2 ⟨vs, H2, I2, rz, q2, lv⟩
    refine ⟨I2.kIn, ?_⟩
    rw [hks]
    have lu : us.length = 3 := rz.length.symm.trans lv
    apply wpAny_call
    refine codeAny_mono (hF.run X.A X.stack s2 H2 ⟨[], ks.zip us⟩ (perm3 i j l us) (perm3 i j l vs) Q E0 hr I2.env0 (.of_eq (hbind kV doc pm an cdv ct us lu)) (paired_perm3 rz) q2) ?_
    intro rr s3 h2
    match rr, h2 with
    | .ok (.ret u), h2 => exact I2.after h2
    | .ok .next, h2 => exact h2.elim
    | .ok .brk, h2 => exact h2.elim
    | .ok .cont, h2 => exact h2.elim
    | .error e, h2 => exact (show False from h2).elim
end

/-! ### a def that hands back a list made anew -/
def spL (K : PySem.W.Frag) (n : Nat) (F : FnL) : Sp := fun vs H Q _ => ∃ (s : Sx) (ss : List Sl) (ds : List D) (m' : Mm), ss.length = n ∧ At K s ∧ s.H = H ∧ Paired (SlR K s) ss vs ∧ F ss s.m = some (ds, m') ∧
  ∀ p xs u, u.m = m' → u.as = s.as → Stp K s u → s.H p = none → u.H p = some (.lst xs) → u.W p = none → p ∉ u.as → Rps K u.W xs ds → Q (.ref p) u.H
structure OkL (P : Program) (w : World) (K : PySem.W.Frag) (mg : Str → Option Value) (base : Heap) (x : Str) (ps : List Str) (k : Nat) (F : FnL) : Prop where
  ex : ∃ f fd, mg x = some (.ref f) ∧ PySem.W.keepIn K (.ref f) = true ∧ Binds K fd ps [] ∧ FnOk P w K mg base CX0 k f fd ps (spL K ps.length F)
section
variable {P : Program} {w : World} {K : PySem.W.Frag} {mg : Str → Option Value} {base : Heap}
theorem bodyL_of {s : Sx} {ss : List Sl} {vs : List V} {ds : List D} {m' : Mm} {g : GS} {n : Nat} (a : At K s) (r : Paired (SlR K s) ss vs) (h : runL n g ss s.m = some (ds, m')) {Q : VK}
    (q : ∀ p xs u, u.m = m' → u.as = s.as → Stp K s u → s.H p = none → u.H p = some (.lst xs) → u.W p = none → p ∉ u.as → Rps K u.W xs ds → Q (.ref p) u.H) :
    tS K g { nx := fun _ H' => Q .non H', rt := Q } (vs.map some ++ List.replicate (n - vs.length) none) s.H := by
  obtain ⟨o, h1, h2⟩ := bind_some_iff h
  refine ⟨_, s, o, a, rfl, en_start n r, h1, ?_⟩
  cases o with
  | nx e1 m1 => cases h2
  | rt x m1 => cases h2
  | rl xs m1 =>
    cases h2
    intro p ys u hm st hn hp hw ha rp
    obtain ⟨l, el⟩ := st.pre
    exact q p ys { u with as := s.as, m := u.m.take s.m.length } (by rw [hm]) rfl (stp_cut a st) hn hp hw (fun z => ha (by rw [el]; exact List.mem_append_left _ z)) rp
theorem okL {x : Str} {st : Stmt} {sc : Scope} (N : List Str) {ps : List Str} {k : Nat} {n : Nat} (hnn : N.length = n) (g : GS) (F : DefAt K mg x st ps) (hsc : defScope st = sc) (S : FnScope N ps sc)
    (hb : ∀ (f : Addr) (cdv : Value) (A : Around) (outer : List Env) (s : Shared) (H : Hp) (E : XK), Room k (A.deeper (envOfC x sc s.heap.objs.size f cdv)) → JSs (cxOf CX0 P w K mg base N x sc f cdv A outer s H E).nox (defBody st) g) :
    OkL P w K mg base x ps (k + 1) (runL n g) := by
  subst hnn
  subst hsc
  obtain ⟨f, fd, F, hm, hB⟩ := F.ex
  refine ⟨f, fd, hm, F.kp, hB, F.ok S (fun vs H Q E h => ?_) (fun cdv A outer s H vs Q E hr h => ?_)⟩
  · obtain ⟨s, ss, d, m', hl, _, _, r, _, _⟩ := h
    rw [← paired_len r]
    exact hl
  · obtain ⟨z, ss, d, m', hl, a, rfl, r, hF, q⟩ := h
    exact ⟨tS K g, (hb f cdv A outer s z.H E hr).nox, bodyL_of a r hF q⟩
end
section
variable {X : Cx} {a : Expr} {es : List Expr} {x : Str} {p pos : Pos} {ps : List Str} {k : Nat}
theorem jl_call {F : FnL} {gA : GA} (G : OkL X.prog X.w X.K X.mg X.base x ps k F) (hr : Room k X.A) (ha : JA X (a :: es) gA) (hg : Gl X x := by rfl) (hdb : (x == ("__debug__" : Str)) = false := by decide)
    (hs : starEach (a :: es) X.env = (false, eval a X.env) :: starEach es X.env := by rfl) (hpl : (backTo pos (starEach es X.env)).any (·.1) = false := by rfl) (hlen : (a :: es).length = ps.length := by rfl) : JL X (.Call (.Name x p) (a :: es) [] pos) (glCall F gA) := by
  obtain ⟨f, fd, h1, h2, h3, h4⟩ := G.ex
  refine pe_weak (pe_call h4 hr hg h1 h2 h3 .nil pass0 ha.pa hdb hs hpl) fun σ H Q h => ?_
  obtain ⟨e, s, d, m', A, rfl, en, hg, post⟩ := h
  obtain ⟨⟨ss, m1⟩, h5, hg⟩ := bind_some_iff hg
  refine ⟨e, s, ss, m1, A, rfl, en, h5, fun vs u hm st rp => ?_⟩
  refine ⟨u, ss, d, m', (ha.len e s.m ss m1 h5).trans hlen, st.a, rfl, by rw [List.append_nil]; exact rp, by rw [hm]; exact hg, fun p xs u2 hm2 _ st2 hn hp hw hA rp2 => post p xs u2 hm2 (st.trans st2) (st.fresh hn) hp hw hA rp2⟩
theorem je_callN {F : Fn} {gl : GL} (G : OkG X.prog X.w X.K X.mg X.base x ps k F) (hgd : X.A.guards = some []) (hr : Room k X.A) (ha : JL X a gl) (hg : Gl X x := by rfl) (hdb : (x == ("__debug__" : Str)) = false := by decide)
    (hs : starEach [a] X.env = (false, eval a X.env) :: starEach [] X.env := by rfl) (hpl : (backTo pos (starEach [] X.env)).any (·.1) = false := by rfl) (hlen : ps.length = 1 := by rfl) : JE X (.Call (.Name x p) [a] [] pos) (gCallN F gl) := by
  obtain ⟨f, fd, h1, h2, h3, h4, _⟩ := G.ex
  refine pe_weak (pe_callG h4 (fun _ _ _ _ => spG_len _ _ _ _) hgd hr hg h1 h2 h3 (pa_cons ha pa_nil hs) hdb hs hpl) fun σ H Q h => ?_
  obtain ⟨e, s, d, m', A, rfl, en, hg, post⟩ := h
  obtain ⟨⟨ds, m1⟩, h5, hg⟩ := bind_some_iff hg
  obtain ⟨⟨d2, m2⟩, h6, hg⟩ := map_some_iff hg
  cases hg
  refine ⟨e, s, ds, m1, A, rfl, en, h5, fun p xs u hm st hn hp hw hA rp => ?_⟩
  have st2 := st.alloc hn hp hw hA rp
  show spG X.K ps.length F [.ref p] u.H Q E0
  refine ⟨{ u with as := u.as ++ [p], m := u.m ++ [some ds] }, [.at u.m.length], d2, m2, hlen.symm, st2.a, rfl, .cons ⟨p, ?_, rfl⟩ .nil, ?_, fun v u2 hm2 _ st3 rp2 => ?_⟩
  · show (u.as ++ [p])[u.m.length]? = some p
    rw [← st.a.len]
    simp
  · rw [hm]
    exact h6
  · exact post v { u2 with as := s.as, m := u2.m.take s.m.length } (by rw [hm2]) (stp_cut A (st2.trans st3)) rp2
end

/-! ### the law's end -/
/-- F gives True at the script -/
theorem law_end {P : Program} {w : World} {K : PySem.W.Frag} {mg mb : Str → Option Value} {k : Nat} {fa a : Addr} {fd : FuncData} {x : Str} {F : Fn} {m2 : Mm} {t : Shared} {us : List Value} {ns : List Int}
    (inK : K.In t.heap) (gns : t.heap.Ns mainGlobals mg) (bns : t.heap.Ns builtinsNs mb) (bts : ∀ y : Str, y ≠ "__name__" → mb y = bootBuiltins y) (nl : t.heap.NoLimit) (gens : t.gens = #[])
    (at_ : t.heap.get? a = some { cls := .type "list", data := .seq us.toArray }) (allI : IntsAre us ns) (short : ns.length ≤ sizeLine) (room : Room k callerA) (guards : callerA.guards = some [])
    (runs : ∀ base : Heap, K.In base → base.Ns mainGlobals mg → RunsG P w K mg base k fa fd [x] (spG K 1 F)) (binds : ∀ (s : Shared) (u : Value), BindsTo s fd ⟨[u], []⟩ [(x, u)])
    (tells : F [.d (rol (ns.map PyData.int))] [] = some (.bool true, m2)) :
    codeAny (model P w) callerA (.call (.ref fa) ⟨[.ref a], []⟩) (fun r s' => r = .ok (.ret (.bool true)) ∧ OldK t.heap s'.heap ∧ s'.os = t.os ∧ AllBare s'.gens) t := by
  have len1 := allI.length
  have rel := vals_ints allI
  have reps : Rps K (fun _ => none) (ns.map V.int) (((ns.map PyData.int).map fun z => (z, PyData.none)).map (·.1)) := by
    clear tells rel len1 allI short
    induction ns with
    | nil => exact .nil
    | cons n r ih => exact .cons (.int n) ih
  -- a tracked view of the heap with at most the script in it
  have main : ∀ G : Hp, (∀ b, G b ≠ none → b = a ∧ G b = some (.frz { cls := .type "list", data := .seq us.toArray } (.lst (ns.map V.int))) ∧ K.lookup a = none) → SqL K G a (ns.map V.int) →
      codeAny (model P w) callerA (.call (.ref fa) ⟨[.ref a], []⟩) (fun r s' => r = .ok (.ret (.bool true)) ∧ OldK t.heap s'.heap ∧ s'.os = t.os ∧ AllBare s'.gens) t := by
    intro G only sq
    have stays : ∀ {b : Addr} {o : Obj}, t.heap.get? b = some o → G b = none → (hidT t.heap G).get? b = some o := fun h1 h2 => hidT_get h1 h2
    have dictFree : ∀ {b : Addr} {o : Obj} {d : Array DictEntry} {n : Nat}, t.heap.get? b = some o → o.data = .dict d n → G b = none := by
      intro b o d n h1 h2
      by_cases z : G b = none
      · exact z
      · obtain ⟨rfl, _⟩ := only b z
        rw [at_] at h1
        cases h1
        cases h2
    have nsStay : ∀ {b : Addr} {g : Str → Option Value}, t.heap.Ns b g → (hidT t.heap G).Ns b g := by
      rintro b g ⟨o, d, n, h1, h2, h3⟩
      exact ⟨o, d, n, stays h1 (dictFree h1 h2), h2, h3⟩
    have inB : K.In (hidT t.heap G) := by
      intro b o h1
      refine stays (inK b o h1) ?_
      by_cases z : G b = none
      · exact z
      · obtain ⟨rfl, _, z2⟩ := only b z
        rw [z2] at h1
        cases h1
    obtain ⟨ml, l1, l2⟩ := nl
    have modB : Mod K mg (hidT t.heap G) := ⟨inB, nsStay gns, ⟨mb, nsStay bns, bts⟩, ⟨ml, nsStay l1, l2⟩⟩
    have heapOk : HOk P w G t.heap := by
      intro b u hb
      obtain ⟨rfl, e, _⟩ := only b (by rw [hb]; exact fun z => nomatch z)
      rw [hb] at e
      cases e
      exact ⟨at_, by rw [List.length_map]; exact short, us, _, rel, at_⟩
    have env : Env0 P w K mg (hidT t.heap G) callerA [] t G :=
      ⟨rfl, modB, fun _ _ z => of_hidT z, by rw [hidT_size]; exact Nat.le_refl _, trivial, (fun _ z => nomatch z), heapOk, .of_eq gens⟩
    have at0 : At K ⟨G, [], [], G⟩ := ⟨Same.refl _, rfl, List.nodup_nil, (fun _ z => nomatch z), (fun _ _ _ z => nomatch z)⟩
    have wish : spG K 1 F [.ref a] G (fun v _ => v = .bl true) E0 := by
      refine ⟨⟨G, [], [], G⟩, [.d (rol (ns.map PyData.int))], .bool true, m2, rfl, at0, rfl, .cons (.rol sq (reps.mono fun _ _ z => nomatch (show (none : Option HO) = some _ from z))) .nil, tells, fun v u _ _ _ rv => ?_⟩
      cases rv
      rfl
    refine codeAny_mono (runs _ inB (nsStay gns) callerA [] t G ⟨[.ref a], []⟩ [.ref a] [.ref a] _ guards room env (binds t (.ref a)) (.cons rfl .nil) wish) ?_
    intro r t2 h2
    match r, h2 with
    | .error e, h2 => exact (show False from h2).elim
    | .ok .next, h2 => exact h2.elim
    | .ok .brk, h2 => exact h2.elim
    | .ok .cont, h2 => exact h2.elim
    | .ok (.ret u), h2 =>
      obtain ⟨v, G2, h3, h4, un, ok2, rv, hv⟩ := h2
      have hv2 : v = .bl true := hv
      subst hv2
      have hu : u = Value.bool true := rv
      subst hu
      refine ⟨rfl, .of_keep fun b o hb => ?_, h3, h4⟩
      by_cases z : G b = none
      · exact un.keep b o hb z (fun z => nomatch z) (fun z => nomatch z)
      · obtain ⟨rfl, e, _⟩ := only b z
        obtain ⟨e2, _⟩ := ok2 b _ (un.frzs b _ _ e)
        rw [at_] at hb
        cases hb
        exact e2
  by_cases hk : K.lookup a = none
  · refine main (fun b => if b = a then some (.frz { cls := .type "list", data := .seq us.toArray } (.lst (ns.map V.int))) else none) (fun b hb => ?_) (.inl (.inr ⟨_, if_pos rfl⟩))
    by_cases e : b = a
    · exact ⟨e, if_pos e, hk⟩
    · exact absurd (if_neg e) hb
  · obtain ⟨o, ho⟩ := Option.ne_none_iff_exists'.mp hk
    have e := inK a o ho
    rw [at_] at e
    cases e
    exact main (fun _ => none) (fun b hb => absurd rfl hb) (.inr ⟨_, us.toArray, _, ho, rfl, rfl, rfl, by rw [List.size_toArray, len1]; exact short, by simpa using rel⟩)
end Bs
/-! Den: what each def is worth (printed by gen.py). -/
namespace Bs
open PySem
def dZERO : D := .tuple [.int 0, .int 1]
def dNOUGHT : D := .tuple [.int 0, .tuple []]
def g_is_whole : GS := gsRet (gAnd (g1 (isiD .int) (gVar 0)) (gNot (g1 (isiD .bool) (gVar 0))))
def F_is_whole : Fn := runB 1 g_is_whole
def g_is_between : GS := gsRet (gAnd (gCall (F_is_whole) (gac (gVar 0) (ga0))) (gChain leD leD (gVar 1) (gVar 0) (gVar 2)))
def F_is_between : Fn := runB 3 g_is_between
def g_are_wholes : GS := gsRet (gAnd (g1 (isiD .tuple) (gVar 0)) (gAnd (g2 eqD (g1 lenD (gVar 0)) (gVar 1)) (g1 allD (gList (glLc (gxT (gVar 0)) 2 [2] (gtYes) (gCall (F_is_whole) (gac (gVar 2) (ga0))))))))
def F_are_wholes : Fn := runB 3 g_are_wholes
def g_divisor_of : GS := gsSeq (gsAsg (gC (.int 0)) (ggN 1)) (gsSeq (gsFor (gxT (gVar 0)) (ggN 2) (gsAsg (g2 gcdD (gVar 1) (gVar 2)) (ggN 1))) (gsRet (gVar 1)))
def F_divisor_of : Fn := runB 3 g_divisor_of
def g_is_ratio : GS := gsRet (gAnd (gCall (F_are_wholes) (gac (gVar 0) (gac (gC (.int 2)) (ga0)))) (gAnd (g2 gtD (g2 idxD (gVar 0) (gC (.int 1))) (gC (.int 0))) (g2 eqD (gCall (F_divisor_of) (gac (gVar 0) (ga0))) (gC (.int 1)))))
def F_is_ratio : Fn := runB 1 g_is_ratio
def g_ratio : GS := gsSeq (gsAsg (gIte (gtV (g2 gtD (gVar 1) (gC (.int 0)))) (gCall (F_divisor_of) (gac (gTup (glc (gVar 0) (glc (gVar 1) (gl0)))) (ga0))) (g1 negD (gCall (F_divisor_of) (gac (gTup (glc (gVar 0) (glc (gVar 1) (gl0)))) (ga0))))) (ggN 2)) (gsRet (gTup (glc (g2 divN (gVar 0) (gVar 2)) (glc (g2 divN (gVar 1) (gVar 2)) (gl0)))))
def F_ratio : Fn := runB 3 g_ratio
def g_plus : GS := gsRet (gCall (F_ratio) (gac (g2 addD (g2 mulD (g2 idxD (gVar 0) (gC (.int 0))) (g2 idxD (gVar 1) (gC (.int 1)))) (g2 mulD (g2 idxD (gVar 1) (gC (.int 0))) (g2 idxD (gVar 0) (gC (.int 1))))) (gac (g2 mulD (g2 idxD (gVar 0) (gC (.int 1))) (g2 idxD (gVar 1) (gC (.int 1)))) (ga0))))
def F_plus : Fn := runB 2 g_plus
def g_times : GS := gsRet (gCall (F_ratio) (gac (g2 mulD (g2 idxD (gVar 0) (gC (.int 0))) (g2 idxD (gVar 1) (gC (.int 0)))) (gac (g2 mulD (g2 idxD (gVar 0) (gC (.int 1))) (g2 idxD (gVar 1) (gC (.int 1)))) (ga0))))
def F_times : Fn := runB 2 g_times
def g_row_by : GS := gsSeq (gsPar 2 3 (gC (.int 0)) (g1 lenD (gVar 1))) (gsSeq (gsWhile (fun _ => fuelN) (gtAnd (gtV (g2 ltD (gVar 2) (gVar 3))) (gtV (g2 eqD (g2 idxD (g2 idxD (gVar 1) (gVar 2)) (gC (.int 0))) (gC (.int 0))))) (gsAug 2 addI (gC (.int 1)))) (gsSeq (gsWhile (fun _ => fuelN) (gtAnd (gtV (g2 ltD (gVar 2) (gVar 3))) (gtV (g2 eqD (g2 idxD (g2 idxD (gVar 1) (g2 subD (gVar 3) (gC (.int 1)))) (gC (.int 0))) (gC (.int 0))))) (gsAug 3 subD (gC (.int 1)))) (gsRet (gIte (gtV (g2 ltD (gVar 2) (gVar 3))) (gTup (glc (g2 addD (gVar 0) (gVar 2)) (glc (g1 tupleD (gList (glSl (gVar 1) (gpS (gVar 2)) (gpS (gVar 3))))) (gl0)))) (gC dNOUGHT)))))
def F_row_by : Fn := runB 4 g_row_by
def g_end_of : GS := gsRet (g2 addD (g2 idxD (gVar 0) (gC (.int 0))) (g1 lenD (g2 idxD (gVar 0) (gC (.int 1)))))
def F_end_of : Fn := runB 1 g_end_of
def g_at_place : GS := gsRet (gIte (gtV (gChain leD ltD (g2 idxD (gVar 0) (gC (.int 0))) (gVar 1) (gCall (F_end_of) (gac (gVar 0) (ga0))))) (g2 idxD (g2 idxD (gVar 0) (gC (.int 1))) (g2 subD (gVar 1) (g2 idxD (gVar 0) (gC (.int 0))))) (gC dZERO))
def F_at_place : Fn := runB 2 g_at_place
def g_row_product : GS := gsSeq (gsIf (gtOr (gtV (g2 eqD (gVar 0) (gC dNOUGHT))) (gtV (g2 eqD (gVar 1) (gC dNOUGHT)))) (gsRet (gC dNOUGHT)) (gsN)) (gsSeq (gsNew 2 (glRep (glD (glc (gC dZERO) (gl0))) (g2 subD (g2 addD (g1 lenD (g2 idxD (gVar 0) (gC (.int 1)))) (g1 lenD (g2 idxD (gVar 1) (gC (.int 1))))) (gC (.int 1))))) (gsSeq (gsFor (gxE (g2 idxD (gVar 0) (gC (.int 1)))) (ggT 2 (ggc (ggN 3) (ggc (ggN 4) (gg0)))) (gsFor (gxE (g2 idxD (gVar 1) (gC (.int 1)))) (ggT 2 (ggc (ggN 5) (ggc (ggN 6) (gg0)))) (gsAsg (gCall (F_plus) (gac (gMIx 2 (g2 addD (gVar 3) (gVar 5))) (gac (gCall (F_times) (gac (gVar 4) (gac (gVar 6) (ga0)))) (ga0)))) (ggM 2 (g2 addD (gVar 3) (gVar 5)))))) (gsRet (gCall (F_row_by) (gac (g2 addD (g2 idxD (gVar 0) (gC (.int 0))) (g2 idxD (gVar 1) (gC (.int 0)))) (gac (gFrz 2) (ga0)))))))
def F_row_product : Fn := runB 7 g_row_product
def g_part_from : GS := gsSeq (gsAsg (g2 divN (g2 addD (g2 subD (g2 idxD (gVar 0) (gC (.int 0))) (gVar 1)) (gC (.int 1))) (gC (.int 2))) (ggN 2)) (gsSeq (gsAsg (g2 divN (g2 addD (g2 subD (gCall (F_end_of) (gac (gVar 0) (ga0))) (gVar 1)) (gC (.int 1))) (gC (.int 2))) (ggN 3)) (gsRet (gCall (F_row_by) (gac (gVar 2) (gac (gList (glLc (gxR2 (gVar 2) (gVar 3)) 4 [4] (gtYes) (gCall (F_at_place) (gac (gVar 0) (gac (g2 addD (g2 mulD (gC (.int 2)) (gVar 4)) (gVar 1)) (ga0)))))) (ga0))))))
def F_part_from : Fn := runB 5 g_part_from
def g_even_of : GS := gsRet (gCall (F_part_from) (gac (gVar 0) (gac (gC (.int 0)) (ga0))))
def F_even_of : Fn := runB 1 g_even_of
def g_is_laid : GS := gsSeq (gsIf (gtOr (gtNot (gtV (g1 (isiD .tuple) (gVar 0)))) (gtOr (gtV (g2 neD (g1 lenD (gVar 0)) (gC (.int 2)))) (gtOr (gtNot (gtV (gCall (F_is_whole) (gac (g2 idxD (gVar 0) (gC (.int 0))) (ga0))))) (gtNot (gtV (g1 (isiD .tuple) (g2 idxD (gVar 0) (gC (.int 1))))))))) (gsRet (gC (.bool false))) (gsN)) (gsSeq (gsIf (gtV (g2 eqD (g2 idxD (gVar 0) (gC (.int 1))) (gTup (gl0)))) (gsRet (g2 eqD (g2 idxD (gVar 0) (gC (.int 0))) (gC (.int 0)))) (gsN)) (gsRet (gAnd (g1 allD (gList (glLc (gxT (g2 idxD (gVar 0) (gC (.int 1)))) 1 [1] (gtYes) (gCall (F_is_ratio) (gac (gVar 1) (ga0)))))) (gAnd (g2 neD (g2 idxD (g2 idxD (g2 idxD (gVar 0) (gC (.int 1))) (gC (.int 0))) (gC (.int 0))) (gC (.int 0))) (g2 neD (g2 idxD (g2 idxD (g2 idxD (gVar 0) (gC (.int 1))) (g1 negD (gC (.int 1)))) (gC (.int 0))) (gC (.int 0)))))))
def F_is_laid : Fn := runB 2 g_is_laid
def g_check_row : GS := gsIf (gtNot (gtV (gCall (F_is_laid) (gac (gVar 0) (ga0))))) (gsNever) (gsN)
def F_check_row : Fn := runB 1 g_check_row
def g_are_two_rows : GS := gsRet (gAnd (g1 (isiD .tuple) (gVar 0)) (gAnd (g2 eqD (g1 lenD (gVar 0)) (gC (.int 2))) (gAnd (gCall (F_is_laid) (gac (g2 idxD (gVar 0) (gC (.int 0))) (ga0))) (gCall (F_is_laid) (gac (g2 idxD (gVar 0) (gC (.int 1))) (ga0))))))
def F_are_two_rows : Fn := runB 1 g_are_two_rows
def g_check_splitter : GS := gsIf (gtNot (gtV (gCall (F_are_two_rows) (gac (gVar 0) (ga0))))) (gsNever) (gsN)
def F_check_splitter : Fn := runB 1 g_check_splitter
def g_split_by : GS := gsRet (g1 tupleD (gList (glLc (gxT (gVar 0)) 2 [2] (gtYes) (gCall (F_even_of) (gac (gCall (F_row_product) (gac (gVar 2) (gac (gVar 1) (ga0)))) (ga0))))))
def F_split_by : Fn := runB 3 g_split_by
def g_is_tree_of (Fself : Fn) : GS := gsSeq (gsIf (gtV (g1 isND (gVar 0))) (gsRet (gC (.bool true))) (gsN)) (gsSeq (gsIf (gtOr (gtV (g2 eqD (gVar 1) (gC (.int 0)))) (gtOr (gtNot (gtV (g1 (isiD .tuple) (gVar 0)))) (gtV (g2 neD (g1 lenD (gVar 0)) (gC (.int 2)))))) (gsRet (gC (.bool false))) (gsN)) (gsRet (g1 allD (gList (glLc (gxT (gVar 0)) 2 [2] (gtYes) (gCall (Fself) (gac (gVar 2) (gac (g2 subD (gVar 1) (gC (.int 1))) (ga0)))))))))
def F_is_tree_of : Nat → Fn
  | 0 => failF
  | n + 1 => runB 3 (g_is_tree_of (F_is_tree_of n))
def g_is_tree : GS := gsRet (gCall (F_is_tree_of 6) (gac (gVar 0) (gac (gC (.int 4)) (ga0))))
def F_is_tree : Fn := runB 1 g_is_tree
def g_check_tree : GS := gsIf (gtNot (gtV (gCall (F_is_tree) (gac (gVar 0) (ga0))))) (gsNever) (gsN)
def F_check_tree : Fn := runB 1 g_check_tree
def g_check_depth : GS := gsIf (gtNot (gtV (gCall (F_is_between) (gac (gVar 0) (gac (gC (.int 0)) (gac (gC (.int 4)) (ga0))))))) (gsNever) (gsN)
def F_check_depth : Fn := runB 1 g_check_depth
def g_channels_in (Fself : Fn) : GS := gsSeq (gsIf (gtV (g1 isND (gVar 1))) (gsRet (gList (glD (glc (gVar 2) (gl0))))) (gsN)) (gsSeq (gsAsg (gCall (F_split_by) (gac (gVar 0) (gac (gVar 2) (ga0)))) (ggT 2 (ggc (ggN 3) (ggc (ggN 4) (gg0))))) (gsRet (g2 addD (gCall (Fself) (gac (gVar 0) (gac (g2 idxD (gVar 1) (gC (.int 0))) (gac (gVar 3) (ga0))))) (gCall (Fself) (gac (gVar 0) (gac (g2 idxD (gVar 1) (gC (.int 1))) (gac (gVar 4) (ga0))))))))
def F_channels_in : Nat → Fn
  | 0 => failF
  | n + 1 => runB 5 (g_channels_in (F_channels_in n))
def g_numbers_in : GS := gsRet (g1 lenD (gList (glLc (gxT (g2 idxD (gVar 0) (gC (.int 1)))) 1 [1] (gtV (g2 neD (g2 idxD (gVar 1) (gC (.int 0))) (gC (.int 0)))) (gVar 1))))
def F_numbers_in : Fn := runB 2 g_numbers_in
def g_best_in (Fself : Fn) : GS := gsSeq (gsAsg (gCall (F_numbers_in) (gac (gVar 1) (ga0))) (ggN 3)) (gsSeq (gsIf (gtV (g2 eqD (gVar 2) (gC (.int 0)))) (gsRet (gTup (glc (gVar 3) (glc (gC .none) (gl0))))) (gsN)) (gsSeq (gsAsg (gList (glLc (gxT (gCall (F_split_by) (gac (gVar 0) (gac (gVar 1) (ga0))))) 6 [6] (gtYes) (gCall (Fself) (gac (gVar 0) (gac (gVar 6) (gac (g2 subD (gVar 2) (gC (.int 1))) (ga0))))))) (ggN 4)) (gsSeq (gsAsg (g2 addD (g2 idxD (g2 idxD (gVar 4) (gC (.int 0))) (gC (.int 0))) (g2 idxD (g2 idxD (gVar 4) (gC (.int 1))) (gC (.int 0)))) (ggN 5)) (gsRet (gIte (gtV (g2 ltD (gVar 5) (gVar 3))) (gTup (glc (gVar 5) (glc (gTup (glc (g2 idxD (g2 idxD (gVar 4) (gC (.int 0))) (gC (.int 1))) (glc (g2 idxD (g2 idxD (gVar 4) (gC (.int 1))) (gC (.int 1))) (gl0)))) (gl0)))) (gTup (glc (gVar 3) (glc (gC .none) (gl0)))))))))
def F_best_in : Nat → Fn
  | 0 => failF
  | n + 1 => runB 7 (g_best_in (F_best_in n))
def g_tree_channels : GS := gsSeq (gsDrop (gCall (F_check_splitter) (gac (gVar 0) (ga0)))) (gsSeq (gsDrop (gCall (F_check_tree) (gac (gVar 1) (ga0)))) (gsSeq (gsDrop (gCall (F_check_row) (gac (gVar 2) (ga0)))) (gsRet (g1 tupleD (gCall (F_channels_in 6) (gac (gVar 0) (gac (gVar 1) (gac (gVar 2) (ga0)))))))))
def F_tree_channels : Fn := runB 3 g_tree_channels
def g_fewest_tree : GS := gsSeq (gsDrop (gCall (F_check_splitter) (gac (gVar 0) (ga0)))) (gsSeq (gsDrop (gCall (F_check_row) (gac (gVar 1) (ga0)))) (gsSeq (gsDrop (gCall (F_check_depth) (gac (gVar 2) (ga0)))) (gsRet (g2 idxD (gCall (F_best_in 6) (gac (gVar 0) (gac (gVar 1) (gac (gVar 2) (ga0))))) (gC (.int 1))))))
def F_fewest_tree : Fn := runB 3 g_fewest_tree
def g_fewest_numbers : GS := gsSeq (gsDrop (gCall (F_check_splitter) (gac (gVar 0) (ga0)))) (gsSeq (gsDrop (gCall (F_check_row) (gac (gVar 1) (ga0)))) (gsSeq (gsDrop (gCall (F_check_depth) (gac (gVar 2) (ga0)))) (gsRet (g2 idxD (gCall (F_best_in 6) (gac (gVar 0) (gac (gVar 1) (gac (gVar 2) (ga0))))) (gC (.int 0))))))
def F_fewest_numbers : Fn := runB 3 g_fewest_numbers
def g_law_spring : GS := gsSeq (gsAsg (gIte (gtV (g2 ltD (gVar 1) (g1 lenD (gVar 0)))) (g1 intD (g2 idxD (gVar 0) (gVar 1))) (g2 addD (g2 addD (g2 mulD (gC (.int 6007)) (gVar 1)) (gC (.int 911))) (g2 modD (g1 intD (g1 sumD (gList (glSl (gVar 0) (gpN) (gpS (gC (.int 6))))))) (gC (.int 1000037))))) (ggN 2)) (gsSeq (gsAsg (g2 addD (gC (.int 40127)) (g2 mulD (gC (.int 3001)) (gVar 1))) (ggN 3)) (gsSeq (gsFor (gxL (gList (glCat (glSl (gVar 0) (gpN) (gpS (gC (.int 9)))) (glD (glc (gVar 2) (gl0)))))) (ggN 4) (gsAsg (g2 modD (g1 intD (g2 addD (g2 addD (g2 mulD (gVar 3) (gC (.int 47653))) (g2 modD (g1 intD (gVar 4)) (gC (.int 2147483563)))) (gC (.int 29)))) (gC (.int 2147483563))) (ggN 3))) (gsRetL (glD (glc (gIte (gtOr (gtV (g2 ltD (gVar 2) (gC (.int 0)))) (gtV (g2 geD (gVar 2) (g2 powD (gC (.int 10)) (gC (.int 18)))))) (g1 absD (gVar 2)) (gC (.int 0))) (glc (gVar 3) (glc (gC (.int 0)) (gl0))))))))
def FL_law_spring : FnL := runL 5 g_law_spring
def g_law_sip : GS := gsSeq (gsIf (gtV (g2 gtD (gMIx 0 (gC (.int 0))) (gC (.int 0)))) (gsSeq (gsAsg (g2 dmD (gMIx 0 (gC (.int 0))) (gVar 1)) (ggT 2 (ggc (ggM 0 (gC (.int 0))) (ggc (ggN 2) (gg0))))) (gsRet (gVar 2))) (gsN)) (gsSeq (gsAsg (g2 addD (gMIx 0 (gC (.int 2))) (gC (.int 1))) (ggM 0 (gC (.int 2)))) (gsSeq (gsAsg (g2 addD (gC (.int 30011)) (g2 mulD (gC (.int 6)) (g1 intD (gMIx 0 (gC (.int 2)))))) (ggN 3)) (gsSeq (gsAsg (g2 modD (g1 intD (g2 addD (g2 addD (g2 mulD (gMIx 0 (gC (.int 1))) (gVar 3)) (g2 mulD (gC (.int 60013)) (gMIx 0 (gC (.int 2))))) (gC (.int 11)))) (gC (.int 2147483563))) (ggM 0 (gC (.int 1)))) (gsRet (g2 modD (g1 intD (g2 divN (gMIx 0 (gC (.int 1))) (gC (.int 97)))) (gVar 1))))))
def F_law_sip : Fn := runB 4 g_law_sip
def g_law_pick : GS := gsRet (g2 idxD (gVar 1) (gCall (F_law_sip) (gam 0 (gac (g1 lenD (gVar 1)) (ga0)))))
def F_law_pick : Fn := runB 2 g_law_pick
def g_law_deep : GS := gsSeq (gsPar 0 1 (g1 absD (gVar 0)) (g1 absD (gVar 1))) (gsSeq (gsWhile (fun _ => fuelN) (gtV (g2 gtD (gVar 1) (gC (.int 0)))) (gsPar 0 1 (gVar 1) (g2 modD (g1 intD (gVar 0)) (gVar 1)))) (gsRet (gVar 0)))
def F_law_deep : Fn := runB 2 g_law_deep
def g_law_low : GS := gsSeq (gsAsg (gIte (gtV (g2 gtD (gVar 1) (gC (.int 0)))) (gCall (F_law_deep) (gac (gVar 0) (gac (gVar 1) (ga0)))) (g2 subD (gC (.int 0)) (gCall (F_law_deep) (gac (gVar 0) (gac (gVar 1) (ga0)))))) (ggN 2)) (gsRet (gTup (glc (g2 divN (gVar 0) (gVar 2)) (glc (g2 divN (gVar 1) (gVar 2)) (gl0)))))
def F_law_low : Fn := runB 3 g_law_low
def g_law_plus : GS := gsRet (gCall (F_law_low) (gac (g2 addD (g2 mulD (g2 idxD (gVar 0) (gC (.int 0))) (g2 idxD (gVar 1) (gC (.int 1)))) (g2 mulD (g2 idxD (gVar 1) (gC (.int 0))) (g2 idxD (gVar 0) (gC (.int 1))))) (gac (g2 mulD (g2 idxD (gVar 0) (gC (.int 1))) (g2 idxD (gVar 1) (gC (.int 1)))) (ga0))))
def F_law_plus : Fn := runB 2 g_law_plus
def g_law_prod : GS := gsRet (gCall (F_law_low) (gac (g2 mulD (g2 idxD (gVar 0) (gC (.int 0))) (g2 idxD (gVar 1) (gC (.int 0)))) (gac (g2 mulD (g2 idxD (gVar 0) (gC (.int 1))) (g2 idxD (gVar 1) (gC (.int 1)))) (ga0))))
def F_law_prod : Fn := runB 2 g_law_prod
def g_law_per : GS := gsRet (gCall (F_law_low) (gac (g2 mulD (g2 idxD (gVar 0) (gC (.int 0))) (g2 idxD (gVar 1) (gC (.int 1)))) (gac (g2 mulD (g2 idxD (gVar 0) (gC (.int 1))) (g2 idxD (gVar 1) (gC (.int 0)))) (ga0))))
def F_law_per : Fn := runB 2 g_law_per
def g_law_ints : GS := gsSeq (gsAsg (gC (.int 1)) (ggN 1)) (gsSeq (gsFor (gxT (gVar 0)) (ggN 2) (gsAsg (g2 mulD (gVar 1) (g2 divN (g2 idxD (gVar 2) (gC (.int 1))) (gCall (F_law_deep) (gac (gVar 1) (gac (g2 idxD (gVar 2) (gC (.int 1))) (ga0)))))) (ggN 1))) (gsRet (gTup (glc (gList (glLc (gxT (gVar 0)) 2 [2] (gtYes) (g2 mulD (g2 idxD (gVar 2) (gC (.int 0))) (g2 divN (gVar 1) (g2 idxD (gVar 2) (gC (.int 1))))))) (glc (gVar 1) (gl0))))))
def F_law_ints : Fn := runB 3 g_law_ints
def g_law_any : GS := gsSeq (gsAsg (gCall (F_law_pick) (gam 0 (gac (gList (glD (glc (gC (.int 4)) (glc (gC (.int 4)) (glc (gC (.int 4)) (glc (gC (.int 4)) (glc (gC (.int 9)) (glc (gC (.int 60)) (gl0))))))))) (ga0)))) (ggN 1)) (gsRet (gCall (F_law_low) (gac (g2 subD (gCall (F_law_sip) (gam 0 (gac (g2 addD (g2 mulD (gC (.int 2)) (gVar 1)) (gC (.int 1))) (ga0)))) (gVar 1)) (gac (gCall (F_law_pick) (gam 0 (gac (gList (glD (glc (gC (.int 1)) (glc (gC (.int 1)) (glc (gC (.int 1)) (glc (gC (.int 2)) (glc (gC (.int 2)) (glc (gC (.int 3)) (glc (gC (.int 4)) (glc (gC (.int 15)) (gl0))))))))))) (ga0)))) (ga0)))))
def F_law_any : Fn := runB 2 g_law_any
def g_law_some : GS := gsSeq (gsAsg (g2 addD (gC (.int 1)) (gCall (F_law_sip) (gam 0 (gac (gCall (F_law_pick) (gam 0 (gac (gList (glD (glc (gC (.int 1)) (glc (gC (.int 3)) (glc (gC (.int 3)) (glc (gC (.int 9)) (glc (gC (.int 60)) (gl0)))))))) (ga0)))) (ga0))))) (ggN 1)) (gsRet (gCall (F_law_low) (gac (gIte (gtV (g2 eqD (gCall (F_law_sip) (gam 0 (gac (gC (.int 2)) (ga0)))) (gC (.int 0)))) (gVar 1) (g2 subD (gC (.int 0)) (gVar 1))) (gac (gCall (F_law_pick) (gam 0 (gac (gList (glD (glc (gC (.int 1)) (glc (gC (.int 1)) (glc (gC (.int 1)) (glc (gC (.int 2)) (glc (gC (.int 2)) (glc (gC (.int 3)) (glc (gC (.int 4)) (glc (gC (.int 15)) (gl0))))))))))) (ga0)))) (ga0)))))
def F_law_some : Fn := runB 2 g_law_some
def g_law_row : GS := gsSeq (gsNew 2 (glD (glc (gCall (F_law_some) (gam 0 (ga0))) (gl0)))) (gsSeq (gsFor (gxR1 (gCall (F_law_sip) (gam 0 (gac (gVar 1) (ga0))))) (ggN 3) (gsApp 2 (gCall (F_law_any) (gam 0 (ga0))))) (gsSeq (gsAsg (gIte (gtV (g2 eqD (g2 idxD (gMIx 2 (g1 negD (gC (.int 1)))) (gC (.int 0))) (gC (.int 0)))) (gCall (F_law_some) (gam 0 (ga0))) (gMIx 2 (g1 negD (gC (.int 1))))) (ggM 2 (g1 negD (gC (.int 1))))) (gsRet (gTup (glc (g2 subD (gCall (F_law_sip) (gam 0 (gac (gC (.int 7)) (ga0)))) (gC (.int 3))) (glc (g1 tupleD (gFrz 2)) (gl0)))))))
def F_law_row : Fn := runB 4 g_law_row
def g_law_mild_row : GS := gsRet (gIte (gtV (g2 eqD (gCall (F_law_sip) (gam 0 (gac (gC (.int 9)) (ga0)))) (gC (.int 0)))) (gTup (glc (gC (.int 0)) (glc (gTup (gl0)) (gl0)))) (gCall (F_law_row) (gam 0 (gac (gVar 1) (ga0)))))
def F_law_mild_row : Fn := runB 2 g_law_mild_row
def g_law_trim : GS := gsSeq (gsAsg (gList (glLc (gxR1 (g1 lenD (gVar 1))) 3 [3] (gtV (g2 neD (g2 idxD (g2 idxD (gVar 1) (gVar 3)) (gC (.int 0))) (gC (.int 0)))) (gVar 3))) (ggN 2)) (gsSeq (gsIf (gtV (g2 eqD (gVar 2) (gList (glD (gl0))))) (gsRet (gTup (glc (gC (.int 0)) (glc (gTup (gl0)) (gl0))))) (gsN)) (gsRet (gTup (glc (g2 addD (gVar 0) (g2 idxD (gVar 2) (gC (.int 0)))) (glc (g1 tupleD (gList (glSl (gVar 1) (gpS (g2 idxD (gVar 2) (gC (.int 0)))) (gpS (g2 addD (g2 idxD (gVar 2) (g1 negD (gC (.int 1)))) (gC (.int 1))))))) (gl0))))))
def F_law_trim : Fn := runB 4 g_law_trim
def g_law_at : GS := gsRet (gIte (gtV (gChain leD ltD (gC (.int 0)) (g2 subD (gVar 1) (g2 idxD (gVar 0) (gC (.int 0)))) (g1 lenD (g2 idxD (gVar 0) (gC (.int 1)))))) (g2 idxD (g2 idxD (gVar 0) (gC (.int 1))) (g2 subD (gVar 1) (g2 idxD (gVar 0) (gC (.int 0))))) (gTup (glc (gC (.int 0)) (glc (gC (.int 1)) (gl0)))))
def F_law_at : Fn := runB 2 g_law_at
def g_law_times : GS := gsSeq (gsIf (gtOr (gtV (g2 eqD (g2 idxD (gVar 0) (gC (.int 1))) (gTup (gl0)))) (gtV (g2 eqD (g2 idxD (gVar 1) (gC (.int 1))) (gTup (gl0))))) (gsRet (gTup (glc (gC (.int 0)) (glc (gTup (gl0)) (gl0))))) (gsN)) (gsSeq (gsAsg (gCall (F_law_ints) (gac (g2 idxD (gVar 0) (gC (.int 1))) (ga0))) (ggT 2 (ggc (ggN 2) (ggc (ggN 3) (gg0))))) (gsSeq (gsAsg (gCall (F_law_ints) (gac (g2 idxD (gVar 1) (gC (.int 1))) (ga0))) (ggT 2 (ggc (ggN 4) (ggc (ggN 5) (gg0))))) (gsSeq (gsNew 6 (glRep (glD (glc (gC (.int 0)) (gl0))) (g2 subD (g2 addD (g1 lenD (gVar 2)) (g1 lenD (gVar 4))) (gC (.int 1))))) (gsSeq (gsFor (gxR1 (g1 lenD (gVar 2))) (ggN 7) (gsFor (gxR1 (g1 lenD (gVar 4))) (ggN 8) (gsAsg (g2 addD (gMIx 6 (g2 addD (gVar 7) (gVar 8))) (g2 mulD (g2 idxD (gVar 2) (gVar 7)) (g2 idxD (gVar 4) (gVar 8)))) (ggM 6 (g2 addD (gVar 7) (gVar 8)))))) (gsRet (gCall (F_law_trim) (gac (g2 addD (g2 idxD (gVar 0) (gC (.int 0))) (g2 idxD (gVar 1) (gC (.int 0)))) (gac (gList (glLc (gxL (gFrz 6)) 9 [9] (gtYes) (gCall (F_law_low) (gac (gVar 9) (gac (g2 mulD (gVar 3) (gVar 5)) (ga0)))))) (ga0)))))))))
def F_law_times : Fn := runB 10 g_law_times
def g_law_sum : GS := gsSeq (gsIf (gtOr (gtV (g2 eqD (g2 idxD (gVar 0) (gC (.int 1))) (gTup (gl0)))) (gtV (g2 eqD (g2 idxD (gVar 1) (gC (.int 1))) (gTup (gl0))))) (gsRet (gIte (gtV (g2 eqD (g2 idxD (gVar 1) (gC (.int 1))) (gTup (gl0)))) (gVar 0) (gVar 1))) (gsN)) (gsSeq (gsPar 2 3 (g2 minD (g2 idxD (gVar 0) (gC (.int 0))) (g2 idxD (gVar 1) (gC (.int 0)))) (g2 maxD (g2 addD (g2 idxD (gVar 0) (gC (.int 0))) (g1 lenD (g2 idxD (gVar 0) (gC (.int 1))))) (g2 addD (g2 idxD (gVar 1) (gC (.int 0))) (g1 lenD (g2 idxD (gVar 1) (gC (.int 1))))))) (gsRet (gCall (F_law_trim) (gac (gVar 2) (gac (gList (glLc (gxR2 (gVar 2) (gVar 3)) 4 [4] (gtYes) (gCall (F_law_plus) (gac (gCall (F_law_at) (gac (gVar 0) (gac (gVar 4) (ga0)))) (gac (gCall (F_law_at) (gac (gVar 1) (gac (gVar 4) (ga0)))) (ga0)))))) (ga0))))))
def F_law_sum : Fn := runB 5 g_law_sum
def g_law_scaled : GS := gsRet (gCall (F_law_trim) (gac (g2 idxD (gVar 0) (gC (.int 0))) (gac (gList (glLc (gxT (g2 idxD (gVar 0) (gC (.int 1)))) 2 [2] (gtYes) (gCall (F_law_prod) (gac (gVar 2) (gac (gVar 1) (ga0)))))) (ga0))))
def F_law_scaled : Fn := runB 3 g_law_scaled
def g_law_less : GS := gsRet (gCall (F_law_sum) (gac (gVar 0) (gac (gCall (F_law_scaled) (gac (gVar 1) (gac (gTup (glc (g1 negD (gC (.int 1))) (glc (gC (.int 1)) (gl0)))) (ga0)))) (ga0))))
def F_law_less : Fn := runB 2 g_law_less
def g_law_moved : GS := gsRet (gIte (gtV (g2 neD (g2 idxD (gVar 0) (gC (.int 1))) (gTup (gl0)))) (gTup (glc (g2 addD (g2 idxD (gVar 0) (gC (.int 0))) (gVar 1)) (glc (g2 idxD (gVar 0) (gC (.int 1))) (gl0)))) (gVar 0))
def F_law_moved : Fn := runB 2 g_law_moved
def g_law_half : GS := gsSeq (gsAsg (g2 addD (g2 idxD (gVar 0) (gC (.int 0))) (g2 modD (g1 intD (g2 addD (g2 idxD (gVar 0) (gC (.int 0))) (gVar 1))) (gC (.int 2)))) (ggN 2)) (gsRet (gCall (F_law_trim) (gac (g2 divN (g2 subD (gVar 2) (gVar 1)) (gC (.int 2))) (gac (gList (glOf (gSl2 (g2 idxD (gVar 0) (gC (.int 1))) (g2 subD (gVar 2) (g2 idxD (gVar 0) (gC (.int 0))))))) (ga0)))))
def F_law_half : Fn := runB 3 g_law_half
def g_law_wide : GS := gsSeq (gsAsg (gList (glD (gl0))) (ggN 1)) (gsSeq (gsFor (gxT (g2 idxD (gVar 0) (gC (.int 1)))) (ggN 2) (gsAsg (g2 addD (gVar 1) (gList (glD (glc (gVar 2) (glc (gTup (glc (gC (.int 0)) (glc (gC (.int 1)) (gl0)))) (gl0)))))) (ggN 1))) (gsRet (gTup (glc (g2 mulD (gC (.int 2)) (g2 idxD (gVar 0) (gC (.int 0)))) (glc (g1 tupleD (gList (glSl (gVar 1) (gpN) (gpS (g1 negD (gC (.int 1))))))) (gl0))))))
def F_law_wide : Fn := runB 3 g_law_wide
def g_law_parted : GS := gsRet (gTup (glc (gCall (F_law_half) (gac (gCall (F_law_times) (gac (g2 idxD (gVar 0) (gC (.int 0))) (gac (gVar 1) (ga0)))) (gac (gC (.int 0)) (ga0)))) (glc (gCall (F_law_half) (gac (gCall (F_law_times) (gac (g2 idxD (gVar 0) (gC (.int 1))) (gac (gVar 1) (ga0)))) (gac (gC (.int 0)) (ga0)))) (gl0))))
def F_law_parted : Fn := runB 2 g_law_parted
def g_law_united : GS := gsRet (gCall (F_law_sum) (gac (gCall (F_law_times) (gac (g2 idxD (gVar 0) (gC (.int 0))) (gac (gCall (F_law_wide) (gac (g2 idxD (gVar 1) (gC (.int 0))) (ga0))) (ga0)))) (gac (gCall (F_law_times) (gac (g2 idxD (gVar 0) (gC (.int 1))) (gac (gCall (F_law_wide) (gac (g2 idxD (gVar 1) (gC (.int 1))) (ga0))) (ga0)))) (ga0))))
def F_law_united : Fn := runB 2 g_law_united
def g_law_parts : GS := gsRet (gList (glLc (gxT (gVar 0)) 1 [1] (gtYes) (gList (glD (glc (gCall (F_law_half) (gac (gVar 1) (gac (gC (.int 0)) (ga0)))) (glc (gCall (F_law_moved) (gac (gCall (F_law_half) (gac (gVar 1) (gac (gC (.int 1)) (ga0)))) (gac (gC (.int 1)) (ga0)))) (gl0)))))))
def F_law_parts : Fn := runB 2 g_law_parts
def g_law_det : GS := gsSeq (gsAsg (gCall (F_law_parts) (gac (gVar 0) (ga0))) (ggL 2 (ggc (ggL 2 (ggc (ggN 1) (ggc (ggN 2) (gg0)))) (ggc (ggL 2 (ggc (ggN 3) (ggc (ggN 4) (gg0)))) (gg0))))) (gsRet (gCall (F_law_less) (gac (gCall (F_law_times) (gac (gVar 1) (gac (gVar 4) (ga0)))) (gac (gCall (F_law_times) (gac (gVar 2) (gac (gVar 3) (ga0)))) (ga0)))))
def F_law_det : Fn := runB 5 g_law_det
def g_law_undone : GS := gsSeq (gsAsg (gCall (F_law_parts) (gac (gVar 0) (ga0))) (ggL 2 (ggc (ggL 2 (ggc (ggN 1) (ggc (ggN 2) (gg0)))) (ggc (ggL 2 (ggc (ggN 3) (ggc (ggN 4) (gg0)))) (gg0))))) (gsSeq (gsAsg (gCall (F_law_det) (gac (gVar 0) (ga0))) (ggN 5)) (gsSeq (gsAsg (gTup (glc (g2 subD (gC (.int 0)) (g2 idxD (gVar 5) (gC (.int 0)))) (glc (gTup (glc (gCall (F_law_per) (gac (gTup (glc (gC (.int 1)) (glc (gC (.int 1)) (gl0)))) (gac (g2 idxD (g2 idxD (gVar 5) (gC (.int 1))) (gC (.int 0))) (ga0)))) (gl0))) (gl0)))) (ggN 6)) (gsSeq (gsAsg (gTup (glc (g2 idxD (gVar 6) (gC (.int 0))) (glc (gTup (glc (gCall (F_law_prod) (gac (g2 idxD (g2 idxD (gVar 6) (gC (.int 1))) (gC (.int 0))) (gac (gTup (glc (g1 negD (gC (.int 1))) (glc (gC (.int 1)) (gl0)))) (ga0)))) (gl0))) (gl0)))) (ggN 7)) (gsSeq (gsAsg (gCall (F_law_sum) (gac (gCall (F_law_wide) (gac (gCall (F_law_times) (gac (gVar 4) (gac (gVar 6) (ga0)))) (ga0))) (gac (gCall (F_law_moved) (gac (gCall (F_law_wide) (gac (gCall (F_law_times) (gac (gVar 3) (gac (gVar 7) (ga0)))) (ga0))) (gac (gC (.int 1)) (ga0)))) (ga0)))) (ggN 8)) (gsRet (gTup (glc (gVar 8) (glc (gCall (F_law_sum) (gac (gCall (F_law_wide) (gac (gCall (F_law_times) (gac (gVar 2) (gac (gVar 7) (ga0)))) (ga0))) (gac (gCall (F_law_moved) (gac (gCall (F_law_wide) (gac (gCall (F_law_times) (gac (gVar 1) (gac (gVar 6) (ga0)))) (ga0))) (gac (gC (.int 1)) (ga0)))) (ga0)))) (gl0)))))))))
def F_law_undone : Fn := runB 9 g_law_undone
def g_law_rungs : GS := gsSeq (gsNew 3 (glD (gl0))) (gsSeq (gsFor (gxR1 (gCall (F_law_sip) (gam 0 (gac (g2 addD (gVar 1) (gC (.int 1))) (ga0))))) (ggN 4) (gsSeq (gsAsg (gCall (F_law_mild_row) (gam 0 (gac (gVar 2) (ga0)))) (ggN 5)) (gsApp 3 (gTup (glc (gCall (F_law_pick) (gam 0 (gac (gList (glD (glc (gC (.str "low")) (glc (gC (.str "high")) (gl0))))) (ga0)))) (glc (gIte (gtV (g2 neD (g2 idxD (gVar 5) (gC (.int 1))) (gTup (gl0)))) (gTup (glc (g2 subD (gCall (F_law_sip) (gam 0 (gac (gC (.int 3)) (ga0)))) (gC (.int 1))) (glc (g2 idxD (gVar 5) (gC (.int 1))) (gl0)))) (gVar 5)) (gl0))))))) (gsRet (gTup (glc (g1 tupleD (gFrz 3)) (glc (gTup (glc (gTup (glc (gCall (F_law_some) (gam 0 (ga0))) (glc (g2 subD (gCall (F_law_sip) (gam 0 (gac (gC (.int 3)) (ga0)))) (gC (.int 1))) (gl0)))) (glc (gTup (glc (gCall (F_law_some) (gam 0 (ga0))) (glc (g2 subD (gCall (F_law_sip) (gam 0 (gac (gC (.int 3)) (ga0)))) (gC (.int 1))) (gl0)))) (gl0)))) (gl0))))))
def F_law_rungs : Fn := runB 6 g_law_rungs
def g_law_laddered : GS := gsSeq (gsAsg (g2 idxD (gVar 0) (gC (.int 1))) (ggT 2 (ggc (ggT 2 (ggc (ggN 1) (ggc (ggN 2) (gg0)))) (ggc (ggT 2 (ggc (ggN 3) (ggc (ggN 4) (gg0)))) (gg0))))) (gsSeq (gsPar 5 6 (gTup (glc (g2 mulD (gC (.int 2)) (gVar 2)) (glc (gTup (glc (gVar 1) (gl0))) (gl0)))) (gTup (glc (g2 addD (g2 mulD (gC (.int 2)) (gVar 4)) (gC (.int 1))) (glc (gTup (glc (gVar 3) (gl0))) (gl0))))) (gsSeq (gsFor (gxT (g2 idxD (gVar 0) (gC (.int 0)))) (ggT 2 (ggc (ggN 7) (ggc (ggN 8) (gg0)))) (gsIf (gtV (g2 eqD (gVar 7) (gC (.str "low")))) (gsAsg (gCall (F_law_sum) (gac (gVar 5) (gac (gCall (F_law_times) (gac (gCall (F_law_wide) (gac (gVar 8) (ga0))) (gac (gVar 6) (ga0)))) (ga0)))) (ggN 5)) (gsAsg (gCall (F_law_sum) (gac (gVar 6) (gac (gCall (F_law_times) (gac (gCall (F_law_wide) (gac (gVar 8) (ga0))) (gac (gVar 5) (ga0)))) (ga0)))) (ggN 6)))) (gsRet (gTup (glc (gVar 5) (glc (gVar 6) (gl0)))))))
def F_law_laddered : Fn := runB 9 g_law_laddered
def g_law_safe : GS := gsRet (gCall (F_law_laddered) (gac (gCall (F_law_rungs) (gam 0 (gac (gVar 1) (gac (gC (.int 2)) (ga0))))) (ga0)))
def F_law_safe : Fn := runB 2 g_law_safe
def g_law_count : GS := gsRet (g1 lenD (gList (glLc (gxT (g2 idxD (gVar 0) (gC (.int 1)))) 1 [1] (gtV (g2 neD (g2 idxD (gVar 1) (gC (.int 0))) (gC (.int 0)))) (gVar 1))))
def F_law_count : Fn := runB 2 g_law_count
def g_law_bush (Fself : Fn) : GS := gsSeq (gsIf (gtOr (gtV (g2 eqD (gVar 1) (gC (.int 0)))) (gtV (g2 eqD (gCall (F_law_sip) (gam 0 (gac (gC (.int 4)) (ga0)))) (gC (.int 0))))) (gsRet (gC .none)) (gsN)) (gsRet (gTup (glc (gCall (Fself) (gam 0 (gac (g2 subD (gVar 1) (gC (.int 1))) (ga0)))) (glc (gCall (Fself) (gam 0 (gac (g2 subD (gVar 1) (gC (.int 1))) (ga0)))) (gl0)))))
def F_law_bush : Nat → Fn
  | 0 => failF
  | n + 1 => runB 2 (g_law_bush (F_law_bush n))
def g_law_grove : GS := gsSeq (gsIf (gtOr (gtV (g2 eqD (gVar 1) (gC (.int 0)))) (gtV (g2 eqD (gCall (F_law_sip) (gam 0 (gac (gC (.int 9)) (ga0)))) (gC (.int 0))))) (gsRet (gC .none)) (gsN)) (gsRet (gTup (glc (gCall (F_law_bush 6) (gam 0 (gac (g2 subD (gVar 1) (gC (.int 1))) (ga0)))) (glc (gCall (F_law_bush 6) (gam 0 (gac (g2 subD (gVar 1) (gC (.int 1))) (ga0)))) (gl0)))))
def F_law_grove : Fn := runB 2 g_law_grove
def g_law_bush_leaves (Fself : Fn) : GS := gsRet (gIte (gtV (g1 isND (gVar 0))) (gC (.int 1)) (g2 addD (gCall (Fself) (gac (g2 idxD (gVar 0) (gC (.int 0))) (ga0))) (gCall (Fself) (gac (g2 idxD (gVar 0) (gC (.int 1))) (ga0)))))
def F_law_bush_leaves : Nat → Fn
  | 0 => failF
  | n + 1 => runB 1 (g_law_bush_leaves (F_law_bush_leaves n))
def g_law_led (Fself : Fn) : GS := gsSeq (gsIf (gtV (g1 isND (gVar 1))) (gsRet (gList (glD (glc (gVar 2) (gl0))))) (gsN)) (gsSeq (gsAsg (gCall (F_law_parted) (gac (gVar 0) (gac (gVar 2) (ga0)))) (ggT 2 (ggc (ggN 3) (ggc (ggN 4) (gg0))))) (gsRet (g2 addD (gCall (Fself) (gac (gVar 0) (gac (g2 idxD (gVar 1) (gC (.int 0))) (gac (gVar 3) (ga0))))) (gCall (Fself) (gac (gVar 0) (gac (g2 idxD (gVar 1) (gC (.int 1))) (gac (gVar 4) (ga0))))))))
def F_law_led : Nat → Fn
  | 0 => failF
  | n + 1 => runB 5 (g_law_led (F_law_led n))
def g_law_led_back (Fself : Fn) : GS := gsSeq (gsIf (gtV (g1 isND (gVar 1))) (gsRet (g2 idxD (gVar 2) (gC (.int 0)))) (gsN)) (gsSeq (gsAsg (gCall (F_law_bush_leaves 6) (gac (g2 idxD (gVar 1) (gC (.int 0))) (ga0))) (ggN 3)) (gsRet (gCall (F_law_united) (gac (gVar 0) (gac (gTup (glc (gCall (Fself) (gac (gVar 0) (gac (g2 idxD (gVar 1) (gC (.int 0))) (gac (gList (glSl (gVar 2) (gpN) (gpS (gVar 3)))) (ga0))))) (glc (gCall (Fself) (gac (gVar 0) (gac (g2 idxD (gVar 1) (gC (.int 1))) (gac (gList (glSl (gVar 2) (gpS (gVar 3)) (gpN))) (ga0))))) (gl0)))) (ga0))))))
def F_law_led_back : Nat → Fn
  | 0 => failF
  | n + 1 => runB 4 (g_law_led_back (F_law_led_back n))
def g_law_all_trees (Fself : Fn) : GS := gsSeq (gsNew 3 (glD (glc (gTup (glc (gCall (F_law_count) (gac (gVar 1) (ga0))) (glc (gC (.int 1)) (glc (gC .none) (gl0))))) (gl0)))) (gsSeq (gsIf (gtV (g2 eqD (gVar 2) (gC (.int 0)))) (gsRet (gFrz 3)) (gsN)) (gsSeq (gsAsg (gCall (F_law_parted) (gac (gVar 0) (gac (gVar 1) (ga0)))) (ggT 2 (ggc (ggN 4) (ggc (ggN 5) (gg0))))) (gsSeq (gsAsg (gCall (Fself) (gac (gVar 0) (gac (gVar 5) (gac (g2 subD (gVar 2) (gC (.int 1))) (ga0))))) (ggN 6)) (gsSeq (gsFor (gxL (gCall (Fself) (gac (gVar 0) (gac (gVar 4) (gac (g2 subD (gVar 2) (gC (.int 1))) (ga0)))))) (ggN 7) (gsFor (gxL (gVar 6)) (ggN 8) (gsApp 3 (gTup (glc (g2 addD (g2 idxD (gVar 7) (gC (.int 0))) (g2 idxD (gVar 8) (gC (.int 0)))) (glc (g2 addD (g2 idxD (gVar 7) (gC (.int 1))) (g2 idxD (gVar 8) (gC (.int 1)))) (glc (gTup (glc (g2 idxD (gVar 7) (gC (.int 2))) (glc (g2 idxD (gVar 8) (gC (.int 2))) (gl0)))) (gl0)))))))) (gsRet (gFrz 3))))))
def F_law_all_trees : Nat → Fn
  | 0 => failF
  | n + 1 => runB 9 (g_law_all_trees (F_law_all_trees n))
def g_law_best : GS := gsSeq (gsPar 1 2 (g2 idxD (gVar 0) (gC (.int 0))) (gC (.int 0))) (gsSeq (gsFor (gxL (gVar 0)) (ggN 3) (gsSeq (gsIf (gtV (g2 ltTD (gSlT (gVar 3) (gpN) (gpS (gC (.int 2)))) (gSlT (gVar 1) (gpN) (gpS (gC (.int 2)))))) (gsPar 1 2 (gVar 3) (gC (.int 0))) (gsN)) (gsIf (gtV (g2 eqD (gSlT (gVar 3) (gpN) (gpS (gC (.int 2)))) (gSlT (gVar 1) (gpN) (gpS (gC (.int 2)))))) (gsAsg (g2 addD (gVar 2) (gC (.int 1))) (ggN 2)) (gsN)))) (gsRet (gTup (glc (gVar 1) (glc (gVar 2) (gl0))))))
def F_law_best : Fn := runB 4 g_law_best
def g_law_sparse : GS := gsSeq (gsParN 2 3 (gCall (F_law_grove) (gam 0 (gac (gC (.int 3)) (ga0)))) (glD (gl0))) (gsSeq (gsFor (gxR1 (gCall (F_law_bush_leaves 6) (gac (gVar 2) (ga0)))) (ggN 4) (gsApp 3 (gIte (gtV (g2 eqD (gCall (F_law_sip) (gam 0 (gac (gC (.int 3)) (ga0)))) (gC (.int 0)))) (gTup (glc (g2 subD (gCall (F_law_sip) (gam 0 (gac (gC (.int 3)) (ga0)))) (gC (.int 1))) (glc (gTup (glc (gCall (F_law_some) (gam 0 (ga0))) (gl0))) (gl0)))) (gTup (glc (gC (.int 0)) (glc (gTup (gl0)) (gl0))))))) (gsSeq (gsAsg (gCall (F_law_led_back 6) (gac (gCall (F_law_undone) (gac (gVar 1) (ga0))) (gac (gVar 2) (gac (gFrz 3) (ga0))))) (ggN 5)) (gsRet (gIte (gtAnd (gtV (g2 ltD (g1 lenD (g2 idxD (gVar 5) (gC (.int 1)))) (gC (.int 25)))) (gtV (gChain ltD ltD (g2 subD (gC (.int 0)) (gC (.int 900))) (g2 idxD (gVar 5) (gC (.int 0))) (gC (.int 900))))) (gVar 5) (gCall (F_law_row) (gam 0 (gac (gC (.int 6)) (ga0))))))))
def F_law_sparse : Fn := runB 6 g_law_sparse
def g_law_right : GS := gsSeq (gsIf (gtV (g2 eqD (gCall (F_law_sip) (gam 0 (gac (gC (.int 3)) (ga0)))) (gC (.int 0)))) (gsPar 1 2 (gTup (glc (gCall (F_law_mild_row) (gam 0 (gac (gC (.int 3)) (ga0)))) (glc (gCall (F_law_mild_row) (gam 0 (gac (gC (.int 3)) (ga0)))) (gl0)))) (gCall (F_law_row) (gam 0 (gac (gC (.int 8)) (ga0))))) (gsSeq (gsAsg (gIte (gtV (g2 eqD (gCall (F_law_sip) (gam 0 (gac (gC (.int 2)) (ga0)))) (gC (.int 0)))) (gCall (F_law_safe) (gam 0 (gac (gC (.int 1)) (ga0)))) (gTup (glc (gTup (glc (gC (.int 0)) (glc (gTup (glc (gTup (glc (gC (.int 1)) (glc (gC (.int 2)) (gl0)))) (glc (gTup (glc (gC (.int 1)) (glc (gC (.int 2)) (gl0)))) (gl0)))) (gl0)))) (glc (gTup (glc (gC (.int 0)) (glc (gTup (glc (gTup (glc (g1 negD (gC (.int 1))) (glc (gC (.int 1)) (gl0)))) (glc (gTup (glc (gC (.int 1)) (glc (gC (.int 1)) (gl0)))) (gl0)))) (gl0)))) (gl0))))) (ggN 1)) (gsAsg (gCall (F_law_sparse) (gam 0 (gac (gVar 1) (ga0)))) (ggN 2)))) (gsSeq (gsAsg (gCall (F_law_pick) (gam 0 (gac (gList (glD (glc (gC (.int 0)) (glc (gC (.int 1)) (glc (gC (.int 2)) (glc (gC (.int 2)) (glc (gC (.int 3)) (glc (gC (.int 3)) (glc (gC (.int 4)) (gl0)))))))))) (ga0)))) (ggN 3)) (gsSeq (gsAsg (gCall (F_law_best) (gac (gCall (F_law_all_trees 6) (gac (gVar 1) (gac (gVar 2) (gac (gVar 3) (ga0))))) (ga0))) (ggT 2 (ggc (ggN 4) (ggc (ggN 5) (gg0))))) (gsSeq (gsPar 6 7 (gCall (F_fewest_tree) (gac (gVar 1) (gac (gVar 2) (gac (gVar 3) (ga0))))) (gCall (F_fewest_numbers) (gac (gVar 1) (gac (gVar 2) (gac (gVar 3) (ga0)))))) (gsSeq (gsIf (gtOr (gtV (g2 neD (gVar 5) (gC (.int 1)))) (gtV (g2 neD (g1 reprD (gList (glD (glc (gVar 6) (glc (gVar 7) (gl0)))))) (g1 reprD (gList (glD (glc (g2 idxD (gVar 4) (gC (.int 2))) (glc (g2 idxD (gVar 4) (gC (.int 0))) (gl0))))))))) (gsRet (gC (.bool false))) (gsN)) (gsSeq (gsIf (gtV (g2 neD (g1 reprD (gList (glD (glc (gCallK 2 1 0 F_fewest_tree (gac (gVar 3) (gac (gVar 2) (gac (gVar 1) (ga0))))) (glc (gCallK 1 2 0 F_fewest_numbers (gac (gVar 3) (gac (gVar 1) (gac (gVar 2) (ga0))))) (gl0)))))) (g1 reprD (gList (glD (glc (gVar 6) (glc (gVar 7) (gl0)))))))) (gsRet (gC (.bool false))) (gsN)) (gsSeq (gsIf (gtV (g2 neD (g1 sumD (gList (glLc (gxL (gCall (F_law_led 6) (gac (gVar 1) (gac (gVar 6) (gac (gVar 2) (ga0)))))) 9 [9] (gtYes) (gCall (F_law_count) (gac (gVar 9) (ga0)))))) (gVar 7))) (gsRet (gC (.bool false))) (gsN)) (gsSeq (gsAsg (gCall (F_tree_channels) (gac (gVar 1) (gac (gVar 6) (gac (gVar 2) (ga0))))) (ggN 8)) (gsSeq (gsIf (gtV (g2 neD (g1 reprD (gVar 8)) (g1 reprD (g1 tupleD (gCall (F_law_led 6) (gac (gVar 1) (gac (gVar 6) (gac (gVar 2) (ga0))))))))) (gsRet (gC (.bool false))) (gsN)) (gsRet (gOr (g2 eqD (gVar 3) (gC (.int 4))) (g2 leD (gCall (F_fewest_numbers) (gac (gVar 1) (gac (gVar 2) (gac (g2 addD (gVar 3) (gC (.int 1))) (ga0))))) (gVar 7))))))))))))
def F_law_right : Fn := runB 10 g_law_right
def g_law : GS := gsRet (g1 allD (gList (glLc (gxR1 (gC (.int 2))) 1 [1] (gtYes) (gCallN F_law_right (glCall FL_law_spring (gac (gVar 0) (gac (gVar 1) (ga0))))))))
def F_law : Fn := runB 2 g_law
end Bs
/-! Txt: the text by places, its facts (printed by gen.py). -/
namespace Bs
open PySem PySem.Spec PyProof.Rows L2
abbrev pw : Program := PySem.Challenge.pw_bandsplits_k71_whole_fewest_trees
def topS (i : Nat) : Stmt := pw.main.body.getD i (.Pass ⟨0, 0, 0, 0⟩)
abbrev S8 : Stmt := topS 8
abbrev S9 : Stmt := topS 9
abbrev S10 : Stmt := topS 10
abbrev S11 : Stmt := topS 11
abbrev S14 : Stmt := topS 14
abbrev S15 : Stmt := topS 15
abbrev S16 : Stmt := topS 16
abbrev S17 : Stmt := topS 17
abbrev S20 : Stmt := topS 20
abbrev S21 : Stmt := topS 21
abbrev S22 : Stmt := topS 22
abbrev S23 : Stmt := topS 23
abbrev S24 : Stmt := topS 24
abbrev S25 : Stmt := topS 25
abbrev S27 : Stmt := topS 27
abbrev S28 : Stmt := topS 28
abbrev S30 : Stmt := topS 30
abbrev S31 : Stmt := topS 31
abbrev S32 : Stmt := topS 32
abbrev S35 : Stmt := topS 35
abbrev S36 : Stmt := topS 36
abbrev S37 : Stmt := topS 37
abbrev S38 : Stmt := topS 38
abbrev S39 : Stmt := topS 39
abbrev S40 : Stmt := topS 40
abbrev S41 : Stmt := topS 41
abbrev S42 : Stmt := topS 42
abbrev S43 : Stmt := topS 43
abbrev S44 : Stmt := topS 44
abbrev S46 : Stmt := topS 46
abbrev S47 : Stmt := topS 47
abbrev S48 : Stmt := topS 48
abbrev S49 : Stmt := topS 49
abbrev S50 : Stmt := topS 50
abbrev S51 : Stmt := topS 51
abbrev S52 : Stmt := topS 52
abbrev S53 : Stmt := topS 53
abbrev S54 : Stmt := topS 54
abbrev S55 : Stmt := topS 55
abbrev S56 : Stmt := topS 56
abbrev S57 : Stmt := topS 57
abbrev S58 : Stmt := topS 58
abbrev S59 : Stmt := topS 59
abbrev S60 : Stmt := topS 60
abbrev S61 : Stmt := topS 61
abbrev S62 : Stmt := topS 62
abbrev S63 : Stmt := topS 63
abbrev S64 : Stmt := topS 64
abbrev S65 : Stmt := topS 65
abbrev S66 : Stmt := topS 66
abbrev S67 : Stmt := topS 67
abbrev S68 : Stmt := topS 68
abbrev S69 : Stmt := topS 69
abbrev S70 : Stmt := topS 70
abbrev S71 : Stmt := topS 71
abbrev S72 : Stmt := topS 72
abbrev S73 : Stmt := topS 73
abbrev S74 : Stmt := topS 74
abbrev S75 : Stmt := topS 75
abbrev S76 : Stmt := topS 76
abbrev S77 : Stmt := topS 77
abbrev S78 : Stmt := topS 78
abbrev S79 : Stmt := topS 79
abbrev S80 : Stmt := topS 80
abbrev S81 : Stmt := topS 81
abbrev S82 : Stmt := topS 82
abbrev S83 : Stmt := topS 83
abbrev S84 : Stmt := topS 84
abbrev S85 : Stmt := topS 85
abbrev S86 : Stmt := topS 86
structure Bx (K : PySem.W.Frag) (mg : Str → Option Value) : Prop where
  at_is_whole : DefAt K mg "is_whole" S8 ["value"]
  at_is_between : DefAt K mg "is_between" S9 ["value", "low", "high"]
  at_are_wholes : DefAt K mg "are_wholes" S10 ["value", "many"]
  at_divisor_of : DefAt K mg "divisor_of" S11 ["numbers"]
  at_is_ratio : DefAt K mg "is_ratio" S14 ["value"]
  at_ratio : DefAt K mg "ratio" S15 ["top", "low"]
  at_plus : DefAt K mg "plus" S16 ["one", "two"]
  at_times : DefAt K mg "times" S17 ["one", "two"]
  at_row_by : DefAt K mg "row_by" S20 ["start", "numbers"]
  at_end_of : DefAt K mg "end_of" S21 ["row"]
  at_at_place : DefAt K mg "at_place" S22 ["row", "place"]
  at_row_product : DefAt K mg "row_product" S23 ["one", "two"]
  at_part_from : DefAt K mg "part_from" S24 ["row", "first"]
  at_even_of : DefAt K mg "even_of" S25 ["row"]
  at_is_laid : DefAt K mg "is_laid" S27 ["value"]
  at_check_row : DefAt K mg "check_row" S28 ["value"]
  at_are_two_rows : DefAt K mg "are_two_rows" S30 ["value"]
  at_check_splitter : DefAt K mg "check_splitter" S31 ["value"]
  at_split_by : DefAt K mg "split_by" S32 ["splitter", "row"]
  at_is_tree_of : DefAt K mg "is_tree_of" S35 ["value", "deep"]
  at_is_tree : DefAt K mg "is_tree" S36 ["value"]
  at_check_tree : DefAt K mg "check_tree" S37 ["value"]
  at_check_depth : DefAt K mg "check_depth" S38 ["value"]
  at_channels_in : DefAt K mg "channels_in" S39 ["splitter", "tree", "row"]
  at_numbers_in : DefAt K mg "numbers_in" S40 ["row"]
  at_best_in : DefAt K mg "best_in" S41 ["splitter", "row", "many"]
  at_tree_channels : DefAt K mg "tree_channels" S42 ["splitter", "tree", "row"]
  at_fewest_tree : DefAt K mg "fewest_tree" S43 ["splitter", "row", "many"]
  at_fewest_numbers : DefAt K mg "fewest_numbers" S44 ["splitter", "row", "many"]
  at_law_spring : DefAt K mg "_law_spring" S46 ["_law_script", "_law_turn"]
  at_law_sip : DefAt K mg "_law_sip" S47 ["_law_spring_here", "_law_top"]
  at_law_pick : DefAt K mg "_law_pick" S48 ["_law_spring_here", "_law_some_here"]
  at_law_deep : DefAt K mg "_law_deep" S49 ["_law_one", "_law_two"]
  at_law_low : DefAt K mg "_law_low" S50 ["_law_top", "_law_under"]
  at_law_plus : DefAt K mg "_law_plus" S51 ["_law_one", "_law_two"]
  at_law_prod : DefAt K mg "_law_prod" S52 ["_law_one", "_law_two"]
  at_law_per : DefAt K mg "_law_per" S53 ["_law_one", "_law_two"]
  at_law_ints : DefAt K mg "_law_ints" S54 ["_law_some_here"]
  at_law_any : DefAt K mg "_law_any" S55 ["_law_spring_here"]
  at_law_some : DefAt K mg "_law_some" S56 ["_law_spring_here"]
  at_law_row : DefAt K mg "_law_row" S57 ["_law_spring_here", "_law_most"]
  at_law_mild_row : DefAt K mg "_law_mild_row" S58 ["_law_spring_here", "_law_most"]
  at_law_trim : DefAt K mg "_law_trim" S59 ["_law_at_here", "_law_some_here"]
  at_law_at : DefAt K mg "_law_at" S60 ["_law_x", "_law_k"]
  at_law_times : DefAt K mg "_law_times" S61 ["_law_x", "_law_y"]
  at_law_sum : DefAt K mg "_law_sum" S62 ["_law_x", "_law_y"]
  at_law_scaled : DefAt K mg "_law_scaled" S63 ["_law_x", "_law_by"]
  at_law_less : DefAt K mg "_law_less" S64 ["_law_x", "_law_y"]
  at_law_moved : DefAt K mg "_law_moved" S65 ["_law_x", "_law_far"]
  at_law_half : DefAt K mg "_law_half" S66 ["_law_x", "_law_odd"]
  at_law_wide : DefAt K mg "_law_wide" S67 ["_law_x"]
  at_law_parted : DefAt K mg "_law_parted" S68 ["_law_pair", "_law_x"]
  at_law_united : DefAt K mg "_law_united" S69 ["_law_pair", "_law_two"]
  at_law_parts : DefAt K mg "_law_parts" S70 ["_law_pair"]
  at_law_det : DefAt K mg "_law_det" S71 ["_law_pair"]
  at_law_undone : DefAt K mg "_law_undone" S72 ["_law_pair"]
  at_law_rungs : DefAt K mg "_law_rungs" S73 ["_law_spring_here", "_law_most", "_law_wide_here"]
  at_law_laddered : DefAt K mg "_law_laddered" S74 ["_law_rungs_here"]
  at_law_safe : DefAt K mg "_law_safe" S75 ["_law_spring_here", "_law_most"]
  at_law_count : DefAt K mg "_law_count" S76 ["_law_x"]
  at_law_bush : DefAt K mg "_law_bush" S77 ["_law_spring_here", "_law_deep_here"]
  at_law_grove : DefAt K mg "_law_grove" S78 ["_law_spring_here", "_law_deep_here"]
  at_law_bush_leaves : DefAt K mg "_law_bush_leaves" S79 ["_law_bush_here"]
  at_law_led : DefAt K mg "_law_led" S80 ["_law_pair", "_law_bush_here", "_law_x"]
  at_law_led_back : DefAt K mg "_law_led_back" S81 ["_law_pair", "_law_bush_here", "_law_some_here"]
  at_law_all_trees : DefAt K mg "_law_all_trees" S82 ["_law_pair", "_law_x", "_law_deep_here"]
  at_law_best : DefAt K mg "_law_best" S83 ["_law_some_here"]
  at_law_sparse : DefAt K mg "_law_sparse" S84 ["_law_spring_here", "_law_pair"]
  at_law_right : DefAt K mg "_law_right" S85 ["_law_spring_here"]
  at_law : DefAt K mg "law" S86 ["_law_script"]
  b_len : mg "len" = none
  b_isinstance : mg "isinstance" = none
  b_all : mg "all" = none
  b_tuple : mg "tuple" = none
  b_list : mg "list" = none
  b_range : mg "range" = none
  b_enumerate : mg "enumerate" = none
  b_abs : mg "abs" = none
  b_int : mg "int" = none
  b_sum : mg "sum" = none
  b_divmod : mg "divmod" = none
  b_min : mg "min" = none
  b_max : mg "max" = none
  b_repr : mg "repr" = none
  b_bool : mg "bool" = none
  g_NOUGHT : Gv K mg "NOUGHT" dNOUGHT
  g_ZERO : Gv K mg "ZERO" dZERO
  g_MOST_DEEP : Gv K mg "MOST_DEEP" (.int 4)
  g_gcd : mg "gcd" = some (.builtin "math.gcd")
theorem d_MOST_DEEP : (("MOST_DEEP" : Str) == ("__debug__" : Str)) = false := by decide +kernel
theorem dc_MOST_DEEP : (("MOST_DEEP" : Str) == ("__classdict__" : Str)) = false := by decide +kernel
theorem d_NOUGHT : (("NOUGHT" : Str) == ("__debug__" : Str)) = false := by decide +kernel
theorem dc_NOUGHT : (("NOUGHT" : Str) == ("__classdict__" : Str)) = false := by decide +kernel
theorem d_ZERO : (("ZERO" : Str) == ("__debug__" : Str)) = false := by decide +kernel
theorem dc_ZERO : (("ZERO" : Str) == ("__classdict__" : Str)) = false := by decide +kernel
theorem d_law_a : (("_law_a" : Str) == ("__debug__" : Str)) = false := by decide +kernel
theorem dc_law_a : (("_law_a" : Str) == ("__classdict__" : Str)) = false := by decide +kernel
theorem d_law_all_trees : (("_law_all_trees" : Str) == ("__debug__" : Str)) = false := by decide +kernel
theorem dc_law_all_trees : (("_law_all_trees" : Str) == ("__classdict__" : Str)) = false := by decide +kernel
theorem d_law_any : (("_law_any" : Str) == ("__debug__" : Str)) = false := by decide +kernel
theorem dc_law_any : (("_law_any" : Str) == ("__classdict__" : Str)) = false := by decide +kernel
theorem d_law_at : (("_law_at" : Str) == ("__debug__" : Str)) = false := by decide +kernel
theorem dc_law_at : (("_law_at" : Str) == ("__classdict__" : Str)) = false := by decide +kernel
theorem d_law_at_here : (("_law_at_here" : Str) == ("__debug__" : Str)) = false := by decide +kernel
theorem dc_law_at_here : (("_law_at_here" : Str) == ("__classdict__" : Str)) = false := by decide +kernel
theorem d_law_b : (("_law_b" : Str) == ("__debug__" : Str)) = false := by decide +kernel
theorem dc_law_b : (("_law_b" : Str) == ("__classdict__" : Str)) = false := by decide +kernel
theorem d_law_below : (("_law_below" : Str) == ("__debug__" : Str)) = false := by decide +kernel
theorem dc_law_below : (("_law_below" : Str) == ("__classdict__" : Str)) = false := by decide +kernel
theorem d_law_best : (("_law_best" : Str) == ("__debug__" : Str)) = false := by decide +kernel
theorem dc_law_best : (("_law_best" : Str) == ("__classdict__" : Str)) = false := by decide +kernel
theorem d_law_best_here : (("_law_best_here" : Str) == ("__debug__" : Str)) = false := by decide +kernel
theorem dc_law_best_here : (("_law_best_here" : Str) == ("__classdict__" : Str)) = false := by decide +kernel
theorem d_law_bush : (("_law_bush" : Str) == ("__debug__" : Str)) = false := by decide +kernel
theorem dc_law_bush : (("_law_bush" : Str) == ("__classdict__" : Str)) = false := by decide +kernel
theorem d_law_bush_here : (("_law_bush_here" : Str) == ("__debug__" : Str)) = false := by decide +kernel
theorem dc_law_bush_here : (("_law_bush_here" : Str) == ("__classdict__" : Str)) = false := by decide +kernel
theorem d_law_bush_leaves : (("_law_bush_leaves" : Str) == ("__debug__" : Str)) = false := by decide +kernel
theorem dc_law_bush_leaves : (("_law_bush_leaves" : Str) == ("__classdict__" : Str)) = false := by decide +kernel
theorem d_law_by : (("_law_by" : Str) == ("__debug__" : Str)) = false := by decide +kernel
theorem dc_law_by : (("_law_by" : Str) == ("__classdict__" : Str)) = false := by decide +kernel
theorem d_law_c : (("_law_c" : Str) == ("__debug__" : Str)) = false := by decide +kernel
theorem dc_law_c : (("_law_c" : Str) == ("__classdict__" : Str)) = false := by decide +kernel
theorem d_law_cell : (("_law_cell" : Str) == ("__debug__" : Str)) = false := by decide +kernel
theorem dc_law_cell : (("_law_cell" : Str) == ("__classdict__" : Str)) = false := by decide +kernel
theorem d_law_count : (("_law_count" : Str) == ("__debug__" : Str)) = false := by decide +kernel
theorem dc_law_count : (("_law_count" : Str) == ("__classdict__" : Str)) = false := by decide +kernel
theorem d_law_count_here : (("_law_count_here" : Str) == ("__debug__" : Str)) = false := by decide +kernel
theorem dc_law_count_here : (("_law_count_here" : Str) == ("__classdict__" : Str)) = false := by decide +kernel
theorem d_law_cut : (("_law_cut" : Str) == ("__debug__" : Str)) = false := by decide +kernel
theorem dc_law_cut : (("_law_cut" : Str) == ("__classdict__" : Str)) = false := by decide +kernel
theorem d_law_d : (("_law_d" : Str) == ("__debug__" : Str)) = false := by decide +kernel
theorem dc_law_d : (("_law_d" : Str) == ("__classdict__" : Str)) = false := by decide +kernel
theorem d_law_deep : (("_law_deep" : Str) == ("__debug__" : Str)) = false := by decide +kernel
theorem dc_law_deep : (("_law_deep" : Str) == ("__classdict__" : Str)) = false := by decide +kernel
theorem d_law_deep_here : (("_law_deep_here" : Str) == ("__debug__" : Str)) = false := by decide +kernel
theorem dc_law_deep_here : (("_law_deep_here" : Str) == ("__classdict__" : Str)) = false := by decide +kernel
theorem d_law_det : (("_law_det" : Str) == ("__debug__" : Str)) = false := by decide +kernel
theorem dc_law_det : (("_law_det" : Str) == ("__classdict__" : Str)) = false := by decide +kernel
theorem d_law_each : (("_law_each" : Str) == ("__debug__" : Str)) = false := by decide +kernel
theorem dc_law_each : (("_law_each" : Str) == ("__classdict__" : Str)) = false := by decide +kernel
theorem d_law_far : (("_law_far" : Str) == ("__debug__" : Str)) = false := by decide +kernel
theorem dc_law_far : (("_law_far" : Str) == ("__classdict__" : Str)) = false := by decide +kernel
theorem d_law_figure : (("_law_figure" : Str) == ("__debug__" : Str)) = false := by decide +kernel
theorem dc_law_figure : (("_law_figure" : Str) == ("__classdict__" : Str)) = false := by decide +kernel
theorem d_law_first : (("_law_first" : Str) == ("__debug__" : Str)) = false := by decide +kernel
theorem dc_law_first : (("_law_first" : Str) == ("__classdict__" : Str)) = false := by decide +kernel
theorem d_law_found : (("_law_found" : Str) == ("__debug__" : Str)) = false := by decide +kernel
theorem dc_law_found : (("_law_found" : Str) == ("__classdict__" : Str)) = false := by decide +kernel
theorem d_law_full : (("_law_full" : Str) == ("__debug__" : Str)) = false := by decide +kernel
theorem dc_law_full : (("_law_full" : Str) == ("__classdict__" : Str)) = false := by decide +kernel
theorem d_law_grove : (("_law_grove" : Str) == ("__debug__" : Str)) = false := by decide +kernel
theorem dc_law_grove : (("_law_grove" : Str) == ("__classdict__" : Str)) = false := by decide +kernel
theorem d_law_half : (("_law_half" : Str) == ("__debug__" : Str)) = false := by decide +kernel
theorem dc_law_half : (("_law_half" : Str) == ("__classdict__" : Str)) = false := by decide +kernel
theorem d_law_i : (("_law_i" : Str) == ("__debug__" : Str)) = false := by decide +kernel
theorem dc_law_i : (("_law_i" : Str) == ("__classdict__" : Str)) = false := by decide +kernel
theorem d_law_ints : (("_law_ints" : Str) == ("__debug__" : Str)) = false := by decide +kernel
theorem dc_law_ints : (("_law_ints" : Str) == ("__classdict__" : Str)) = false := by decide +kernel
theorem d_law_j : (("_law_j" : Str) == ("__debug__" : Str)) = false := by decide +kernel
theorem dc_law_j : (("_law_j" : Str) == ("__classdict__" : Str)) = false := by decide +kernel
theorem d_law_k : (("_law_k" : Str) == ("__debug__" : Str)) = false := by decide +kernel
theorem dc_law_k : (("_law_k" : Str) == ("__classdict__" : Str)) = false := by decide +kernel
theorem d_law_k0 : (("_law_k0" : Str) == ("__debug__" : Str)) = false := by decide +kernel
theorem dc_law_k0 : (("_law_k0" : Str) == ("__classdict__" : Str)) = false := by decide +kernel
theorem d_law_k1 : (("_law_k1" : Str) == ("__debug__" : Str)) = false := by decide +kernel
theorem dc_law_k1 : (("_law_k1" : Str) == ("__classdict__" : Str)) = false := by decide +kernel
theorem d_law_laddered : (("_law_laddered" : Str) == ("__debug__" : Str)) = false := by decide +kernel
theorem dc_law_laddered : (("_law_laddered" : Str) == ("__classdict__" : Str)) = false := by decide +kernel
theorem d_law_last : (("_law_last" : Str) == ("__debug__" : Str)) = false := by decide +kernel
theorem dc_law_last : (("_law_last" : Str) == ("__classdict__" : Str)) = false := by decide +kernel
theorem d_law_lasts : (("_law_lasts" : Str) == ("__debug__" : Str)) = false := by decide +kernel
theorem dc_law_lasts : (("_law_lasts" : Str) == ("__classdict__" : Str)) = false := by decide +kernel
theorem d_law_least : (("_law_least" : Str) == ("__debug__" : Str)) = false := by decide +kernel
theorem dc_law_least : (("_law_least" : Str) == ("__classdict__" : Str)) = false := by decide +kernel
theorem d_law_led : (("_law_led" : Str) == ("__debug__" : Str)) = false := by decide +kernel
theorem dc_law_led : (("_law_led" : Str) == ("__classdict__" : Str)) = false := by decide +kernel
theorem d_law_led_back : (("_law_led_back" : Str) == ("__debug__" : Str)) = false := by decide +kernel
theorem dc_law_led_back : (("_law_led_back" : Str) == ("__classdict__" : Str)) = false := by decide +kernel
theorem d_law_led_here : (("_law_led_here" : Str) == ("__debug__" : Str)) = false := by decide +kernel
theorem dc_law_led_here : (("_law_led_here" : Str) == ("__classdict__" : Str)) = false := by decide +kernel
theorem d_law_less : (("_law_less" : Str) == ("__debug__" : Str)) = false := by decide +kernel
theorem dc_law_less : (("_law_less" : Str) == ("__classdict__" : Str)) = false := by decide +kernel
theorem d_law_less_here : (("_law_less_here" : Str) == ("__debug__" : Str)) = false := by decide +kernel
theorem dc_law_less_here : (("_law_less_here" : Str) == ("__classdict__" : Str)) = false := by decide +kernel
theorem d_law_low : (("_law_low" : Str) == ("__debug__" : Str)) = false := by decide +kernel
theorem dc_law_low : (("_law_low" : Str) == ("__classdict__" : Str)) = false := by decide +kernel
theorem d_law_mild_row : (("_law_mild_row" : Str) == ("__debug__" : Str)) = false := by decide +kernel
theorem dc_law_mild_row : (("_law_mild_row" : Str) == ("__classdict__" : Str)) = false := by decide +kernel
theorem d_law_mix : (("_law_mix" : Str) == ("__debug__" : Str)) = false := by decide +kernel
theorem dc_law_mix : (("_law_mix" : Str) == ("__classdict__" : Str)) = false := by decide +kernel
theorem d_law_most : (("_law_most" : Str) == ("__debug__" : Str)) = false := by decide +kernel
theorem dc_law_most : (("_law_most" : Str) == ("__classdict__" : Str)) = false := by decide +kernel
theorem d_law_moved : (("_law_moved" : Str) == ("__debug__" : Str)) = false := by decide +kernel
theorem dc_law_moved : (("_law_moved" : Str) == ("__classdict__" : Str)) = false := by decide +kernel
theorem d_law_odd : (("_law_odd" : Str) == ("__debug__" : Str)) = false := by decide +kernel
theorem dc_law_odd : (("_law_odd" : Str) == ("__classdict__" : Str)) = false := by decide +kernel
theorem d_law_one : (("_law_one" : Str) == ("__debug__" : Str)) = false := by decide +kernel
theorem dc_law_one : (("_law_one" : Str) == ("__classdict__" : Str)) = false := by decide +kernel
theorem d_law_ones : (("_law_ones" : Str) == ("__debug__" : Str)) = false := by decide +kernel
theorem dc_law_ones : (("_law_ones" : Str) == ("__classdict__" : Str)) = false := by decide +kernel
theorem d_law_pair : (("_law_pair" : Str) == ("__debug__" : Str)) = false := by decide +kernel
theorem dc_law_pair : (("_law_pair" : Str) == ("__classdict__" : Str)) = false := by decide +kernel
theorem d_law_parted : (("_law_parted" : Str) == ("__debug__" : Str)) = false := by decide +kernel
theorem dc_law_parted : (("_law_parted" : Str) == ("__classdict__" : Str)) = false := by decide +kernel
theorem d_law_parts : (("_law_parts" : Str) == ("__debug__" : Str)) = false := by decide +kernel
theorem dc_law_parts : (("_law_parts" : Str) == ("__classdict__" : Str)) = false := by decide +kernel
theorem d_law_per : (("_law_per" : Str) == ("__debug__" : Str)) = false := by decide +kernel
theorem dc_law_per : (("_law_per" : Str) == ("__classdict__" : Str)) = false := by decide +kernel
theorem d_law_pick : (("_law_pick" : Str) == ("__debug__" : Str)) = false := by decide +kernel
theorem dc_law_pick : (("_law_pick" : Str) == ("__classdict__" : Str)) = false := by decide +kernel
theorem d_law_plus : (("_law_plus" : Str) == ("__debug__" : Str)) = false := by decide +kernel
theorem dc_law_plus : (("_law_plus" : Str) == ("__classdict__" : Str)) = false := by decide +kernel
theorem d_law_prod : (("_law_prod" : Str) == ("__debug__" : Str)) = false := by decide +kernel
theorem dc_law_prod : (("_law_prod" : Str) == ("__classdict__" : Str)) = false := by decide +kernel
theorem d_law_right : (("_law_right" : Str) == ("__debug__" : Str)) = false := by decide +kernel
theorem dc_law_right : (("_law_right" : Str) == ("__classdict__" : Str)) = false := by decide +kernel
theorem d_law_row : (("_law_row" : Str) == ("__debug__" : Str)) = false := by decide +kernel
theorem dc_law_row : (("_law_row" : Str) == ("__classdict__" : Str)) = false := by decide +kernel
theorem d_law_rungs : (("_law_rungs" : Str) == ("__debug__" : Str)) = false := by decide +kernel
theorem dc_law_rungs : (("_law_rungs" : Str) == ("__classdict__" : Str)) = false := by decide +kernel
theorem d_law_rungs_here : (("_law_rungs_here" : Str) == ("__debug__" : Str)) = false := by decide +kernel
theorem dc_law_rungs_here : (("_law_rungs_here" : Str) == ("__classdict__" : Str)) = false := by decide +kernel
theorem d_law_safe : (("_law_safe" : Str) == ("__debug__" : Str)) = false := by decide +kernel
theorem dc_law_safe : (("_law_safe" : Str) == ("__classdict__" : Str)) = false := by decide +kernel
theorem d_law_scaled : (("_law_scaled" : Str) == ("__debug__" : Str)) = false := by decide +kernel
theorem dc_law_scaled : (("_law_scaled" : Str) == ("__classdict__" : Str)) = false := by decide +kernel
theorem d_law_script : (("_law_script" : Str) == ("__debug__" : Str)) = false := by decide +kernel
theorem dc_law_script : (("_law_script" : Str) == ("__classdict__" : Str)) = false := by decide +kernel
theorem d_law_sip : (("_law_sip" : Str) == ("__debug__" : Str)) = false := by decide +kernel
theorem dc_law_sip : (("_law_sip" : Str) == ("__classdict__" : Str)) = false := by decide +kernel
theorem d_law_some : (("_law_some" : Str) == ("__debug__" : Str)) = false := by decide +kernel
theorem dc_law_some : (("_law_some" : Str) == ("__classdict__" : Str)) = false := by decide +kernel
theorem d_law_some_here : (("_law_some_here" : Str) == ("__debug__" : Str)) = false := by decide +kernel
theorem dc_law_some_here : (("_law_some_here" : Str) == ("__classdict__" : Str)) = false := by decide +kernel
theorem d_law_sparse : (("_law_sparse" : Str) == ("__debug__" : Str)) = false := by decide +kernel
theorem dc_law_sparse : (("_law_sparse" : Str) == ("__classdict__" : Str)) = false := by decide +kernel
theorem d_law_spring : (("_law_spring" : Str) == ("__debug__" : Str)) = false := by decide +kernel
theorem dc_law_spring : (("_law_spring" : Str) == ("__classdict__" : Str)) = false := by decide +kernel
theorem d_law_spring_here : (("_law_spring_here" : Str) == ("__debug__" : Str)) = false := by decide +kernel
theorem dc_law_spring_here : (("_law_spring_here" : Str) == ("__classdict__" : Str)) = false := by decide +kernel
theorem d_law_sum : (("_law_sum" : Str) == ("__debug__" : Str)) = false := by decide +kernel
theorem dc_law_sum : (("_law_sum" : Str) == ("__classdict__" : Str)) = false := by decide +kernel
theorem d_law_times : (("_law_times" : Str) == ("__debug__" : Str)) = false := by decide +kernel
theorem dc_law_times : (("_law_times" : Str) == ("__classdict__" : Str)) = false := by decide +kernel
theorem d_law_told : (("_law_told" : Str) == ("__debug__" : Str)) = false := by decide +kernel
theorem dc_law_told : (("_law_told" : Str) == ("__classdict__" : Str)) = false := by decide +kernel
theorem d_law_top : (("_law_top" : Str) == ("__debug__" : Str)) = false := by decide +kernel
theorem dc_law_top : (("_law_top" : Str) == ("__classdict__" : Str)) = false := by decide +kernel
theorem d_law_trim : (("_law_trim" : Str) == ("__debug__" : Str)) = false := by decide +kernel
theorem dc_law_trim : (("_law_trim" : Str) == ("__classdict__" : Str)) = false := by decide +kernel
theorem d_law_turn : (("_law_turn" : Str) == ("__debug__" : Str)) = false := by decide +kernel
theorem dc_law_turn : (("_law_turn" : Str) == ("__classdict__" : Str)) = false := by decide +kernel
theorem d_law_two : (("_law_two" : Str) == ("__debug__" : Str)) = false := by decide +kernel
theorem dc_law_two : (("_law_two" : Str) == ("__classdict__" : Str)) = false := by decide +kernel
theorem d_law_twos : (("_law_twos" : Str) == ("__debug__" : Str)) = false := by decide +kernel
theorem dc_law_twos : (("_law_twos" : Str) == ("__classdict__" : Str)) = false := by decide +kernel
theorem d_law_under : (("_law_under" : Str) == ("__debug__" : Str)) = false := by decide +kernel
theorem dc_law_under : (("_law_under" : Str) == ("__classdict__" : Str)) = false := by decide +kernel
theorem d_law_undone : (("_law_undone" : Str) == ("__debug__" : Str)) = false := by decide +kernel
theorem dc_law_undone : (("_law_undone" : Str) == ("__classdict__" : Str)) = false := by decide +kernel
theorem d_law_united : (("_law_united" : Str) == ("__debug__" : Str)) = false := by decide +kernel
theorem dc_law_united : (("_law_united" : Str) == ("__classdict__" : Str)) = false := by decide +kernel
theorem d_law_way : (("_law_way" : Str) == ("__debug__" : Str)) = false := by decide +kernel
theorem dc_law_way : (("_law_way" : Str) == ("__classdict__" : Str)) = false := by decide +kernel
theorem d_law_wide : (("_law_wide" : Str) == ("__debug__" : Str)) = false := by decide +kernel
theorem dc_law_wide : (("_law_wide" : Str) == ("__classdict__" : Str)) = false := by decide +kernel
theorem d_law_wide_here : (("_law_wide_here" : Str) == ("__debug__" : Str)) = false := by decide +kernel
theorem dc_law_wide_here : (("_law_wide_here" : Str) == ("__classdict__" : Str)) = false := by decide +kernel
theorem d_law_x : (("_law_x" : Str) == ("__debug__" : Str)) = false := by decide +kernel
theorem dc_law_x : (("_law_x" : Str) == ("__classdict__" : Str)) = false := by decide +kernel
theorem d_law_y : (("_law_y" : Str) == ("__debug__" : Str)) = false := by decide +kernel
theorem dc_law_y : (("_law_y" : Str) == ("__classdict__" : Str)) = false := by decide +kernel
theorem d_abs : (("abs" : Str) == ("__debug__" : Str)) = false := by decide +kernel
theorem dc_abs : (("abs" : Str) == ("__classdict__" : Str)) = false := by decide +kernel
theorem nn_abs : ("abs" : Str) ≠ "__name__" := by decide +kernel
theorem bb_abs : bootBuiltins "abs" = some (.builtin "abs") := by decide +kernel
theorem d_all : (("all" : Str) == ("__debug__" : Str)) = false := by decide +kernel
theorem dc_all : (("all" : Str) == ("__classdict__" : Str)) = false := by decide +kernel
theorem nn_all : ("all" : Str) ≠ "__name__" := by decide +kernel
theorem bb_all : bootBuiltins "all" = some (.builtin "all") := by decide +kernel
theorem d_are_two_rows : (("are_two_rows" : Str) == ("__debug__" : Str)) = false := by decide +kernel
theorem dc_are_two_rows : (("are_two_rows" : Str) == ("__classdict__" : Str)) = false := by decide +kernel
theorem d_are_wholes : (("are_wholes" : Str) == ("__debug__" : Str)) = false := by decide +kernel
theorem dc_are_wholes : (("are_wholes" : Str) == ("__classdict__" : Str)) = false := by decide +kernel
theorem d_at : (("at" : Str) == ("__debug__" : Str)) = false := by decide +kernel
theorem dc_at : (("at" : Str) == ("__classdict__" : Str)) = false := by decide +kernel
theorem d_at_place : (("at_place" : Str) == ("__debug__" : Str)) = false := by decide +kernel
theorem dc_at_place : (("at_place" : Str) == ("__classdict__" : Str)) = false := by decide +kernel
theorem d_best_in : (("best_in" : Str) == ("__debug__" : Str)) = false := by decide +kernel
theorem dc_best_in : (("best_in" : Str) == ("__classdict__" : Str)) = false := by decide +kernel
theorem d_bool : (("bool" : Str) == ("__debug__" : Str)) = false := by decide +kernel
theorem dc_bool : (("bool" : Str) == ("__classdict__" : Str)) = false := by decide +kernel
theorem nn_bool : ("bool" : Str) ≠ "__name__" := by decide +kernel
theorem bb_bool : bootBuiltins "bool" = some (.type "bool") := by decide +kernel
theorem d_channels_in : (("channels_in" : Str) == ("__debug__" : Str)) = false := by decide +kernel
theorem dc_channels_in : (("channels_in" : Str) == ("__classdict__" : Str)) = false := by decide +kernel
theorem d_check_depth : (("check_depth" : Str) == ("__debug__" : Str)) = false := by decide +kernel
theorem dc_check_depth : (("check_depth" : Str) == ("__classdict__" : Str)) = false := by decide +kernel
theorem d_check_row : (("check_row" : Str) == ("__debug__" : Str)) = false := by decide +kernel
theorem dc_check_row : (("check_row" : Str) == ("__classdict__" : Str)) = false := by decide +kernel
theorem d_check_splitter : (("check_splitter" : Str) == ("__debug__" : Str)) = false := by decide +kernel
theorem dc_check_splitter : (("check_splitter" : Str) == ("__classdict__" : Str)) = false := by decide +kernel
theorem d_check_tree : (("check_tree" : Str) == ("__debug__" : Str)) = false := by decide +kernel
theorem dc_check_tree : (("check_tree" : Str) == ("__classdict__" : Str)) = false := by decide +kernel
theorem d_count : (("count" : Str) == ("__debug__" : Str)) = false := by decide +kernel
theorem dc_count : (("count" : Str) == ("__classdict__" : Str)) = false := by decide +kernel
theorem d_deep : (("deep" : Str) == ("__debug__" : Str)) = false := by decide +kernel
theorem dc_deep : (("deep" : Str) == ("__classdict__" : Str)) = false := by decide +kernel
theorem d_divisor_of : (("divisor_of" : Str) == ("__debug__" : Str)) = false := by decide +kernel
theorem dc_divisor_of : (("divisor_of" : Str) == ("__classdict__" : Str)) = false := by decide +kernel
theorem d_divmod : (("divmod" : Str) == ("__debug__" : Str)) = false := by decide +kernel
theorem dc_divmod : (("divmod" : Str) == ("__classdict__" : Str)) = false := by decide +kernel
theorem nn_divmod : ("divmod" : Str) ≠ "__name__" := by decide +kernel
theorem bb_divmod : bootBuiltins "divmod" = some (.builtin "divmod") := by decide +kernel
theorem d_each : (("each" : Str) == ("__debug__" : Str)) = false := by decide +kernel
theorem dc_each : (("each" : Str) == ("__classdict__" : Str)) = false := by decide +kernel
theorem d_end_of : (("end_of" : Str) == ("__debug__" : Str)) = false := by decide +kernel
theorem dc_end_of : (("end_of" : Str) == ("__classdict__" : Str)) = false := by decide +kernel
theorem d_even_of : (("even_of" : Str) == ("__debug__" : Str)) = false := by decide +kernel
theorem dc_even_of : (("even_of" : Str) == ("__classdict__" : Str)) = false := by decide +kernel
theorem d_fewest_numbers : (("fewest_numbers" : Str) == ("__debug__" : Str)) = false := by decide +kernel
theorem dc_fewest_numbers : (("fewest_numbers" : Str) == ("__classdict__" : Str)) = false := by decide +kernel
theorem d_fewest_tree : (("fewest_tree" : Str) == ("__debug__" : Str)) = false := by decide +kernel
theorem dc_fewest_tree : (("fewest_tree" : Str) == ("__classdict__" : Str)) = false := by decide +kernel
theorem d_first : (("first" : Str) == ("__debug__" : Str)) = false := by decide +kernel
theorem dc_first : (("first" : Str) == ("__classdict__" : Str)) = false := by decide +kernel
theorem d_found : (("found" : Str) == ("__debug__" : Str)) = false := by decide +kernel
theorem dc_found : (("found" : Str) == ("__classdict__" : Str)) = false := by decide +kernel
theorem d_gcd : (("gcd" : Str) == ("__debug__" : Str)) = false := by decide +kernel
theorem dc_gcd : (("gcd" : Str) == ("__classdict__" : Str)) = false := by decide +kernel
theorem d_here : (("here" : Str) == ("__debug__" : Str)) = false := by decide +kernel
theorem dc_here : (("here" : Str) == ("__classdict__" : Str)) = false := by decide +kernel
theorem d_high : (("high" : Str) == ("__debug__" : Str)) = false := by decide +kernel
theorem dc_high : (("high" : Str) == ("__classdict__" : Str)) = false := by decide +kernel
theorem d_int : (("int" : Str) == ("__debug__" : Str)) = false := by decide +kernel
theorem dc_int : (("int" : Str) == ("__classdict__" : Str)) = false := by decide +kernel
theorem nn_int : ("int" : Str) ≠ "__name__" := by decide +kernel
theorem bb_int : bootBuiltins "int" = some (.type "int") := by decide +kernel
theorem d_is_between : (("is_between" : Str) == ("__debug__" : Str)) = false := by decide +kernel
theorem dc_is_between : (("is_between" : Str) == ("__classdict__" : Str)) = false := by decide +kernel
theorem d_is_laid : (("is_laid" : Str) == ("__debug__" : Str)) = false := by decide +kernel
theorem dc_is_laid : (("is_laid" : Str) == ("__classdict__" : Str)) = false := by decide +kernel
theorem d_is_ratio : (("is_ratio" : Str) == ("__debug__" : Str)) = false := by decide +kernel
theorem dc_is_ratio : (("is_ratio" : Str) == ("__classdict__" : Str)) = false := by decide +kernel
theorem d_is_tree : (("is_tree" : Str) == ("__debug__" : Str)) = false := by decide +kernel
theorem dc_is_tree : (("is_tree" : Str) == ("__classdict__" : Str)) = false := by decide +kernel
theorem d_is_tree_of : (("is_tree_of" : Str) == ("__debug__" : Str)) = false := by decide +kernel
theorem dc_is_tree_of : (("is_tree_of" : Str) == ("__classdict__" : Str)) = false := by decide +kernel
theorem d_is_whole : (("is_whole" : Str) == ("__debug__" : Str)) = false := by decide +kernel
theorem dc_is_whole : (("is_whole" : Str) == ("__classdict__" : Str)) = false := by decide +kernel
theorem d_isinstance : (("isinstance" : Str) == ("__debug__" : Str)) = false := by decide +kernel
theorem dc_isinstance : (("isinstance" : Str) == ("__classdict__" : Str)) = false := by decide +kernel
theorem nn_isinstance : ("isinstance" : Str) ≠ "__name__" := by decide +kernel
theorem bb_isinstance : bootBuiltins "isinstance" = some (.builtin "isinstance") := by decide +kernel
theorem d_its : (("its" : Str) == ("__debug__" : Str)) = false := by decide +kernel
theorem dc_its : (("its" : Str) == ("__classdict__" : Str)) = false := by decide +kernel
theorem d_len : (("len" : Str) == ("__debug__" : Str)) = false := by decide +kernel
theorem dc_len : (("len" : Str) == ("__classdict__" : Str)) = false := by decide +kernel
theorem nn_len : ("len" : Str) ≠ "__name__" := by decide +kernel
theorem bb_len : bootBuiltins "len" = some (.builtin "len") := by decide +kernel
theorem d_list : (("list" : Str) == ("__debug__" : Str)) = false := by decide +kernel
theorem dc_list : (("list" : Str) == ("__classdict__" : Str)) = false := by decide +kernel
theorem nn_list : ("list" : Str) ≠ "__name__" := by decide +kernel
theorem bb_list : bootBuiltins "list" = some (.type "list") := by decide +kernel
theorem d_low : (("low" : Str) == ("__debug__" : Str)) = false := by decide +kernel
theorem dc_low : (("low" : Str) == ("__classdict__" : Str)) = false := by decide +kernel
theorem d_many : (("many" : Str) == ("__debug__" : Str)) = false := by decide +kernel
theorem dc_many : (("many" : Str) == ("__classdict__" : Str)) = false := by decide +kernel
theorem d_max : (("max" : Str) == ("__debug__" : Str)) = false := by decide +kernel
theorem dc_max : (("max" : Str) == ("__classdict__" : Str)) = false := by decide +kernel
theorem nn_max : ("max" : Str) ≠ "__name__" := by decide +kernel
theorem bb_max : bootBuiltins "max" = some (.builtin "max") := by decide +kernel
theorem d_min : (("min" : Str) == ("__debug__" : Str)) = false := by decide +kernel
theorem dc_min : (("min" : Str) == ("__classdict__" : Str)) = false := by decide +kernel
theorem nn_min : ("min" : Str) ≠ "__name__" := by decide +kernel
theorem bb_min : bootBuiltins "min" = some (.builtin "min") := by decide +kernel
theorem d_mine : (("mine" : Str) == ("__debug__" : Str)) = false := by decide +kernel
theorem dc_mine : (("mine" : Str) == ("__classdict__" : Str)) = false := by decide +kernel
theorem d_numbers : (("numbers" : Str) == ("__debug__" : Str)) = false := by decide +kernel
theorem dc_numbers : (("numbers" : Str) == ("__classdict__" : Str)) = false := by decide +kernel
theorem d_numbers_in : (("numbers_in" : Str) == ("__debug__" : Str)) = false := by decide +kernel
theorem dc_numbers_in : (("numbers_in" : Str) == ("__classdict__" : Str)) = false := by decide +kernel
theorem d_one : (("one" : Str) == ("__debug__" : Str)) = false := by decide +kernel
theorem dc_one : (("one" : Str) == ("__classdict__" : Str)) = false := by decide +kernel
theorem d_part : (("part" : Str) == ("__debug__" : Str)) = false := by decide +kernel
theorem dc_part : (("part" : Str) == ("__classdict__" : Str)) = false := by decide +kernel
theorem d_part_from : (("part_from" : Str) == ("__debug__" : Str)) = false := by decide +kernel
theorem dc_part_from : (("part_from" : Str) == ("__classdict__" : Str)) = false := by decide +kernel
theorem d_parts : (("parts" : Str) == ("__debug__" : Str)) = false := by decide +kernel
theorem dc_parts : (("parts" : Str) == ("__classdict__" : Str)) = false := by decide +kernel
theorem d_place : (("place" : Str) == ("__debug__" : Str)) = false := by decide +kernel
theorem dc_place : (("place" : Str) == ("__classdict__" : Str)) = false := by decide +kernel
theorem d_plus : (("plus" : Str) == ("__debug__" : Str)) = false := by decide +kernel
theorem dc_plus : (("plus" : Str) == ("__classdict__" : Str)) = false := by decide +kernel
theorem d_ratio : (("ratio" : Str) == ("__debug__" : Str)) = false := by decide +kernel
theorem dc_ratio : (("ratio" : Str) == ("__classdict__" : Str)) = false := by decide +kernel
theorem d_repr : (("repr" : Str) == ("__debug__" : Str)) = false := by decide +kernel
theorem dc_repr : (("repr" : Str) == ("__classdict__" : Str)) = false := by decide +kernel
theorem nn_repr : ("repr" : Str) ≠ "__name__" := by decide +kernel
theorem bb_repr : bootBuiltins "repr" = some (.builtin "repr") := by decide +kernel
theorem d_row : (("row" : Str) == ("__debug__" : Str)) = false := by decide +kernel
theorem dc_row : (("row" : Str) == ("__classdict__" : Str)) = false := by decide +kernel
theorem d_row_by : (("row_by" : Str) == ("__debug__" : Str)) = false := by decide +kernel
theorem dc_row_by : (("row_by" : Str) == ("__classdict__" : Str)) = false := by decide +kernel
theorem d_row_product : (("row_product" : Str) == ("__debug__" : Str)) = false := by decide +kernel
theorem dc_row_product : (("row_product" : Str) == ("__classdict__" : Str)) = false := by decide +kernel
theorem d_split_by : (("split_by" : Str) == ("__debug__" : Str)) = false := by decide +kernel
theorem dc_split_by : (("split_by" : Str) == ("__classdict__" : Str)) = false := by decide +kernel
theorem d_splitter : (("splitter" : Str) == ("__debug__" : Str)) = false := by decide +kernel
theorem dc_splitter : (("splitter" : Str) == ("__classdict__" : Str)) = false := by decide +kernel
theorem d_start : (("start" : Str) == ("__debug__" : Str)) = false := by decide +kernel
theorem dc_start : (("start" : Str) == ("__classdict__" : Str)) = false := by decide +kernel
theorem d_sum : (("sum" : Str) == ("__debug__" : Str)) = false := by decide +kernel
theorem dc_sum : (("sum" : Str) == ("__classdict__" : Str)) = false := by decide +kernel
theorem nn_sum : ("sum" : Str) ≠ "__name__" := by decide +kernel
theorem bb_sum : bootBuiltins "sum" = some (.builtin "sum") := by decide +kernel
theorem d_times : (("times" : Str) == ("__debug__" : Str)) = false := by decide +kernel
theorem dc_times : (("times" : Str) == ("__classdict__" : Str)) = false := by decide +kernel
theorem d_top : (("top" : Str) == ("__debug__" : Str)) = false := by decide +kernel
theorem dc_top : (("top" : Str) == ("__classdict__" : Str)) = false := by decide +kernel
theorem d_tree : (("tree" : Str) == ("__debug__" : Str)) = false := by decide +kernel
theorem dc_tree : (("tree" : Str) == ("__classdict__" : Str)) = false := by decide +kernel
theorem d_tree_channels : (("tree_channels" : Str) == ("__debug__" : Str)) = false := by decide +kernel
theorem dc_tree_channels : (("tree_channels" : Str) == ("__classdict__" : Str)) = false := by decide +kernel
theorem d_tuple : (("tuple" : Str) == ("__debug__" : Str)) = false := by decide +kernel
theorem dc_tuple : (("tuple" : Str) == ("__classdict__" : Str)) = false := by decide +kernel
theorem nn_tuple : ("tuple" : Str) ≠ "__name__" := by decide +kernel
theorem bb_tuple : bootBuiltins "tuple" = some (.type "tuple") := by decide +kernel
theorem d_two : (("two" : Str) == ("__debug__" : Str)) = false := by decide +kernel
theorem dc_two : (("two" : Str) == ("__classdict__" : Str)) = false := by decide +kernel
theorem d_value : (("value" : Str) == ("__debug__" : Str)) = false := by decide +kernel
theorem dc_value : (("value" : Str) == ("__classdict__" : Str)) = false := by decide +kernel
end Bs
namespace Bs
open PySem PySem.Spec PyProof.Rows L2
def sc_is_whole : Scope := { kind := .function, names := [("value", .«local»), ("isinstance", .globalImplicit), ("int", .globalImplicit), ("bool", .globalImplicit)], isGenerator := false, isCoroutine := false, more := [] }
def N_is_whole : List Str := ["value"]
theorem hs_is_whole : defScope S8 = sc_is_whole := by rfl
theorem S_is_whole : FnScope N_is_whole ["value"] sc_is_whole := ⟨rfl, rfl, rfl, by decide +kernel, rfl, by decide +kernel, by decide +kernel⟩
theorem n_is_whole_0 : N_is_whole[0]? = some ("value" : Str) := rfl
theorem k_is_whole_bool : sc_is_whole.names.lookup ("bool" : Str) = some NameKind.globalImplicit := by decide +kernel
theorem k_is_whole_int : sc_is_whole.names.lookup ("int" : Str) = some NameKind.globalImplicit := by decide +kernel
theorem k_is_whole_isinstance : sc_is_whole.names.lookup ("isinstance" : Str) = some NameKind.globalImplicit := by decide +kernel
theorem k_is_whole_value : sc_is_whole.names.lookup ("value" : Str) = some NameKind.«local» := by decide +kernel
theorem ok_is_whole {P : Program} {w : World} {K : PySem.W.Frag} {mg : Str → Option Value} {base : Heap} (B : Bx K mg) : OkFn P w K mg base "is_whole" ["value"] 1 F_is_whole :=
  okfn N_is_whole (n := 1) rfl g_is_whole B.at_is_whole hs_is_whole S_is_whole fun f cdv A outer s H E hr => jss_one (js_ret (je_and (je_isi isi_int (je_var (i := 0) (hN := n_is_whole_0) (hv := Or.inl k_is_whole_value) (hd := d_value) (hcd := dc_value)) B.b_isinstance B.b_int (hg := k_is_whole_isinstance) (hv := bb_isinstance) (hgT := k_is_whole_int) (hvT := bb_int) (hn := nn_int) (hdb := d_int)) (je_one (je_not (je_isi isi_bool (je_var (i := 0) (hN := n_is_whole_0) (hv := Or.inl k_is_whole_value) (hd := d_value) (hcd := dc_value)) B.b_isinstance B.b_bool (hg := k_is_whole_isinstance) (hv := bb_isinstance) (hgT := k_is_whole_bool) (hvT := bb_bool) (hn := nn_bool) (hdb := d_bool))))))
def sc_is_between : Scope := { kind := .function, names := [("value", .«local»), ("low", .«local»), ("high", .«local»), ("is_whole", .globalImplicit)], isGenerator := false, isCoroutine := false, more := [] }
def N_is_between : List Str := ["value", "low", "high"]
theorem hs_is_between : defScope S9 = sc_is_between := by rfl
theorem S_is_between : FnScope N_is_between ["value", "low", "high"] sc_is_between := ⟨rfl, rfl, rfl, by decide +kernel, rfl, by decide +kernel, by decide +kernel⟩
theorem n_is_between_0 : N_is_between[0]? = some ("value" : Str) := rfl
theorem n_is_between_1 : N_is_between[1]? = some ("low" : Str) := rfl
theorem n_is_between_2 : N_is_between[2]? = some ("high" : Str) := rfl
theorem k_is_between_high : sc_is_between.names.lookup ("high" : Str) = some NameKind.«local» := by decide +kernel
theorem k_is_between_is_whole : sc_is_between.names.lookup ("is_whole" : Str) = some NameKind.globalImplicit := by decide +kernel
theorem k_is_between_low : sc_is_between.names.lookup ("low" : Str) = some NameKind.«local» := by decide +kernel
theorem k_is_between_value : sc_is_between.names.lookup ("value" : Str) = some NameKind.«local» := by decide +kernel
theorem ok_is_between {P : Program} {w : World} {K : PySem.W.Frag} {mg : Str → Option Value} {base : Heap} (B : Bx K mg) : OkFn P w K mg base "is_between" ["value", "low", "high"] 2 F_is_between :=
  okfn N_is_between (n := 3) rfl g_is_between B.at_is_between hs_is_between S_is_between fun f cdv A outer s H E hr => jss_one (js_ret (je_and (je_call (ok_is_whole B) (hr.mono (by decide)) (ja_cons (je_var (i := 0) (hN := n_is_between_0) (hv := Or.inl k_is_between_value) (hd := d_value) (hcd := dc_value)) (ja_nil)) (hg := k_is_between_is_whole) (hdb := d_is_whole)) (je_one (je_chain op_le r2_le op_le r2_le (je_var (i := 1) (hN := n_is_between_1) (hv := Or.inl k_is_between_low) (hd := d_low) (hcd := dc_low)) (je_var (i := 0) (hN := n_is_between_0) (hv := Or.inl k_is_between_value) (hd := d_value) (hcd := dc_value)) (je_var (i := 2) (hN := n_is_between_2) (hv := Or.inl k_is_between_high) (hd := d_high) (hcd := dc_high))))))
def sc_are_wholes : Scope := { kind := .function, names := [("value", .«local»), ("many", .«local»), ("isinstance", .globalImplicit), ("tuple", .globalImplicit), ("len", .globalImplicit), ("all", .globalImplicit)], isGenerator := false, isCoroutine := false, more := [("fast", .str "value"), ("fast", .str "many"), ("fast", .str "each")] }
def N_are_wholes : List Str := ["value", "many", "each"]
theorem hs_are_wholes : defScope S10 = sc_are_wholes := by rfl
theorem S_are_wholes : FnScope N_are_wholes ["value", "many"] sc_are_wholes := ⟨rfl, rfl, rfl, by decide +kernel, rfl, by decide +kernel, by decide +kernel⟩
theorem n_are_wholes_0 : N_are_wholes[0]? = some ("value" : Str) := rfl
theorem n_are_wholes_1 : N_are_wholes[1]? = some ("many" : Str) := rfl
theorem n_are_wholes_2 : N_are_wholes[2]? = some ("each" : Str) := rfl
theorem k_are_wholes_all : sc_are_wholes.names.lookup ("all" : Str) = some NameKind.globalImplicit := by decide +kernel
theorem k_are_wholes_isinstance : sc_are_wholes.names.lookup ("isinstance" : Str) = some NameKind.globalImplicit := by decide +kernel
theorem k_are_wholes_len : sc_are_wholes.names.lookup ("len" : Str) = some NameKind.globalImplicit := by decide +kernel
theorem k_are_wholes_many : sc_are_wholes.names.lookup ("many" : Str) = some NameKind.«local» := by decide +kernel
theorem k_are_wholes_tuple : sc_are_wholes.names.lookup ("tuple" : Str) = some NameKind.globalImplicit := by decide +kernel
theorem k_are_wholes_value : sc_are_wholes.names.lookup ("value" : Str) = some NameKind.«local» := by decide +kernel
abbrev cs_are_wholes_0 : Scope := { kind := .function, names := [(".0", .«local»), ("each", .«local»), ("is_whole", .globalImplicit)], isGenerator := false, isCoroutine := false, more := [] }
theorem bo_are_wholes_0 : BlkOk N_are_wholes sc_are_wholes cs_are_wholes_0 [("each", 2)] := blkOk_by (by decide +kernel)
theorem kc_are_wholes_0_each : (relS cs_are_wholes_0 sc_are_wholes).names.lookup ("each" : Str) = some NameKind.«local» := by decide +kernel
theorem kc_are_wholes_0_is_whole : (relS cs_are_wholes_0 sc_are_wholes).names.lookup ("is_whole" : Str) = some NameKind.globalImplicit := by decide +kernel
theorem ok_are_wholes {P : Program} {w : World} {K : PySem.W.Frag} {mg : Str → Option Value} {base : Heap} (B : Bx K mg) : OkFn P w K mg base "are_wholes" ["value", "many"] 2 F_are_wholes :=
  okfn N_are_wholes (n := 3) rfl g_are_wholes B.at_are_wholes hs_are_wholes S_are_wholes fun f cdv A outer s H E hr => jss_one (js_ret (je_and (je_isi isi_tup (je_var (i := 0) (hN := n_are_wholes_0) (hv := Or.inl k_are_wholes_value) (hd := d_value) (hcd := dc_value)) B.b_isinstance B.b_tuple (hg := k_are_wholes_isinstance) (hv := bb_isinstance) (hgT := k_are_wholes_tuple) (hvT := bb_tuple) (hn := nn_tuple) (hdb := d_tuple)) (je_and (je_cmp (op_eqP hr.units) r2_eq (je_b1 call_len_seq c1_len (je_var (i := 0) (hN := n_are_wholes_0) (hv := Or.inl k_are_wholes_value) (hd := d_value) (hcd := dc_value)) B.b_len (hg := k_are_wholes_len) (hv := bb_len) (hn := nn_len) (hdb := d_len)) (je_var (i := 1) (hN := n_are_wholes_1) (hv := Or.inl k_are_wholes_many) (hd := d_many) (hcd := dc_many)) (nomark _)) (je_one (je_b1 (cr_all rfl) c1_all (je_list (jl_lc (j := 2) (x := "each") S_are_wholes.nd (jx_tup (je_var (i := 0) (hN := n_are_wholes_0) (hv := Or.inl k_are_wholes_value) (hd := d_value) (hcd := dc_value))) bo_are_wholes_0 (fun _ _ _ _ _ => ji_nil) (fun _ _ _ _ _ => je_call (ok_is_whole B) (hr.mono (by decide)) (ja_cons (je_var (i := 2) (hN := n_are_wholes_2) (hv := Or.inl kc_are_wholes_0_each) (hd := d_each) (hcd := dc_each)) (ja_nil)) (hg := kc_are_wholes_0_is_whole) (hdb := d_is_whole)) (hg := fun _ _ _ _ _ => pg_name S_are_wholes.nd n_are_wholes_2 (Or.inl kc_are_wholes_0_each) (Or.inr kc_are_wholes_0_each)))) B.b_all (hg := k_are_wholes_all) (hv := bb_all) (hn := nn_all) (hdb := d_all))))))
def sc_divisor_of : Scope := { kind := .function, names := [("numbers", .«local»), ("found", .«local»), ("each", .«local»), ("gcd", .globalImplicit)], isGenerator := false, isCoroutine := false, more := [] }
def N_divisor_of : List Str := ["numbers", "found", "each"]
theorem hs_divisor_of : defScope S11 = sc_divisor_of := by rfl
theorem S_divisor_of : FnScope N_divisor_of ["numbers"] sc_divisor_of := ⟨rfl, rfl, rfl, by decide +kernel, rfl, by decide +kernel, by decide +kernel⟩
theorem n_divisor_of_0 : N_divisor_of[0]? = some ("numbers" : Str) := rfl
theorem n_divisor_of_1 : N_divisor_of[1]? = some ("found" : Str) := rfl
theorem n_divisor_of_2 : N_divisor_of[2]? = some ("each" : Str) := rfl
theorem k_divisor_of_each : sc_divisor_of.names.lookup ("each" : Str) = some NameKind.«local» := by decide +kernel
theorem k_divisor_of_found : sc_divisor_of.names.lookup ("found" : Str) = some NameKind.«local» := by decide +kernel
theorem k_divisor_of_gcd : sc_divisor_of.names.lookup ("gcd" : Str) = some NameKind.globalImplicit := by decide +kernel
theorem k_divisor_of_numbers : sc_divisor_of.names.lookup ("numbers" : Str) = some NameKind.«local» := by decide +kernel
theorem ok_divisor_of {P : Program} {w : World} {K : PySem.W.Frag} {mg : Str → Option Value} {base : Heap} (B : Bx K mg) : OkFn P w K mg base "divisor_of" ["numbers"] 1 F_divisor_of :=
  okfn N_divisor_of (n := 3) rfl g_divisor_of B.at_divisor_of hs_divisor_of S_divisor_of fun f cdv A outer s H E hr => jss_cons (js_set (i := 1) S_divisor_of.nd (je_int) (hi := n_divisor_of_1) (hx := Or.inl k_divisor_of_found) (hf := Or.inl rfl))
      (jss_cons (js_for PassesOwn.never (jx_tup (je_var (i := 0) (hN := n_divisor_of_0) (hv := Or.inl k_divisor_of_numbers) (hd := d_numbers) (hcd := dc_numbers))) (jg_name (i := 2) S_divisor_of.nd (hi := n_divisor_of_2) (hx := Or.inl k_divisor_of_each) (hf := Or.inl rfl)) (jss_one (js_set (i := 1) S_divisor_of.nd (je_f2 cr_gcd c2_gcd (je_var (i := 1) (hN := n_divisor_of_1) (hv := Or.inl k_divisor_of_found) (hd := d_found) (hcd := dc_found)) (je_var (i := 2) (hN := n_divisor_of_2) (hv := Or.inl k_divisor_of_each) (hd := d_each) (hcd := dc_each)) B.g_gcd (hg := k_divisor_of_gcd) (hdb := d_gcd)) (hi := n_divisor_of_1) (hx := Or.inl k_divisor_of_found) (hf := Or.inl rfl))))
      (jss_one (js_ret (je_var (i := 1) (hN := n_divisor_of_1) (hv := Or.inl k_divisor_of_found) (hd := d_found) (hcd := dc_found)))))
def sc_is_ratio : Scope := { kind := .function, names := [("value", .«local»), ("are_wholes", .globalImplicit), ("divisor_of", .globalImplicit)], isGenerator := false, isCoroutine := false, more := [] }
def N_is_ratio : List Str := ["value"]
theorem hs_is_ratio : defScope S14 = sc_is_ratio := by rfl
theorem S_is_ratio : FnScope N_is_ratio ["value"] sc_is_ratio := ⟨rfl, rfl, rfl, by decide +kernel, rfl, by decide +kernel, by decide +kernel⟩
theorem n_is_ratio_0 : N_is_ratio[0]? = some ("value" : Str) := rfl
theorem k_is_ratio_are_wholes : sc_is_ratio.names.lookup ("are_wholes" : Str) = some NameKind.globalImplicit := by decide +kernel
theorem k_is_ratio_divisor_of : sc_is_ratio.names.lookup ("divisor_of" : Str) = some NameKind.globalImplicit := by decide +kernel
theorem k_is_ratio_value : sc_is_ratio.names.lookup ("value" : Str) = some NameKind.«local» := by decide +kernel
theorem ok_is_ratio {P : Program} {w : World} {K : PySem.W.Frag} {mg : Str → Option Value} {base : Heap} (B : Bx K mg) : OkFn P w K mg base "is_ratio" ["value"] 3 F_is_ratio :=
  okfn N_is_ratio (n := 1) rfl g_is_ratio B.at_is_ratio hs_is_ratio S_is_ratio fun f cdv A outer s H E hr => jss_one (js_ret (je_and (je_call (ok_are_wholes B) (hr.mono (by decide)) (ja_cons (je_var (i := 0) (hN := n_is_ratio_0) (hv := Or.inl k_is_ratio_value) (hd := d_value) (hcd := dc_value)) (ja_cons (je_int) (ja_nil))) (hg := k_is_ratio_are_wholes) (hdb := d_are_wholes)) (je_and (je_cmp op_gt r2_gt (je_ix ix_seq r2_idx (je_var (i := 0) (hN := n_is_ratio_0) (hv := Or.inl k_is_ratio_value) (hd := d_value) (hcd := dc_value)) (je_int)) (je_int) (nomark _)) (je_one (je_cmp (op_eqP hr.units) r2_eq (je_call (ok_divisor_of B) (hr.mono (by decide)) (ja_cons (je_var (i := 0) (hN := n_is_ratio_0) (hv := Or.inl k_is_ratio_value) (hd := d_value) (hcd := dc_value)) (ja_nil)) (hg := k_is_ratio_divisor_of) (hdb := d_divisor_of)) (je_int) (nomark _))))))
def sc_ratio : Scope := { kind := .function, names := [("top", .«local»), ("low", .«local»), ("part", .«local»), ("divisor_of", .globalImplicit)], isGenerator := false, isCoroutine := false, more := [] }
def N_ratio : List Str := ["top", "low", "part"]
theorem hs_ratio : defScope S15 = sc_ratio := by rfl
theorem S_ratio : FnScope N_ratio ["top", "low"] sc_ratio := ⟨rfl, rfl, rfl, by decide +kernel, rfl, by decide +kernel, by decide +kernel⟩
theorem n_ratio_0 : N_ratio[0]? = some ("top" : Str) := rfl
theorem n_ratio_1 : N_ratio[1]? = some ("low" : Str) := rfl
theorem n_ratio_2 : N_ratio[2]? = some ("part" : Str) := rfl
theorem k_ratio_divisor_of : sc_ratio.names.lookup ("divisor_of" : Str) = some NameKind.globalImplicit := by decide +kernel
theorem k_ratio_low : sc_ratio.names.lookup ("low" : Str) = some NameKind.«local» := by decide +kernel
theorem k_ratio_part : sc_ratio.names.lookup ("part" : Str) = some NameKind.«local» := by decide +kernel
theorem k_ratio_top : sc_ratio.names.lookup ("top" : Str) = some NameKind.«local» := by decide +kernel
theorem ok_ratio {P : Program} {w : World} {K : PySem.W.Frag} {mg : Str → Option Value} {base : Heap} (B : Bx K mg) : OkFn P w K mg base "ratio" ["top", "low"] 2 F_ratio :=
  okfn N_ratio (n := 3) rfl g_ratio B.at_ratio hs_ratio S_ratio fun f cdv A outer s H E hr => jss_cons (js_set (i := 2) S_ratio.nd (je_ite (jt_cmp op_gt r2_gt (je_var (i := 1) (hN := n_ratio_1) (hv := Or.inl k_ratio_low) (hd := d_low) (hcd := dc_low)) (je_int) (nomark _)) (je_call (ok_divisor_of B) (hr.mono (by decide)) (ja_cons (je_tup (jd_cons (je_var (i := 0) (hN := n_ratio_0) (hv := Or.inl k_ratio_top) (hd := d_top) (hcd := dc_top)) (jd_cons (je_var (i := 1) (hN := n_ratio_1) (hv := Or.inl k_ratio_low) (hd := d_low) (hcd := dc_low)) (jd_nil)))) (ja_nil)) (hg := k_ratio_divisor_of) (hdb := d_divisor_of)) (je_un un_neg r1_neg (je_call (ok_divisor_of B) (hr.mono (by decide)) (ja_cons (je_tup (jd_cons (je_var (i := 0) (hN := n_ratio_0) (hv := Or.inl k_ratio_top) (hd := d_top) (hcd := dc_top)) (jd_cons (je_var (i := 1) (hN := n_ratio_1) (hv := Or.inl k_ratio_low) (hd := d_low) (hcd := dc_low)) (jd_nil)))) (ja_nil)) (hg := k_ratio_divisor_of) (hdb := d_divisor_of)))) (hi := n_ratio_2) (hx := Or.inl k_ratio_part) (hf := Or.inl rfl))
      (jss_one (js_ret (je_tup (jd_cons (je_op op_divNW r2_divN (je_var (i := 0) (hN := n_ratio_0) (hv := Or.inl k_ratio_top) (hd := d_top) (hcd := dc_top)) (je_var (i := 2) (hN := n_ratio_2) (hv := Or.inl k_ratio_part) (hd := d_part) (hcd := dc_part))) (jd_cons (je_op op_divNW r2_divN (je_var (i := 1) (hN := n_ratio_1) (hv := Or.inl k_ratio_low) (hd := d_low) (hcd := dc_low)) (je_var (i := 2) (hN := n_ratio_2) (hv := Or.inl k_ratio_part) (hd := d_part) (hcd := dc_part))) (jd_nil))))))
def sc_plus : Scope := { kind := .function, names := [("one", .«local»), ("two", .«local»), ("ratio", .globalImplicit)], isGenerator := false, isCoroutine := false, more := [] }
def N_plus : List Str := ["one", "two"]
theorem hs_plus : defScope S16 = sc_plus := by rfl
theorem S_plus : FnScope N_plus ["one", "two"] sc_plus := ⟨rfl, rfl, rfl, by decide +kernel, rfl, by decide +kernel, by decide +kernel⟩
theorem n_plus_0 : N_plus[0]? = some ("one" : Str) := rfl
theorem n_plus_1 : N_plus[1]? = some ("two" : Str) := rfl
theorem k_plus_one : sc_plus.names.lookup ("one" : Str) = some NameKind.«local» := by decide +kernel
theorem k_plus_ratio : sc_plus.names.lookup ("ratio" : Str) = some NameKind.globalImplicit := by decide +kernel
theorem k_plus_two : sc_plus.names.lookup ("two" : Str) = some NameKind.«local» := by decide +kernel
theorem ok_plus {P : Program} {w : World} {K : PySem.W.Frag} {mg : Str → Option Value} {base : Heap} (B : Bx K mg) : OkFn P w K mg base "plus" ["one", "two"] 3 F_plus :=
  okfn N_plus (n := 2) rfl g_plus B.at_plus hs_plus S_plus fun f cdv A outer s H E hr => jss_one (js_ret (je_call (ok_ratio B) (hr.mono (by decide)) (ja_cons (je_op op_addL r2_add (je_op op_mulW r2_mul (je_ix ix_seq r2_idx (je_var (i := 0) (hN := n_plus_0) (hv := Or.inl k_plus_one) (hd := d_one) (hcd := dc_one)) (je_int)) (je_ix ix_seq r2_idx (je_var (i := 1) (hN := n_plus_1) (hv := Or.inl k_plus_two) (hd := d_two) (hcd := dc_two)) (je_int))) (je_op op_mulW r2_mul (je_ix ix_seq r2_idx (je_var (i := 1) (hN := n_plus_1) (hv := Or.inl k_plus_two) (hd := d_two) (hcd := dc_two)) (je_int)) (je_ix ix_seq r2_idx (je_var (i := 0) (hN := n_plus_0) (hv := Or.inl k_plus_one) (hd := d_one) (hcd := dc_one)) (je_int)))) (ja_cons (je_op op_mulW r2_mul (je_ix ix_seq r2_idx (je_var (i := 0) (hN := n_plus_0) (hv := Or.inl k_plus_one) (hd := d_one) (hcd := dc_one)) (je_int)) (je_ix ix_seq r2_idx (je_var (i := 1) (hN := n_plus_1) (hv := Or.inl k_plus_two) (hd := d_two) (hcd := dc_two)) (je_int))) (ja_nil))) (hg := k_plus_ratio) (hdb := d_ratio)))
def sc_times : Scope := { kind := .function, names := [("one", .«local»), ("two", .«local»), ("ratio", .globalImplicit)], isGenerator := false, isCoroutine := false, more := [] }
def N_times : List Str := ["one", "two"]
theorem hs_times : defScope S17 = sc_times := by rfl
theorem S_times : FnScope N_times ["one", "two"] sc_times := ⟨rfl, rfl, rfl, by decide +kernel, rfl, by decide +kernel, by decide +kernel⟩
theorem n_times_0 : N_times[0]? = some ("one" : Str) := rfl
theorem n_times_1 : N_times[1]? = some ("two" : Str) := rfl
theorem k_times_one : sc_times.names.lookup ("one" : Str) = some NameKind.«local» := by decide +kernel
theorem k_times_ratio : sc_times.names.lookup ("ratio" : Str) = some NameKind.globalImplicit := by decide +kernel
theorem k_times_two : sc_times.names.lookup ("two" : Str) = some NameKind.«local» := by decide +kernel
theorem ok_times {P : Program} {w : World} {K : PySem.W.Frag} {mg : Str → Option Value} {base : Heap} (B : Bx K mg) : OkFn P w K mg base "times" ["one", "two"] 3 F_times :=
  okfn N_times (n := 2) rfl g_times B.at_times hs_times S_times fun f cdv A outer s H E hr => jss_one (js_ret (je_call (ok_ratio B) (hr.mono (by decide)) (ja_cons (je_op op_mulW r2_mul (je_ix ix_seq r2_idx (je_var (i := 0) (hN := n_times_0) (hv := Or.inl k_times_one) (hd := d_one) (hcd := dc_one)) (je_int)) (je_ix ix_seq r2_idx (je_var (i := 1) (hN := n_times_1) (hv := Or.inl k_times_two) (hd := d_two) (hcd := dc_two)) (je_int))) (ja_cons (je_op op_mulW r2_mul (je_ix ix_seq r2_idx (je_var (i := 0) (hN := n_times_0) (hv := Or.inl k_times_one) (hd := d_one) (hcd := dc_one)) (je_int)) (je_ix ix_seq r2_idx (je_var (i := 1) (hN := n_times_1) (hv := Or.inl k_times_two) (hd := d_two) (hcd := dc_two)) (je_int))) (ja_nil))) (hg := k_times_ratio) (hdb := d_ratio)))
def sc_row_by : Scope := { kind := .function, names := [("start", .«local»), ("numbers", .«local»), ("low", .«local»), ("high", .«local»), ("len", .globalImplicit), ("tuple", .globalImplicit), ("NOUGHT", .globalImplicit)], isGenerator := false, isCoroutine := false, more := [] }
def N_row_by : List Str := ["start", "numbers", "low", "high"]
theorem hs_row_by : defScope S20 = sc_row_by := by rfl
theorem S_row_by : FnScope N_row_by ["start", "numbers"] sc_row_by := ⟨rfl, rfl, rfl, by decide +kernel, rfl, by decide +kernel, by decide +kernel⟩
theorem n_row_by_0 : N_row_by[0]? = some ("start" : Str) := rfl
theorem n_row_by_1 : N_row_by[1]? = some ("numbers" : Str) := rfl
theorem n_row_by_2 : N_row_by[2]? = some ("low" : Str) := rfl
theorem n_row_by_3 : N_row_by[3]? = some ("high" : Str) := rfl
theorem k_row_by_NOUGHT : sc_row_by.names.lookup ("NOUGHT" : Str) = some NameKind.globalImplicit := by decide +kernel
theorem k_row_by_high : sc_row_by.names.lookup ("high" : Str) = some NameKind.«local» := by decide +kernel
theorem k_row_by_len : sc_row_by.names.lookup ("len" : Str) = some NameKind.globalImplicit := by decide +kernel
theorem k_row_by_low : sc_row_by.names.lookup ("low" : Str) = some NameKind.«local» := by decide +kernel
theorem k_row_by_numbers : sc_row_by.names.lookup ("numbers" : Str) = some NameKind.«local» := by decide +kernel
theorem k_row_by_start : sc_row_by.names.lookup ("start" : Str) = some NameKind.«local» := by decide +kernel
theorem k_row_by_tuple : sc_row_by.names.lookup ("tuple" : Str) = some NameKind.globalImplicit := by decide +kernel
theorem ok_row_by {P : Program} {w : World} {K : PySem.W.Frag} {mg : Str → Option Value} {base : Heap} (B : Bx K mg) : OkFn P w K mg base "row_by" ["start", "numbers"] 1 F_row_by :=
  okfn N_row_by (n := 4) rfl g_row_by B.at_row_by hs_row_by S_row_by fun f cdv A outer s H E hr => jss_cons (js_par (i := 2) (j := 3) S_row_by.nd (je_int) (je_b1 call_len_seq c1_len (je_var (i := 1) (hN := n_row_by_1) (hv := Or.inl k_row_by_numbers) (hd := d_numbers) (hcd := dc_numbers)) B.b_len (hg := k_row_by_len) (hv := bb_len) (hn := nn_len) (hdb := d_len)) (hi := n_row_by_2) (hj := n_row_by_3) (hx := k_row_by_low) (hy := k_row_by_high))
      (jss_cons (js_while PassesOwn.never (jw_t (jw_and (jt_cmp op_lt r2_lt (je_var (i := 2) (hN := n_row_by_2) (hv := Or.inl k_row_by_low) (hd := d_low) (hcd := dc_low)) (je_var (i := 3) (hN := n_row_by_3) (hv := Or.inl k_row_by_high) (hd := d_high) (hcd := dc_high)) (nomark _)) (jw_and1 (jt_cmp (op_eqP hr.units) r2_eq (je_ix ix_seq r2_idx (je_ix ix_seq r2_idx (je_var (i := 1) (hN := n_row_by_1) (hv := Or.inl k_row_by_numbers) (hd := d_numbers) (hcd := dc_numbers)) (je_var (i := 2) (hN := n_row_by_2) (hv := Or.inl k_row_by_low) (hd := d_low) (hcd := dc_low))) (je_int)) (je_int) (nomark _))))) (jss_one (js_aug (i := 2) S_row_by.nd (je_int) (hi := n_row_by_2) (hx := Or.inl k_row_by_low) (hf := Or.inl rfl))))
      (jss_cons (js_while PassesOwn.never (jw_t (jw_and (jt_cmp op_lt r2_lt (je_var (i := 2) (hN := n_row_by_2) (hv := Or.inl k_row_by_low) (hd := d_low) (hcd := dc_low)) (je_var (i := 3) (hN := n_row_by_3) (hv := Or.inl k_row_by_high) (hd := d_high) (hcd := dc_high)) (nomark _)) (jw_and1 (jt_cmp (op_eqP hr.units) r2_eq (je_ix ix_seq r2_idx (je_ix ix_seq r2_idx (je_var (i := 1) (hN := n_row_by_1) (hv := Or.inl k_row_by_numbers) (hd := d_numbers) (hcd := dc_numbers)) (je_op op_sub r2_sub (je_var (i := 3) (hN := n_row_by_3) (hv := Or.inl k_row_by_high) (hd := d_high) (hcd := dc_high)) (je_int))) (je_int)) (je_int) (nomark _))))) (jss_one (js_augS (i := 3) S_row_by.nd (je_int) (hi := n_row_by_3) (hx := Or.inl k_row_by_high) (hf := Or.inl rfl))))
      (jss_one (js_ret (je_ite (jt_cmp op_lt r2_lt (je_var (i := 2) (hN := n_row_by_2) (hv := Or.inl k_row_by_low) (hd := d_low) (hcd := dc_low)) (je_var (i := 3) (hN := n_row_by_3) (hv := Or.inl k_row_by_high) (hd := d_high) (hcd := dc_high)) (nomark _)) (je_tup (jd_cons (je_op op_addL r2_add (je_var (i := 0) (hN := n_row_by_0) (hv := Or.inl k_row_by_start) (hd := d_start) (hcd := dc_start)) (je_var (i := 2) (hN := n_row_by_2) (hv := Or.inl k_row_by_low) (hd := d_low) (hcd := dc_low))) (jd_cons (je_b1f call_tuple_of c1_tup (je_list (jl_sl (je_var (i := 1) (hN := n_row_by_1) (hv := Or.inl k_row_by_numbers) (hd := d_numbers) (hcd := dc_numbers)) (jo_some (je_var (i := 2) (hN := n_row_by_2) (hv := Or.inl k_row_by_low) (hd := d_low) (hcd := dc_low))) (jo_some (je_var (i := 3) (hN := n_row_by_3) (hv := Or.inl k_row_by_high) (hd := d_high) (hcd := dc_high))))) B.b_tuple (hg := k_row_by_tuple) (hv := bb_tuple) (hn := nn_tuple) (hdb := d_tuple)) (jd_nil)))) (je_glob B.g_NOUGHT (hg := k_row_by_NOUGHT) (hd := d_NOUGHT)))))))
def sc_end_of : Scope := { kind := .function, names := [("row", .«local»), ("len", .globalImplicit)], isGenerator := false, isCoroutine := false, more := [] }
def N_end_of : List Str := ["row"]
theorem hs_end_of : defScope S21 = sc_end_of := by rfl
theorem S_end_of : FnScope N_end_of ["row"] sc_end_of := ⟨rfl, rfl, rfl, by decide +kernel, rfl, by decide +kernel, by decide +kernel⟩
theorem n_end_of_0 : N_end_of[0]? = some ("row" : Str) := rfl
theorem k_end_of_len : sc_end_of.names.lookup ("len" : Str) = some NameKind.globalImplicit := by decide +kernel
theorem k_end_of_row : sc_end_of.names.lookup ("row" : Str) = some NameKind.«local» := by decide +kernel
theorem ok_end_of {P : Program} {w : World} {K : PySem.W.Frag} {mg : Str → Option Value} {base : Heap} (B : Bx K mg) : OkFn P w K mg base "end_of" ["row"] 1 F_end_of :=
  okfn N_end_of (n := 1) rfl g_end_of B.at_end_of hs_end_of S_end_of fun f cdv A outer s H E hr => jss_one (js_ret (je_op op_addL r2_add (je_ix ix_seq r2_idx (je_var (i := 0) (hN := n_end_of_0) (hv := Or.inl k_end_of_row) (hd := d_row) (hcd := dc_row)) (je_int)) (je_b1 call_len_seq c1_len (je_ix ix_seq r2_idx (je_var (i := 0) (hN := n_end_of_0) (hv := Or.inl k_end_of_row) (hd := d_row) (hcd := dc_row)) (je_int)) B.b_len (hg := k_end_of_len) (hv := bb_len) (hn := nn_len) (hdb := d_len))))
def sc_at_place : Scope := { kind := .function, names := [("row", .«local»), ("place", .«local»), ("end_of", .globalImplicit), ("ZERO", .globalImplicit)], isGenerator := false, isCoroutine := false, more := [] }
def N_at_place : List Str := ["row", "place"]
theorem hs_at_place : defScope S22 = sc_at_place := by rfl
theorem S_at_place : FnScope N_at_place ["row", "place"] sc_at_place := ⟨rfl, rfl, rfl, by decide +kernel, rfl, by decide +kernel, by decide +kernel⟩
theorem n_at_place_0 : N_at_place[0]? = some ("row" : Str) := rfl
theorem n_at_place_1 : N_at_place[1]? = some ("place" : Str) := rfl
theorem k_at_place_ZERO : sc_at_place.names.lookup ("ZERO" : Str) = some NameKind.globalImplicit := by decide +kernel
theorem k_at_place_end_of : sc_at_place.names.lookup ("end_of" : Str) = some NameKind.globalImplicit := by decide +kernel
theorem k_at_place_place : sc_at_place.names.lookup ("place" : Str) = some NameKind.«local» := by decide +kernel
theorem k_at_place_row : sc_at_place.names.lookup ("row" : Str) = some NameKind.«local» := by decide +kernel
theorem ok_at_place {P : Program} {w : World} {K : PySem.W.Frag} {mg : Str → Option Value} {base : Heap} (B : Bx K mg) : OkFn P w K mg base "at_place" ["row", "place"] 2 F_at_place :=
  okfn N_at_place (n := 2) rfl g_at_place B.at_at_place hs_at_place S_at_place fun f cdv A outer s H E hr => jss_one (js_ret (je_ite (jt_chain op_le r2_le op_lt r2_lt (je_ix ix_seq r2_idx (je_var (i := 0) (hN := n_at_place_0) (hv := Or.inl k_at_place_row) (hd := d_row) (hcd := dc_row)) (je_int)) (je_var (i := 1) (hN := n_at_place_1) (hv := Or.inl k_at_place_place) (hd := d_place) (hcd := dc_place)) (je_call (ok_end_of B) (hr.mono (by decide)) (ja_cons (je_var (i := 0) (hN := n_at_place_0) (hv := Or.inl k_at_place_row) (hd := d_row) (hcd := dc_row)) (ja_nil)) (hg := k_at_place_end_of) (hdb := d_end_of))) (je_ix ix_seq r2_idx (je_ix ix_seq r2_idx (je_var (i := 0) (hN := n_at_place_0) (hv := Or.inl k_at_place_row) (hd := d_row) (hcd := dc_row)) (je_int)) (je_op op_sub r2_sub (je_var (i := 1) (hN := n_at_place_1) (hv := Or.inl k_at_place_place) (hd := d_place) (hcd := dc_place)) (je_ix ix_seq r2_idx (je_var (i := 0) (hN := n_at_place_0) (hv := Or.inl k_at_place_row) (hd := d_row) (hcd := dc_row)) (je_int)))) (je_glob B.g_ZERO (hg := k_at_place_ZERO) (hd := d_ZERO))))
def sc_row_product : Scope := { kind := .function, names := [("one", .«local»), ("two", .«local»), ("found", .«local»), ("at", .«local»), ("mine", .«local»), ("place", .«local»), ("its", .«local»), ("NOUGHT", .globalImplicit), ("ZERO", .globalImplicit), ("len", .globalImplicit), ("enumerate", .globalImplicit), ("plus", .globalImplicit), ("times", .globalImplicit), ("row_by", .globalImplicit)], isGenerator := false, isCoroutine := false, more := [] }
def N_row_product : List Str := ["one", "two", "found", "at", "mine", "place", "its"]
theorem hs_row_product : defScope S23 = sc_row_product := by rfl
theorem S_row_product : FnScope N_row_product ["one", "two"] sc_row_product := ⟨rfl, rfl, rfl, by decide +kernel, rfl, by decide +kernel, by decide +kernel⟩
theorem n_row_product_0 : N_row_product[0]? = some ("one" : Str) := rfl
theorem n_row_product_1 : N_row_product[1]? = some ("two" : Str) := rfl
theorem n_row_product_2 : N_row_product[2]? = some ("found" : Str) := rfl
theorem n_row_product_3 : N_row_product[3]? = some ("at" : Str) := rfl
theorem n_row_product_4 : N_row_product[4]? = some ("mine" : Str) := rfl
theorem n_row_product_5 : N_row_product[5]? = some ("place" : Str) := rfl
theorem n_row_product_6 : N_row_product[6]? = some ("its" : Str) := rfl
theorem k_row_product_NOUGHT : sc_row_product.names.lookup ("NOUGHT" : Str) = some NameKind.globalImplicit := by decide +kernel
theorem k_row_product_ZERO : sc_row_product.names.lookup ("ZERO" : Str) = some NameKind.globalImplicit := by decide +kernel
theorem k_row_product_at : sc_row_product.names.lookup ("at" : Str) = some NameKind.«local» := by decide +kernel
theorem k_row_product_enumerate : sc_row_product.names.lookup ("enumerate" : Str) = some NameKind.globalImplicit := by decide +kernel
theorem k_row_product_found : sc_row_product.names.lookup ("found" : Str) = some NameKind.«local» := by decide +kernel
theorem k_row_product_its : sc_row_product.names.lookup ("its" : Str) = some NameKind.«local» := by decide +kernel
theorem k_row_product_len : sc_row_product.names.lookup ("len" : Str) = some NameKind.globalImplicit := by decide +kernel
theorem k_row_product_mine : sc_row_product.names.lookup ("mine" : Str) = some NameKind.«local» := by decide +kernel
theorem k_row_product_one : sc_row_product.names.lookup ("one" : Str) = some NameKind.«local» := by decide +kernel
theorem k_row_product_place : sc_row_product.names.lookup ("place" : Str) = some NameKind.«local» := by decide +kernel
theorem k_row_product_plus : sc_row_product.names.lookup ("plus" : Str) = some NameKind.globalImplicit := by decide +kernel
theorem k_row_product_row_by : sc_row_product.names.lookup ("row_by" : Str) = some NameKind.globalImplicit := by decide +kernel
theorem k_row_product_times : sc_row_product.names.lookup ("times" : Str) = some NameKind.globalImplicit := by decide +kernel
theorem k_row_product_two : sc_row_product.names.lookup ("two" : Str) = some NameKind.«local» := by decide +kernel
theorem ok_row_product {P : Program} {w : World} {K : PySem.W.Frag} {mg : Str → Option Value} {base : Heap} (B : Bx K mg) : OkFn P w K mg base "row_product" ["one", "two"] 4 F_row_product :=
  okfn N_row_product (n := 7) rfl g_row_product B.at_row_product hs_row_product S_row_product fun f cdv A outer s H E hr => jss_cons (js_if (jw_t (jw_or (jt_cmp (op_eqP hr.units) r2_eq (je_var (i := 0) (hN := n_row_product_0) (hv := Or.inl k_row_product_one) (hd := d_one) (hcd := dc_one)) (je_glob B.g_NOUGHT (hg := k_row_product_NOUGHT) (hd := d_NOUGHT)) (nomark _)) (jw_or1 (jt_cmp (op_eqP hr.units) r2_eq (je_var (i := 1) (hN := n_row_product_1) (hv := Or.inl k_row_product_two) (hd := d_two) (hcd := dc_two)) (je_glob B.g_NOUGHT (hg := k_row_product_NOUGHT) (hd := d_NOUGHT)) (nomark _))))) (jss_one (js_ret (je_glob B.g_NOUGHT (hg := k_row_product_NOUGHT) (hd := d_NOUGHT)))) (jss_nil))
      (jss_cons (js_new (i := 2) S_row_product.nd (jl_rep (jl_disp (jd_cons (je_glob B.g_ZERO (hg := k_row_product_ZERO) (hd := d_ZERO)) (jd_nil))) (je_op op_sub r2_sub (je_op op_addL r2_add (je_b1 call_len_seq c1_len (je_ix ix_seq r2_idx (je_var (i := 0) (hN := n_row_product_0) (hv := Or.inl k_row_product_one) (hd := d_one) (hcd := dc_one)) (je_int)) B.b_len (hg := k_row_product_len) (hv := bb_len) (hn := nn_len) (hdb := d_len)) (je_b1 call_len_seq c1_len (je_ix ix_seq r2_idx (je_var (i := 1) (hN := n_row_product_1) (hv := Or.inl k_row_product_two) (hd := d_two) (hcd := dc_two)) (je_int)) B.b_len (hg := k_row_product_len) (hv := bb_len) (hn := nn_len) (hdb := d_len))) (je_int))) (hi := n_row_product_2) (hx := Or.inl k_row_product_found) (hf := Or.inl rfl))
      (jss_cons (js_for PassesOwn.never (jx_enum (je_ix ix_seq r2_idx (je_var (i := 0) (hN := n_row_product_0) (hv := Or.inl k_row_product_one) (hd := d_one) (hcd := dc_one)) (je_int)) B.b_enumerate (hg := k_row_product_enumerate)) (jg_tup (jgs_cons (jg_name (i := 3) S_row_product.nd (hi := n_row_product_3) (hx := Or.inl k_row_product_at) (hf := Or.inl rfl)) (jgs_cons (jg_name (i := 4) S_row_product.nd (hi := n_row_product_4) (hx := Or.inl k_row_product_mine) (hf := Or.inl rfl)) (jgs_nil)))) (jss_one (js_for PassesOwn.never (jx_enum (je_ix ix_seq r2_idx (je_var (i := 1) (hN := n_row_product_1) (hv := Or.inl k_row_product_two) (hd := d_two) (hcd := dc_two)) (je_int)) B.b_enumerate (hg := k_row_product_enumerate)) (jg_tup (jgs_cons (jg_name (i := 5) S_row_product.nd (hi := n_row_product_5) (hx := Or.inl k_row_product_place) (hf := Or.inl rfl)) (jgs_cons (jg_name (i := 6) S_row_product.nd (hi := n_row_product_6) (hx := Or.inl k_row_product_its) (hf := Or.inl rfl)) (jgs_nil)))) (jss_one (js_asg (je_call (ok_plus B) (hr.mono (by decide)) (ja_cons (je_mix (i := 2) (je_op op_addL r2_add (je_var (i := 3) (hN := n_row_product_3) (hv := Or.inl k_row_product_at) (hd := d_at) (hcd := dc_at)) (je_var (i := 5) (hN := n_row_product_5) (hv := Or.inl k_row_product_place) (hd := d_place) (hcd := dc_place))) (hN := n_row_product_2) (hv := Or.inl k_row_product_found) (hd := d_found) (hcd := dc_found)) (ja_cons (je_call (ok_times B) (hr.mono (by decide)) (ja_cons (je_var (i := 4) (hN := n_row_product_4) (hv := Or.inl k_row_product_mine) (hd := d_mine) (hcd := dc_mine)) (ja_cons (je_var (i := 6) (hN := n_row_product_6) (hv := Or.inl k_row_product_its) (hd := d_its) (hcd := dc_its)) (ja_nil))) (hg := k_row_product_times) (hdb := d_times)) (ja_nil))) (hg := k_row_product_plus) (hdb := d_plus)) (jg_mut (i := 2) (je_op op_addL r2_add (je_var (i := 3) (hN := n_row_product_3) (hv := Or.inl k_row_product_at) (hd := d_at) (hcd := dc_at)) (je_var (i := 5) (hN := n_row_product_5) (hv := Or.inl k_row_product_place) (hd := d_place) (hcd := dc_place))) (hN := n_row_product_2) (hv := Or.inl k_row_product_found) (hd := d_found) (hcd := dc_found)))))))
      (jss_one (js_ret (je_call (ok_row_by B) (hr.mono (by decide)) (ja_cons (je_op op_addL r2_add (je_ix ix_seq r2_idx (je_var (i := 0) (hN := n_row_product_0) (hv := Or.inl k_row_product_one) (hd := d_one) (hcd := dc_one)) (je_int)) (je_ix ix_seq r2_idx (je_var (i := 1) (hN := n_row_product_1) (hv := Or.inl k_row_product_two) (hd := d_two) (hcd := dc_two)) (je_int))) (ja_cons (je_frz (i := 2) (hN := n_row_product_2) (hv := Or.inl k_row_product_found) (hd := d_found) (hcd := dc_found)) (ja_nil))) (hg := k_row_product_row_by) (hdb := d_row_by))))))
end Bs
namespace Bs
open PySem PySem.Spec PyProof.Rows L2
def sc_part_from : Scope := { kind := .function, names := [("row", .cell), ("first", .cell), ("low", .«local»), ("high", .«local»), ("end_of", .globalImplicit), ("row_by", .globalImplicit), ("range", .globalImplicit)], isGenerator := false, isCoroutine := false, more := [("fast", .str "row"), ("fast", .str "first"), ("fast", .str "low"), ("fast", .str "high"), ("fast", .str "at")] }
def N_part_from : List Str := ["row", "first", "low", "high", "at"]
theorem hs_part_from : defScope S24 = sc_part_from := by rfl
theorem S_part_from : FnScope N_part_from ["row", "first"] sc_part_from := ⟨rfl, rfl, rfl, by decide +kernel, rfl, by decide +kernel, by decide +kernel⟩
theorem n_part_from_0 : N_part_from[0]? = some ("row" : Str) := rfl
theorem n_part_from_1 : N_part_from[1]? = some ("first" : Str) := rfl
theorem n_part_from_2 : N_part_from[2]? = some ("low" : Str) := rfl
theorem n_part_from_3 : N_part_from[3]? = some ("high" : Str) := rfl
theorem n_part_from_4 : N_part_from[4]? = some ("at" : Str) := rfl
theorem k_part_from_end_of : sc_part_from.names.lookup ("end_of" : Str) = some NameKind.globalImplicit := by decide +kernel
theorem k_part_from_first : sc_part_from.names.lookup ("first" : Str) = some NameKind.cell := by decide +kernel
theorem k_part_from_high : sc_part_from.names.lookup ("high" : Str) = some NameKind.«local» := by decide +kernel
theorem k_part_from_low : sc_part_from.names.lookup ("low" : Str) = some NameKind.«local» := by decide +kernel
theorem k_part_from_range : sc_part_from.names.lookup ("range" : Str) = some NameKind.globalImplicit := by decide +kernel
theorem k_part_from_row : sc_part_from.names.lookup ("row" : Str) = some NameKind.cell := by decide +kernel
theorem k_part_from_row_by : sc_part_from.names.lookup ("row_by" : Str) = some NameKind.globalImplicit := by decide +kernel
abbrev cs_part_from_0 : Scope := { kind := .function, names := [(".0", .«local»), ("at", .«local»), ("at_place", .globalImplicit), ("first", .free), ("row", .free)], isGenerator := false, isCoroutine := false, more := [] }
theorem bo_part_from_0 : BlkOk N_part_from sc_part_from cs_part_from_0 [("at", 4)] := blkOk_by (by decide +kernel)
theorem kc_part_from_0_at : (relS cs_part_from_0 sc_part_from).names.lookup ("at" : Str) = some NameKind.«local» := by decide +kernel
theorem kc_part_from_0_at_place : (relS cs_part_from_0 sc_part_from).names.lookup ("at_place" : Str) = some NameKind.globalImplicit := by decide +kernel
theorem kc_part_from_0_first : (relS cs_part_from_0 sc_part_from).names.lookup ("first" : Str) = some NameKind.cell := by decide +kernel
theorem kc_part_from_0_row : (relS cs_part_from_0 sc_part_from).names.lookup ("row" : Str) = some NameKind.cell := by decide +kernel
theorem ok_part_from {P : Program} {w : World} {K : PySem.W.Frag} {mg : Str → Option Value} {base : Heap} (B : Bx K mg) : OkFn P w K mg base "part_from" ["row", "first"] 3 F_part_from :=
  okfn N_part_from (n := 5) rfl g_part_from B.at_part_from hs_part_from S_part_from fun f cdv A outer s H E hr => jss_cons (js_set (i := 2) S_part_from.nd (je_op op_divNW r2_divN (je_op op_addL r2_add (je_op op_sub r2_sub (je_ix ix_seq r2_idx (je_var (i := 0) (hN := n_part_from_0) (hv := Or.inr (Or.inl k_part_from_row)) (hd := d_row) (hcd := dc_row)) (je_int)) (je_var (i := 1) (hN := n_part_from_1) (hv := Or.inr (Or.inl k_part_from_first)) (hd := d_first) (hcd := dc_first))) (je_int)) (je_int)) (hi := n_part_from_2) (hx := Or.inl k_part_from_low) (hf := Or.inl rfl))
      (jss_cons (js_set (i := 3) S_part_from.nd (je_op op_divNW r2_divN (je_op op_addL r2_add (je_op op_sub r2_sub (je_call (ok_end_of B) (hr.mono (by decide)) (ja_cons (je_var (i := 0) (hN := n_part_from_0) (hv := Or.inr (Or.inl k_part_from_row)) (hd := d_row) (hcd := dc_row)) (ja_nil)) (hg := k_part_from_end_of) (hdb := d_end_of)) (je_var (i := 1) (hN := n_part_from_1) (hv := Or.inr (Or.inl k_part_from_first)) (hd := d_first) (hcd := dc_first))) (je_int)) (je_int)) (hi := n_part_from_3) (hx := Or.inl k_part_from_high) (hf := Or.inl rfl))
      (jss_one (js_ret (je_call (ok_row_by B) (hr.mono (by decide)) (ja_cons (je_var (i := 2) (hN := n_part_from_2) (hv := Or.inl k_part_from_low) (hd := d_low) (hcd := dc_low)) (ja_cons (je_list (jl_lc (j := 4) (x := "at") S_part_from.nd (jx_r2 (je_var (i := 2) (hN := n_part_from_2) (hv := Or.inl k_part_from_low) (hd := d_low) (hcd := dc_low)) (je_var (i := 3) (hN := n_part_from_3) (hv := Or.inl k_part_from_high) (hd := d_high) (hcd := dc_high)) B.b_range (hg := k_part_from_range)) bo_part_from_0 (fun _ _ _ _ _ => ji_nil) (fun _ _ _ _ _ => je_call (ok_at_place B) (hr.mono (by decide)) (ja_cons (je_var (i := 0) (hN := n_part_from_0) (hv := Or.inr (Or.inl kc_part_from_0_row)) (hd := d_row) (hcd := dc_row)) (ja_cons (je_op op_addL r2_add (je_op op_mulW r2_mul (je_int) (je_var (i := 4) (hN := n_part_from_4) (hv := Or.inl kc_part_from_0_at) (hd := d_at) (hcd := dc_at))) (je_var (i := 1) (hN := n_part_from_1) (hv := Or.inr (Or.inl kc_part_from_0_first)) (hd := d_first) (hcd := dc_first))) (ja_nil))) (hg := kc_part_from_0_at_place) (hdb := d_at_place)) (hg := fun _ _ _ _ _ => pg_name S_part_from.nd n_part_from_4 (Or.inl kc_part_from_0_at) (Or.inr kc_part_from_0_at)))) (ja_nil))) (hg := k_part_from_row_by) (hdb := d_row_by)))))
def sc_even_of : Scope := { kind := .function, names := [("row", .«local»), ("part_from", .globalImplicit)], isGenerator := false, isCoroutine := false, more := [] }
def N_even_of : List Str := ["row"]
theorem hs_even_of : defScope S25 = sc_even_of := by rfl
theorem S_even_of : FnScope N_even_of ["row"] sc_even_of := ⟨rfl, rfl, rfl, by decide +kernel, rfl, by decide +kernel, by decide +kernel⟩
theorem n_even_of_0 : N_even_of[0]? = some ("row" : Str) := rfl
theorem k_even_of_part_from : sc_even_of.names.lookup ("part_from" : Str) = some NameKind.globalImplicit := by decide +kernel
theorem k_even_of_row : sc_even_of.names.lookup ("row" : Str) = some NameKind.«local» := by decide +kernel
theorem ok_even_of {P : Program} {w : World} {K : PySem.W.Frag} {mg : Str → Option Value} {base : Heap} (B : Bx K mg) : OkFn P w K mg base "even_of" ["row"] 4 F_even_of :=
  okfn N_even_of (n := 1) rfl g_even_of B.at_even_of hs_even_of S_even_of fun f cdv A outer s H E hr => jss_one (js_ret (je_call (ok_part_from B) (hr.mono (by decide)) (ja_cons (je_var (i := 0) (hN := n_even_of_0) (hv := Or.inl k_even_of_row) (hd := d_row) (hcd := dc_row)) (ja_cons (je_int) (ja_nil))) (hg := k_even_of_part_from) (hdb := d_part_from)))
def sc_is_laid : Scope := { kind := .function, names := [("value", .«local»), ("isinstance", .globalImplicit), ("tuple", .globalImplicit), ("len", .globalImplicit), ("is_whole", .globalImplicit), ("all", .globalImplicit)], isGenerator := false, isCoroutine := false, more := [("fast", .str "value"), ("fast", .str "each")] }
def N_is_laid : List Str := ["value", "each"]
theorem hs_is_laid : defScope S27 = sc_is_laid := by rfl
theorem S_is_laid : FnScope N_is_laid ["value"] sc_is_laid := ⟨rfl, rfl, rfl, by decide +kernel, rfl, by decide +kernel, by decide +kernel⟩
theorem n_is_laid_0 : N_is_laid[0]? = some ("value" : Str) := rfl
theorem n_is_laid_1 : N_is_laid[1]? = some ("each" : Str) := rfl
theorem k_is_laid_all : sc_is_laid.names.lookup ("all" : Str) = some NameKind.globalImplicit := by decide +kernel
theorem k_is_laid_is_whole : sc_is_laid.names.lookup ("is_whole" : Str) = some NameKind.globalImplicit := by decide +kernel
theorem k_is_laid_isinstance : sc_is_laid.names.lookup ("isinstance" : Str) = some NameKind.globalImplicit := by decide +kernel
theorem k_is_laid_len : sc_is_laid.names.lookup ("len" : Str) = some NameKind.globalImplicit := by decide +kernel
theorem k_is_laid_tuple : sc_is_laid.names.lookup ("tuple" : Str) = some NameKind.globalImplicit := by decide +kernel
theorem k_is_laid_value : sc_is_laid.names.lookup ("value" : Str) = some NameKind.«local» := by decide +kernel
abbrev cs_is_laid_0 : Scope := { kind := .function, names := [(".0", .«local»), ("each", .«local»), ("is_ratio", .globalImplicit)], isGenerator := false, isCoroutine := false, more := [] }
theorem bo_is_laid_0 : BlkOk N_is_laid sc_is_laid cs_is_laid_0 [("each", 1)] := blkOk_by (by decide +kernel)
theorem kc_is_laid_0_each : (relS cs_is_laid_0 sc_is_laid).names.lookup ("each" : Str) = some NameKind.«local» := by decide +kernel
theorem kc_is_laid_0_is_ratio : (relS cs_is_laid_0 sc_is_laid).names.lookup ("is_ratio" : Str) = some NameKind.globalImplicit := by decide +kernel
theorem ok_is_laid {P : Program} {w : World} {K : PySem.W.Frag} {mg : Str → Option Value} {base : Heap} (B : Bx K mg) : OkFn P w K mg base "is_laid" ["value"] 4 F_is_laid :=
  okfn N_is_laid (n := 2) rfl g_is_laid B.at_is_laid hs_is_laid S_is_laid fun f cdv A outer s H E hr => jss_cons (js_if (jw_t (jw_or (jt_not (jt_val (je_isi isi_tup (je_var (i := 0) (hN := n_is_laid_0) (hv := Or.inl k_is_laid_value) (hd := d_value) (hcd := dc_value)) B.b_isinstance B.b_tuple (hg := k_is_laid_isinstance) (hv := bb_isinstance) (hgT := k_is_laid_tuple) (hvT := bb_tuple) (hn := nn_tuple) (hdb := d_tuple)))) (jw_or (jt_cmp (op_neP hr.units) r2_ne (je_b1 call_len_seq c1_len (je_var (i := 0) (hN := n_is_laid_0) (hv := Or.inl k_is_laid_value) (hd := d_value) (hcd := dc_value)) B.b_len (hg := k_is_laid_len) (hv := bb_len) (hn := nn_len) (hdb := d_len)) (je_int) (nomark _)) (jw_or (jt_not (jt_val (je_call (ok_is_whole B) (hr.mono (by decide)) (ja_cons (je_ix ix_seq r2_idx (je_var (i := 0) (hN := n_is_laid_0) (hv := Or.inl k_is_laid_value) (hd := d_value) (hcd := dc_value)) (je_int)) (ja_nil)) (hg := k_is_laid_is_whole) (hdb := d_is_whole)))) (jw_or1 (jt_not (jt_val (je_isi isi_tup (je_ix ix_seq r2_idx (je_var (i := 0) (hN := n_is_laid_0) (hv := Or.inl k_is_laid_value) (hd := d_value) (hcd := dc_value)) (je_int)) B.b_isinstance B.b_tuple (hg := k_is_laid_isinstance) (hv := bb_isinstance) (hgT := k_is_laid_tuple) (hvT := bb_tuple) (hn := nn_tuple) (hdb := d_tuple))))))))) (jss_one (js_ret (je_bl))) (jss_nil))
      (jss_cons (js_if (jt_cmp (op_eqP hr.units) r2_eq (je_ix ix_seq r2_idx (je_var (i := 0) (hN := n_is_laid_0) (hv := Or.inl k_is_laid_value) (hd := d_value) (hcd := dc_value)) (je_int)) (je_tup (jd_nil)) (nomark _)) (jss_one (js_ret (je_cmp (op_eqP hr.units) r2_eq (je_ix ix_seq r2_idx (je_var (i := 0) (hN := n_is_laid_0) (hv := Or.inl k_is_laid_value) (hd := d_value) (hcd := dc_value)) (je_int)) (je_int) (nomark _)))) (jss_nil))
      (jss_one (js_ret (je_and (je_b1 (cr_all rfl) c1_all (je_list (jl_lc (j := 1) (x := "each") S_is_laid.nd (jx_tup (je_ix ix_seq r2_idx (je_var (i := 0) (hN := n_is_laid_0) (hv := Or.inl k_is_laid_value) (hd := d_value) (hcd := dc_value)) (je_int))) bo_is_laid_0 (fun _ _ _ _ _ => ji_nil) (fun _ _ _ _ _ => je_call (ok_is_ratio B) (hr.mono (by decide)) (ja_cons (je_var (i := 1) (hN := n_is_laid_1) (hv := Or.inl kc_is_laid_0_each) (hd := d_each) (hcd := dc_each)) (ja_nil)) (hg := kc_is_laid_0_is_ratio) (hdb := d_is_ratio)) (hg := fun _ _ _ _ _ => pg_name S_is_laid.nd n_is_laid_1 (Or.inl kc_is_laid_0_each) (Or.inr kc_is_laid_0_each)))) B.b_all (hg := k_is_laid_all) (hv := bb_all) (hn := nn_all) (hdb := d_all)) (je_and (je_cmp (op_neP hr.units) r2_ne (je_ix ix_seq r2_idx (je_ix ix_seq r2_idx (je_ix ix_seq r2_idx (je_var (i := 0) (hN := n_is_laid_0) (hv := Or.inl k_is_laid_value) (hd := d_value) (hcd := dc_value)) (je_int)) (je_int)) (je_int)) (je_int) (nomark _)) (je_one (je_cmp (op_neP hr.units) r2_ne (je_ix ix_seq r2_idx (je_ix ix_seq r2_idx (je_ix ix_seq r2_idx (je_var (i := 0) (hN := n_is_laid_0) (hv := Or.inl k_is_laid_value) (hd := d_value) (hcd := dc_value)) (je_int)) (je_un un_neg r1_neg (je_int))) (je_int)) (je_int) (nomark _))))))))
def sc_check_row : Scope := { kind := .function, names := [("value", .«local»), ("is_laid", .globalImplicit), ("InvalidRow", .globalImplicit)], isGenerator := false, isCoroutine := false, more := [] }
def N_check_row : List Str := ["value"]
theorem hs_check_row : defScope S28 = sc_check_row := by rfl
theorem S_check_row : FnScope N_check_row ["value"] sc_check_row := ⟨rfl, rfl, rfl, by decide +kernel, rfl, by decide +kernel, by decide +kernel⟩
theorem n_check_row_0 : N_check_row[0]? = some ("value" : Str) := rfl
theorem k_check_row_is_laid : sc_check_row.names.lookup ("is_laid" : Str) = some NameKind.globalImplicit := by decide +kernel
theorem k_check_row_value : sc_check_row.names.lookup ("value" : Str) = some NameKind.«local» := by decide +kernel
theorem ok_check_row {P : Program} {w : World} {K : PySem.W.Frag} {mg : Str → Option Value} {base : Heap} (B : Bx K mg) : OkFn P w K mg base "check_row" ["value"] 5 F_check_row :=
  okfn N_check_row (n := 1) rfl g_check_row B.at_check_row hs_check_row S_check_row fun f cdv A outer s H E hr => jss_one (js_if (jt_not (jt_val (je_call (ok_is_laid B) (hr.mono (by decide)) (ja_cons (je_var (i := 0) (hN := n_check_row_0) (hv := Or.inl k_check_row_value) (hd := d_value) (hcd := dc_value)) (ja_nil)) (hg := k_check_row_is_laid) (hdb := d_is_laid)))) (jss_one (js_never)) (jss_nil))
def sc_are_two_rows : Scope := { kind := .function, names := [("value", .«local»), ("isinstance", .globalImplicit), ("tuple", .globalImplicit), ("len", .globalImplicit), ("is_laid", .globalImplicit)], isGenerator := false, isCoroutine := false, more := [] }
def N_are_two_rows : List Str := ["value"]
theorem hs_are_two_rows : defScope S30 = sc_are_two_rows := by rfl
theorem S_are_two_rows : FnScope N_are_two_rows ["value"] sc_are_two_rows := ⟨rfl, rfl, rfl, by decide +kernel, rfl, by decide +kernel, by decide +kernel⟩
theorem n_are_two_rows_0 : N_are_two_rows[0]? = some ("value" : Str) := rfl
theorem k_are_two_rows_is_laid : sc_are_two_rows.names.lookup ("is_laid" : Str) = some NameKind.globalImplicit := by decide +kernel
theorem k_are_two_rows_isinstance : sc_are_two_rows.names.lookup ("isinstance" : Str) = some NameKind.globalImplicit := by decide +kernel
theorem k_are_two_rows_len : sc_are_two_rows.names.lookup ("len" : Str) = some NameKind.globalImplicit := by decide +kernel
theorem k_are_two_rows_tuple : sc_are_two_rows.names.lookup ("tuple" : Str) = some NameKind.globalImplicit := by decide +kernel
theorem k_are_two_rows_value : sc_are_two_rows.names.lookup ("value" : Str) = some NameKind.«local» := by decide +kernel
theorem ok_are_two_rows {P : Program} {w : World} {K : PySem.W.Frag} {mg : Str → Option Value} {base : Heap} (B : Bx K mg) : OkFn P w K mg base "are_two_rows" ["value"] 5 F_are_two_rows :=
  okfn N_are_two_rows (n := 1) rfl g_are_two_rows B.at_are_two_rows hs_are_two_rows S_are_two_rows fun f cdv A outer s H E hr => jss_one (js_ret (je_and (je_isi isi_tup (je_var (i := 0) (hN := n_are_two_rows_0) (hv := Or.inl k_are_two_rows_value) (hd := d_value) (hcd := dc_value)) B.b_isinstance B.b_tuple (hg := k_are_two_rows_isinstance) (hv := bb_isinstance) (hgT := k_are_two_rows_tuple) (hvT := bb_tuple) (hn := nn_tuple) (hdb := d_tuple)) (je_and (je_cmp (op_eqP hr.units) r2_eq (je_b1 call_len_seq c1_len (je_var (i := 0) (hN := n_are_two_rows_0) (hv := Or.inl k_are_two_rows_value) (hd := d_value) (hcd := dc_value)) B.b_len (hg := k_are_two_rows_len) (hv := bb_len) (hn := nn_len) (hdb := d_len)) (je_int) (nomark _)) (je_and (je_call (ok_is_laid B) (hr.mono (by decide)) (ja_cons (je_ix ix_seq r2_idx (je_var (i := 0) (hN := n_are_two_rows_0) (hv := Or.inl k_are_two_rows_value) (hd := d_value) (hcd := dc_value)) (je_int)) (ja_nil)) (hg := k_are_two_rows_is_laid) (hdb := d_is_laid)) (je_one (je_call (ok_is_laid B) (hr.mono (by decide)) (ja_cons (je_ix ix_seq r2_idx (je_var (i := 0) (hN := n_are_two_rows_0) (hv := Or.inl k_are_two_rows_value) (hd := d_value) (hcd := dc_value)) (je_int)) (ja_nil)) (hg := k_are_two_rows_is_laid) (hdb := d_is_laid)))))))
def sc_check_splitter : Scope := { kind := .function, names := [("value", .«local»), ("are_two_rows", .globalImplicit), ("InvalidSplitter", .globalImplicit)], isGenerator := false, isCoroutine := false, more := [] }
def N_check_splitter : List Str := ["value"]
theorem hs_check_splitter : defScope S31 = sc_check_splitter := by rfl
theorem S_check_splitter : FnScope N_check_splitter ["value"] sc_check_splitter := ⟨rfl, rfl, rfl, by decide +kernel, rfl, by decide +kernel, by decide +kernel⟩
theorem n_check_splitter_0 : N_check_splitter[0]? = some ("value" : Str) := rfl
theorem k_check_splitter_are_two_rows : sc_check_splitter.names.lookup ("are_two_rows" : Str) = some NameKind.globalImplicit := by decide +kernel
theorem k_check_splitter_value : sc_check_splitter.names.lookup ("value" : Str) = some NameKind.«local» := by decide +kernel
theorem ok_check_splitter {P : Program} {w : World} {K : PySem.W.Frag} {mg : Str → Option Value} {base : Heap} (B : Bx K mg) : OkFn P w K mg base "check_splitter" ["value"] 6 F_check_splitter :=
  okfn N_check_splitter (n := 1) rfl g_check_splitter B.at_check_splitter hs_check_splitter S_check_splitter fun f cdv A outer s H E hr => jss_one (js_if (jt_not (jt_val (je_call (ok_are_two_rows B) (hr.mono (by decide)) (ja_cons (je_var (i := 0) (hN := n_check_splitter_0) (hv := Or.inl k_check_splitter_value) (hd := d_value) (hcd := dc_value)) (ja_nil)) (hg := k_check_splitter_are_two_rows) (hdb := d_are_two_rows)))) (jss_one (js_never)) (jss_nil))
def sc_split_by : Scope := { kind := .function, names := [("splitter", .«local»), ("row", .cell), ("tuple", .globalImplicit)], isGenerator := false, isCoroutine := false, more := [("fast", .str "splitter"), ("fast", .str "row"), ("fast", .str "each")] }
def N_split_by : List Str := ["splitter", "row", "each"]
theorem hs_split_by : defScope S32 = sc_split_by := by rfl
theorem S_split_by : FnScope N_split_by ["splitter", "row"] sc_split_by := ⟨rfl, rfl, rfl, by decide +kernel, rfl, by decide +kernel, by decide +kernel⟩
theorem n_split_by_0 : N_split_by[0]? = some ("splitter" : Str) := rfl
theorem n_split_by_1 : N_split_by[1]? = some ("row" : Str) := rfl
theorem n_split_by_2 : N_split_by[2]? = some ("each" : Str) := rfl
theorem k_split_by_splitter : sc_split_by.names.lookup ("splitter" : Str) = some NameKind.«local» := by decide +kernel
theorem k_split_by_tuple : sc_split_by.names.lookup ("tuple" : Str) = some NameKind.globalImplicit := by decide +kernel
abbrev cs_split_by_0 : Scope := { kind := .function, names := [(".0", .«local»), ("each", .«local»), ("even_of", .globalImplicit), ("row_product", .globalImplicit), ("row", .free)], isGenerator := false, isCoroutine := false, more := [] }
theorem bo_split_by_0 : BlkOk N_split_by sc_split_by cs_split_by_0 [("each", 2)] := blkOk_by (by decide +kernel)
theorem kc_split_by_0_each : (relS cs_split_by_0 sc_split_by).names.lookup ("each" : Str) = some NameKind.«local» := by decide +kernel
theorem kc_split_by_0_even_of : (relS cs_split_by_0 sc_split_by).names.lookup ("even_of" : Str) = some NameKind.globalImplicit := by decide +kernel
theorem kc_split_by_0_row : (relS cs_split_by_0 sc_split_by).names.lookup ("row" : Str) = some NameKind.cell := by decide +kernel
theorem kc_split_by_0_row_product : (relS cs_split_by_0 sc_split_by).names.lookup ("row_product" : Str) = some NameKind.globalImplicit := by decide +kernel
theorem ok_split_by {P : Program} {w : World} {K : PySem.W.Frag} {mg : Str → Option Value} {base : Heap} (B : Bx K mg) : OkFn P w K mg base "split_by" ["splitter", "row"] 5 F_split_by :=
  okfn N_split_by (n := 3) rfl g_split_by B.at_split_by hs_split_by S_split_by fun f cdv A outer s H E hr => jss_one (js_ret (je_b1f call_tuple_of c1_tup (je_list (jl_lc (j := 2) (x := "each") S_split_by.nd (jx_tup (je_var (i := 0) (hN := n_split_by_0) (hv := Or.inl k_split_by_splitter) (hd := d_splitter) (hcd := dc_splitter))) bo_split_by_0 (fun _ _ _ _ _ => ji_nil) (fun _ _ _ _ _ => je_call (ok_even_of B) (hr.mono (by decide)) (ja_cons (je_call (ok_row_product B) (hr.mono (by decide)) (ja_cons (je_var (i := 2) (hN := n_split_by_2) (hv := Or.inl kc_split_by_0_each) (hd := d_each) (hcd := dc_each)) (ja_cons (je_var (i := 1) (hN := n_split_by_1) (hv := Or.inr (Or.inl kc_split_by_0_row)) (hd := d_row) (hcd := dc_row)) (ja_nil))) (hg := kc_split_by_0_row_product) (hdb := d_row_product)) (ja_nil)) (hg := kc_split_by_0_even_of) (hdb := d_even_of)) (hg := fun _ _ _ _ _ => pg_name S_split_by.nd n_split_by_2 (Or.inl kc_split_by_0_each) (Or.inr kc_split_by_0_each)))) B.b_tuple (hg := k_split_by_tuple) (hv := bb_tuple) (hn := nn_tuple) (hdb := d_tuple)))
def sc_is_tree_of : Scope := { kind := .function, names := [("value", .«local»), ("deep", .cell), ("isinstance", .globalImplicit), ("tuple", .globalImplicit), ("len", .globalImplicit), ("all", .globalImplicit)], isGenerator := false, isCoroutine := false, more := [("fast", .str "value"), ("fast", .str "deep"), ("fast", .str "each")] }
def N_is_tree_of : List Str := ["value", "deep", "each"]
theorem hs_is_tree_of : defScope S35 = sc_is_tree_of := by rfl
theorem S_is_tree_of : FnScope N_is_tree_of ["value", "deep"] sc_is_tree_of := ⟨rfl, rfl, rfl, by decide +kernel, rfl, by decide +kernel, by decide +kernel⟩
theorem n_is_tree_of_0 : N_is_tree_of[0]? = some ("value" : Str) := rfl
theorem n_is_tree_of_1 : N_is_tree_of[1]? = some ("deep" : Str) := rfl
theorem n_is_tree_of_2 : N_is_tree_of[2]? = some ("each" : Str) := rfl
theorem k_is_tree_of_all : sc_is_tree_of.names.lookup ("all" : Str) = some NameKind.globalImplicit := by decide +kernel
theorem k_is_tree_of_deep : sc_is_tree_of.names.lookup ("deep" : Str) = some NameKind.cell := by decide +kernel
theorem k_is_tree_of_isinstance : sc_is_tree_of.names.lookup ("isinstance" : Str) = some NameKind.globalImplicit := by decide +kernel
theorem k_is_tree_of_len : sc_is_tree_of.names.lookup ("len" : Str) = some NameKind.globalImplicit := by decide +kernel
theorem k_is_tree_of_tuple : sc_is_tree_of.names.lookup ("tuple" : Str) = some NameKind.globalImplicit := by decide +kernel
theorem k_is_tree_of_value : sc_is_tree_of.names.lookup ("value" : Str) = some NameKind.«local» := by decide +kernel
abbrev cs_is_tree_of_0 : Scope := { kind := .function, names := [(".0", .«local»), ("each", .«local»), ("is_tree_of", .globalImplicit), ("deep", .free)], isGenerator := false, isCoroutine := false, more := [] }
theorem bo_is_tree_of_0 : BlkOk N_is_tree_of sc_is_tree_of cs_is_tree_of_0 [("each", 2)] := blkOk_by (by decide +kernel)
theorem kc_is_tree_of_0_deep : (relS cs_is_tree_of_0 sc_is_tree_of).names.lookup ("deep" : Str) = some NameKind.cell := by decide +kernel
theorem kc_is_tree_of_0_each : (relS cs_is_tree_of_0 sc_is_tree_of).names.lookup ("each" : Str) = some NameKind.«local» := by decide +kernel
theorem kc_is_tree_of_0_is_tree_of : (relS cs_is_tree_of_0 sc_is_tree_of).names.lookup ("is_tree_of" : Str) = some NameKind.globalImplicit := by decide +kernel
theorem ok_is_tree_of {P : Program} {w : World} {K : PySem.W.Frag} {mg : Str → Option Value} {base : Heap} (B : Bx K mg) : ∀ n : Nat, OkFn P w K mg base "is_tree_of" ["value", "deep"] (0 + n) (F_is_tree_of n)
  | 0 => okfn0 B.at_is_tree_of
  | n + 1 => by
    have ih := ok_is_tree_of (P := P) (w := w) (base := base) B n
    exact okfn N_is_tree_of (n := 3) rfl (g_is_tree_of (F_is_tree_of n)) B.at_is_tree_of hs_is_tree_of S_is_tree_of fun f cdv A outer s H E hr => jss_cons (js_if (jt_isN (je_var (i := 0) (hN := n_is_tree_of_0) (hv := Or.inl k_is_tree_of_value) (hd := d_value) (hcd := dc_value))) (jss_one (js_ret (je_bl))) (jss_nil))
      (jss_cons (js_if (jw_t (jw_or (jt_cmp (op_eqP hr.units) r2_eq (je_var (i := 1) (hN := n_is_tree_of_1) (hv := Or.inr (Or.inl k_is_tree_of_deep)) (hd := d_deep) (hcd := dc_deep)) (je_int) (nomark _)) (jw_or (jt_not (jt_val (je_isi isi_tup (je_var (i := 0) (hN := n_is_tree_of_0) (hv := Or.inl k_is_tree_of_value) (hd := d_value) (hcd := dc_value)) B.b_isinstance B.b_tuple (hg := k_is_tree_of_isinstance) (hv := bb_isinstance) (hgT := k_is_tree_of_tuple) (hvT := bb_tuple) (hn := nn_tuple) (hdb := d_tuple)))) (jw_or1 (jt_cmp (op_neP hr.units) r2_ne (je_b1 call_len_seq c1_len (je_var (i := 0) (hN := n_is_tree_of_0) (hv := Or.inl k_is_tree_of_value) (hd := d_value) (hcd := dc_value)) B.b_len (hg := k_is_tree_of_len) (hv := bb_len) (hn := nn_len) (hdb := d_len)) (je_int) (nomark _)))))) (jss_one (js_ret (je_bl))) (jss_nil))
      (jss_one (js_ret (je_b1 (cr_all rfl) c1_all (je_list (jl_lc (j := 2) (x := "each") S_is_tree_of.nd (jx_tup (je_var (i := 0) (hN := n_is_tree_of_0) (hv := Or.inl k_is_tree_of_value) (hd := d_value) (hcd := dc_value))) bo_is_tree_of_0 (fun _ _ _ _ _ => ji_nil) (fun _ _ _ _ _ => je_call ih (hr.mono (by (try simp only [Nat.add_eq]); omega)) (ja_cons (je_var (i := 2) (hN := n_is_tree_of_2) (hv := Or.inl kc_is_tree_of_0_each) (hd := d_each) (hcd := dc_each)) (ja_cons (je_op op_sub r2_sub (je_var (i := 1) (hN := n_is_tree_of_1) (hv := Or.inr (Or.inl kc_is_tree_of_0_deep)) (hd := d_deep) (hcd := dc_deep)) (je_int)) (ja_nil))) (hg := kc_is_tree_of_0_is_tree_of) (hdb := d_is_tree_of)) (hg := fun _ _ _ _ _ => pg_name S_is_tree_of.nd n_is_tree_of_2 (Or.inl kc_is_tree_of_0_each) (Or.inr kc_is_tree_of_0_each)))) B.b_all (hg := k_is_tree_of_all) (hv := bb_all) (hn := nn_all) (hdb := d_all)))))
def sc_is_tree : Scope := { kind := .function, names := [("value", .«local»), ("is_tree_of", .globalImplicit), ("MOST_DEEP", .globalImplicit)], isGenerator := false, isCoroutine := false, more := [] }
def N_is_tree : List Str := ["value"]
theorem hs_is_tree : defScope S36 = sc_is_tree := by rfl
theorem S_is_tree : FnScope N_is_tree ["value"] sc_is_tree := ⟨rfl, rfl, rfl, by decide +kernel, rfl, by decide +kernel, by decide +kernel⟩
theorem n_is_tree_0 : N_is_tree[0]? = some ("value" : Str) := rfl
theorem k_is_tree_MOST_DEEP : sc_is_tree.names.lookup ("MOST_DEEP" : Str) = some NameKind.globalImplicit := by decide +kernel
theorem k_is_tree_is_tree_of : sc_is_tree.names.lookup ("is_tree_of" : Str) = some NameKind.globalImplicit := by decide +kernel
theorem k_is_tree_value : sc_is_tree.names.lookup ("value" : Str) = some NameKind.«local» := by decide +kernel
theorem ok_is_tree {P : Program} {w : World} {K : PySem.W.Frag} {mg : Str → Option Value} {base : Heap} (B : Bx K mg) : OkFn P w K mg base "is_tree" ["value"] 7 F_is_tree :=
  okfn N_is_tree (n := 1) rfl g_is_tree B.at_is_tree hs_is_tree S_is_tree fun f cdv A outer s H E hr => jss_one (js_ret (je_call (ok_is_tree_of B 6) (hr.mono (by decide)) (ja_cons (je_var (i := 0) (hN := n_is_tree_0) (hv := Or.inl k_is_tree_value) (hd := d_value) (hcd := dc_value)) (ja_cons (je_glob B.g_MOST_DEEP (hg := k_is_tree_MOST_DEEP) (hd := d_MOST_DEEP)) (ja_nil))) (hg := k_is_tree_is_tree_of) (hdb := d_is_tree_of)))
def sc_check_tree : Scope := { kind := .function, names := [("value", .«local»), ("is_tree", .globalImplicit), ("InvalidTree", .globalImplicit)], isGenerator := false, isCoroutine := false, more := [] }
def N_check_tree : List Str := ["value"]
theorem hs_check_tree : defScope S37 = sc_check_tree := by rfl
theorem S_check_tree : FnScope N_check_tree ["value"] sc_check_tree := ⟨rfl, rfl, rfl, by decide +kernel, rfl, by decide +kernel, by decide +kernel⟩
theorem n_check_tree_0 : N_check_tree[0]? = some ("value" : Str) := rfl
theorem k_check_tree_is_tree : sc_check_tree.names.lookup ("is_tree" : Str) = some NameKind.globalImplicit := by decide +kernel
theorem k_check_tree_value : sc_check_tree.names.lookup ("value" : Str) = some NameKind.«local» := by decide +kernel
theorem ok_check_tree {P : Program} {w : World} {K : PySem.W.Frag} {mg : Str → Option Value} {base : Heap} (B : Bx K mg) : OkFn P w K mg base "check_tree" ["value"] 8 F_check_tree :=
  okfn N_check_tree (n := 1) rfl g_check_tree B.at_check_tree hs_check_tree S_check_tree fun f cdv A outer s H E hr => jss_one (js_if (jt_not (jt_val (je_call (ok_is_tree B) (hr.mono (by decide)) (ja_cons (je_var (i := 0) (hN := n_check_tree_0) (hv := Or.inl k_check_tree_value) (hd := d_value) (hcd := dc_value)) (ja_nil)) (hg := k_check_tree_is_tree) (hdb := d_is_tree)))) (jss_one (js_never)) (jss_nil))
def sc_check_depth : Scope := { kind := .function, names := [("value", .«local»), ("is_between", .globalImplicit), ("MOST_DEEP", .globalImplicit), ("InvalidNumber", .globalImplicit)], isGenerator := false, isCoroutine := false, more := [] }
def N_check_depth : List Str := ["value"]
theorem hs_check_depth : defScope S38 = sc_check_depth := by rfl
theorem S_check_depth : FnScope N_check_depth ["value"] sc_check_depth := ⟨rfl, rfl, rfl, by decide +kernel, rfl, by decide +kernel, by decide +kernel⟩
theorem n_check_depth_0 : N_check_depth[0]? = some ("value" : Str) := rfl
theorem k_check_depth_MOST_DEEP : sc_check_depth.names.lookup ("MOST_DEEP" : Str) = some NameKind.globalImplicit := by decide +kernel
theorem k_check_depth_is_between : sc_check_depth.names.lookup ("is_between" : Str) = some NameKind.globalImplicit := by decide +kernel
theorem k_check_depth_value : sc_check_depth.names.lookup ("value" : Str) = some NameKind.«local» := by decide +kernel
theorem ok_check_depth {P : Program} {w : World} {K : PySem.W.Frag} {mg : Str → Option Value} {base : Heap} (B : Bx K mg) : OkFn P w K mg base "check_depth" ["value"] 3 F_check_depth :=
  okfn N_check_depth (n := 1) rfl g_check_depth B.at_check_depth hs_check_depth S_check_depth fun f cdv A outer s H E hr => jss_one (js_if (jt_not (jt_val (je_call (ok_is_between B) (hr.mono (by decide)) (ja_cons (je_var (i := 0) (hN := n_check_depth_0) (hv := Or.inl k_check_depth_value) (hd := d_value) (hcd := dc_value)) (ja_cons (je_int) (ja_cons (je_glob B.g_MOST_DEEP (hg := k_check_depth_MOST_DEEP) (hd := d_MOST_DEEP)) (ja_nil)))) (hg := k_check_depth_is_between) (hdb := d_is_between)))) (jss_one (js_never)) (jss_nil))
def sc_channels_in : Scope := { kind := .function, names := [("splitter", .«local»), ("tree", .«local»), ("row", .«local»), ("low", .«local»), ("high", .«local»), ("split_by", .globalImplicit), ("channels_in", .globalImplicit)], isGenerator := false, isCoroutine := false, more := [] }
def N_channels_in : List Str := ["splitter", "tree", "row", "low", "high"]
theorem hs_channels_in : defScope S39 = sc_channels_in := by rfl
theorem S_channels_in : FnScope N_channels_in ["splitter", "tree", "row"] sc_channels_in := ⟨rfl, rfl, rfl, by decide +kernel, rfl, by decide +kernel, by decide +kernel⟩
theorem n_channels_in_0 : N_channels_in[0]? = some ("splitter" : Str) := rfl
theorem n_channels_in_1 : N_channels_in[1]? = some ("tree" : Str) := rfl
theorem n_channels_in_2 : N_channels_in[2]? = some ("row" : Str) := rfl
theorem n_channels_in_3 : N_channels_in[3]? = some ("low" : Str) := rfl
theorem n_channels_in_4 : N_channels_in[4]? = some ("high" : Str) := rfl
theorem k_channels_in_channels_in : sc_channels_in.names.lookup ("channels_in" : Str) = some NameKind.globalImplicit := by decide +kernel
theorem k_channels_in_high : sc_channels_in.names.lookup ("high" : Str) = some NameKind.«local» := by decide +kernel
theorem k_channels_in_low : sc_channels_in.names.lookup ("low" : Str) = some NameKind.«local» := by decide +kernel
theorem k_channels_in_row : sc_channels_in.names.lookup ("row" : Str) = some NameKind.«local» := by decide +kernel
theorem k_channels_in_split_by : sc_channels_in.names.lookup ("split_by" : Str) = some NameKind.globalImplicit := by decide +kernel
theorem k_channels_in_splitter : sc_channels_in.names.lookup ("splitter" : Str) = some NameKind.«local» := by decide +kernel
theorem k_channels_in_tree : sc_channels_in.names.lookup ("tree" : Str) = some NameKind.«local» := by decide +kernel
theorem ok_channels_in {P : Program} {w : World} {K : PySem.W.Frag} {mg : Str → Option Value} {base : Heap} (B : Bx K mg) : ∀ n : Nat, OkFn P w K mg base "channels_in" ["splitter", "tree", "row"] (5 + n) (F_channels_in n)
  | 0 => okfn0 B.at_channels_in
  | n + 1 => by
    have ih := ok_channels_in (P := P) (w := w) (base := base) B n
    exact okfn N_channels_in (n := 5) rfl (g_channels_in (F_channels_in n)) B.at_channels_in hs_channels_in S_channels_in fun f cdv A outer s H E hr => jss_cons (js_if (jt_isN (je_var (i := 1) (hN := n_channels_in_1) (hv := Or.inl k_channels_in_tree) (hd := d_tree) (hcd := dc_tree))) (jss_one (js_ret (je_list (jl_disp (jd_cons (je_var (i := 2) (hN := n_channels_in_2) (hv := Or.inl k_channels_in_row) (hd := d_row) (hcd := dc_row)) (jd_nil)))))) (jss_nil))
      (jss_cons (js_asg (je_call (ok_split_by B) (hr.mono (by (try simp only [Nat.add_eq]); omega)) (ja_cons (je_var (i := 0) (hN := n_channels_in_0) (hv := Or.inl k_channels_in_splitter) (hd := d_splitter) (hcd := dc_splitter)) (ja_cons (je_var (i := 2) (hN := n_channels_in_2) (hv := Or.inl k_channels_in_row) (hd := d_row) (hcd := dc_row)) (ja_nil))) (hg := k_channels_in_split_by) (hdb := d_split_by)) (jg_tup (jgs_cons (jg_name (i := 3) S_channels_in.nd (hi := n_channels_in_3) (hx := Or.inl k_channels_in_low) (hf := Or.inl rfl)) (jgs_cons (jg_name (i := 4) S_channels_in.nd (hi := n_channels_in_4) (hx := Or.inl k_channels_in_high) (hf := Or.inl rfl)) (jgs_nil)))))
      (jss_one (js_ret (je_op op_addL r2_add (je_call ih (hr.mono (by (try simp only [Nat.add_eq]); omega)) (ja_cons (je_var (i := 0) (hN := n_channels_in_0) (hv := Or.inl k_channels_in_splitter) (hd := d_splitter) (hcd := dc_splitter)) (ja_cons (je_ix ix_seq r2_idx (je_var (i := 1) (hN := n_channels_in_1) (hv := Or.inl k_channels_in_tree) (hd := d_tree) (hcd := dc_tree)) (je_int)) (ja_cons (je_var (i := 3) (hN := n_channels_in_3) (hv := Or.inl k_channels_in_low) (hd := d_low) (hcd := dc_low)) (ja_nil)))) (hg := k_channels_in_channels_in) (hdb := d_channels_in)) (je_call ih (hr.mono (by (try simp only [Nat.add_eq]); omega)) (ja_cons (je_var (i := 0) (hN := n_channels_in_0) (hv := Or.inl k_channels_in_splitter) (hd := d_splitter) (hcd := dc_splitter)) (ja_cons (je_ix ix_seq r2_idx (je_var (i := 1) (hN := n_channels_in_1) (hv := Or.inl k_channels_in_tree) (hd := d_tree) (hcd := dc_tree)) (je_int)) (ja_cons (je_var (i := 4) (hN := n_channels_in_4) (hv := Or.inl k_channels_in_high) (hd := d_high) (hcd := dc_high)) (ja_nil)))) (hg := k_channels_in_channels_in) (hdb := d_channels_in))))))
end Bs
namespace Bs
open PySem PySem.Spec PyProof.Rows L2
def sc_numbers_in : Scope := { kind := .function, names := [("row", .«local»), ("len", .globalImplicit)], isGenerator := false, isCoroutine := false, more := [("fast", .str "row"), ("fast", .str "each")] }
def N_numbers_in : List Str := ["row", "each"]
theorem hs_numbers_in : defScope S40 = sc_numbers_in := by rfl
theorem S_numbers_in : FnScope N_numbers_in ["row"] sc_numbers_in := ⟨rfl, rfl, rfl, by decide +kernel, rfl, by decide +kernel, by decide +kernel⟩
theorem n_numbers_in_0 : N_numbers_in[0]? = some ("row" : Str) := rfl
theorem n_numbers_in_1 : N_numbers_in[1]? = some ("each" : Str) := rfl
theorem k_numbers_in_len : sc_numbers_in.names.lookup ("len" : Str) = some NameKind.globalImplicit := by decide +kernel
theorem k_numbers_in_row : sc_numbers_in.names.lookup ("row" : Str) = some NameKind.«local» := by decide +kernel
abbrev cs_numbers_in_0 : Scope := { kind := .function, names := [(".0", .«local»), ("each", .«local»)], isGenerator := false, isCoroutine := false, more := [] }
theorem bo_numbers_in_0 : BlkOk N_numbers_in sc_numbers_in cs_numbers_in_0 [("each", 1)] := blkOk_by (by decide +kernel)
theorem kc_numbers_in_0_each : (relS cs_numbers_in_0 sc_numbers_in).names.lookup ("each" : Str) = some NameKind.«local» := by decide +kernel
theorem ok_numbers_in {P : Program} {w : World} {K : PySem.W.Frag} {mg : Str → Option Value} {base : Heap} (B : Bx K mg) : OkFn P w K mg base "numbers_in" ["row"] 1 F_numbers_in :=
  okfn N_numbers_in (n := 2) rfl g_numbers_in B.at_numbers_in hs_numbers_in S_numbers_in fun f cdv A outer s H E hr => jss_one (js_ret (je_b1 call_len_seq c1_len (je_list (jl_lc (j := 1) (x := "each") S_numbers_in.nd (jx_tup (je_ix ix_seq r2_idx (je_var (i := 0) (hN := n_numbers_in_0) (hv := Or.inl k_numbers_in_row) (hd := d_row) (hcd := dc_row)) (je_int))) bo_numbers_in_0 (fun _ _ _ _ _ => ji_one (jt_cmp (op_neP hr.units) r2_ne (je_ix ix_seq r2_idx (je_var (i := 1) (hN := n_numbers_in_1) (hv := Or.inl kc_numbers_in_0_each) (hd := d_each) (hcd := dc_each)) (je_int)) (je_int) (nomark _))) (fun _ _ _ _ _ => je_var (i := 1) (hN := n_numbers_in_1) (hv := Or.inl kc_numbers_in_0_each) (hd := d_each) (hcd := dc_each)) (hg := fun _ _ _ _ _ => pg_name S_numbers_in.nd n_numbers_in_1 (Or.inl kc_numbers_in_0_each) (Or.inr kc_numbers_in_0_each)))) B.b_len (hg := k_numbers_in_len) (hv := bb_len) (hn := nn_len) (hdb := d_len)))
def sc_best_in : Scope := { kind := .function, names := [("splitter", .cell), ("row", .«local»), ("many", .cell), ("here", .«local»), ("parts", .«local»), ("count", .«local»), ("numbers_in", .globalImplicit), ("split_by", .globalImplicit)], isGenerator := false, isCoroutine := false, more := [("fast", .str "splitter"), ("fast", .str "row"), ("fast", .str "many"), ("fast", .str "here"), ("fast", .str "each"), ("fast", .str "parts"), ("fast", .str "count")] }
def N_best_in : List Str := ["splitter", "row", "many", "here", "parts", "count", "each"]
theorem hs_best_in : defScope S41 = sc_best_in := by rfl
theorem S_best_in : FnScope N_best_in ["splitter", "row", "many"] sc_best_in := ⟨rfl, rfl, rfl, by decide +kernel, rfl, by decide +kernel, by decide +kernel⟩
theorem n_best_in_0 : N_best_in[0]? = some ("splitter" : Str) := rfl
theorem n_best_in_1 : N_best_in[1]? = some ("row" : Str) := rfl
theorem n_best_in_2 : N_best_in[2]? = some ("many" : Str) := rfl
theorem n_best_in_3 : N_best_in[3]? = some ("here" : Str) := rfl
theorem n_best_in_4 : N_best_in[4]? = some ("parts" : Str) := rfl
theorem n_best_in_5 : N_best_in[5]? = some ("count" : Str) := rfl
theorem n_best_in_6 : N_best_in[6]? = some ("each" : Str) := rfl
theorem k_best_in_count : sc_best_in.names.lookup ("count" : Str) = some NameKind.«local» := by decide +kernel
theorem k_best_in_here : sc_best_in.names.lookup ("here" : Str) = some NameKind.«local» := by decide +kernel
theorem k_best_in_many : sc_best_in.names.lookup ("many" : Str) = some NameKind.cell := by decide +kernel
theorem k_best_in_numbers_in : sc_best_in.names.lookup ("numbers_in" : Str) = some NameKind.globalImplicit := by decide +kernel
theorem k_best_in_parts : sc_best_in.names.lookup ("parts" : Str) = some NameKind.«local» := by decide +kernel
theorem k_best_in_row : sc_best_in.names.lookup ("row" : Str) = some NameKind.«local» := by decide +kernel
theorem k_best_in_split_by : sc_best_in.names.lookup ("split_by" : Str) = some NameKind.globalImplicit := by decide +kernel
theorem k_best_in_splitter : sc_best_in.names.lookup ("splitter" : Str) = some NameKind.cell := by decide +kernel
abbrev cs_best_in_0 : Scope := { kind := .function, names := [(".0", .«local»), ("each", .«local»), ("best_in", .globalImplicit), ("many", .free), ("splitter", .free)], isGenerator := false, isCoroutine := false, more := [] }
theorem bo_best_in_0 : BlkOk N_best_in sc_best_in cs_best_in_0 [("each", 6)] := blkOk_by (by decide +kernel)
theorem kc_best_in_0_best_in : (relS cs_best_in_0 sc_best_in).names.lookup ("best_in" : Str) = some NameKind.globalImplicit := by decide +kernel
theorem kc_best_in_0_each : (relS cs_best_in_0 sc_best_in).names.lookup ("each" : Str) = some NameKind.«local» := by decide +kernel
theorem kc_best_in_0_many : (relS cs_best_in_0 sc_best_in).names.lookup ("many" : Str) = some NameKind.cell := by decide +kernel
theorem kc_best_in_0_splitter : (relS cs_best_in_0 sc_best_in).names.lookup ("splitter" : Str) = some NameKind.cell := by decide +kernel
theorem ok_best_in {P : Program} {w : World} {K : PySem.W.Frag} {mg : Str → Option Value} {base : Heap} (B : Bx K mg) : ∀ n : Nat, OkFn P w K mg base "best_in" ["splitter", "row", "many"] (5 + n) (F_best_in n)
  | 0 => okfn0 B.at_best_in
  | n + 1 => by
    have ih := ok_best_in (P := P) (w := w) (base := base) B n
    exact okfn N_best_in (n := 7) rfl (g_best_in (F_best_in n)) B.at_best_in hs_best_in S_best_in fun f cdv A outer s H E hr => jss_cons (js_set (i := 3) S_best_in.nd (je_call (ok_numbers_in B) (hr.mono (by (try simp only [Nat.add_eq]); omega)) (ja_cons (je_var (i := 1) (hN := n_best_in_1) (hv := Or.inl k_best_in_row) (hd := d_row) (hcd := dc_row)) (ja_nil)) (hg := k_best_in_numbers_in) (hdb := d_numbers_in)) (hi := n_best_in_3) (hx := Or.inl k_best_in_here) (hf := Or.inl rfl))
      (jss_cons (js_if (jt_cmp (op_eqP hr.units) r2_eq (je_var (i := 2) (hN := n_best_in_2) (hv := Or.inr (Or.inl k_best_in_many)) (hd := d_many) (hcd := dc_many)) (je_int) (nomark _)) (jss_one (js_ret (je_tup (jd_cons (je_var (i := 3) (hN := n_best_in_3) (hv := Or.inl k_best_in_here) (hd := d_here) (hcd := dc_here)) (jd_cons (je_non) (jd_nil)))))) (jss_nil))
      (jss_cons (js_setLc (i := 4) (j := 6) (x := "each") S_best_in.nd (jx_tup (je_call (ok_split_by B) (hr.mono (by (try simp only [Nat.add_eq]); omega)) (ja_cons (je_var (i := 0) (hN := n_best_in_0) (hv := Or.inr (Or.inl k_best_in_splitter)) (hd := d_splitter) (hcd := dc_splitter)) (ja_cons (je_var (i := 1) (hN := n_best_in_1) (hv := Or.inl k_best_in_row) (hd := d_row) (hcd := dc_row)) (ja_nil))) (hg := k_best_in_split_by) (hdb := d_split_by))) bo_best_in_0 (fun _ _ _ _ _ => ji_nil) (fun _ _ _ _ _ => je_call ih (hr.mono (by (try simp only [Nat.add_eq]); omega)) (ja_cons (je_var (i := 0) (hN := n_best_in_0) (hv := Or.inr (Or.inl kc_best_in_0_splitter)) (hd := d_splitter) (hcd := dc_splitter)) (ja_cons (je_var (i := 6) (hN := n_best_in_6) (hv := Or.inl kc_best_in_0_each) (hd := d_each) (hcd := dc_each)) (ja_cons (je_op op_sub r2_sub (je_var (i := 2) (hN := n_best_in_2) (hv := Or.inr (Or.inl kc_best_in_0_many)) (hd := d_many) (hcd := dc_many)) (je_int)) (ja_nil)))) (hg := kc_best_in_0_best_in) (hdb := d_best_in)) (hz := n_best_in_4) (hzl := k_best_in_parts) (hsw := sw_true rfl k_best_in_parts rfl (by decide +kernel)) (hg := fun _ _ _ _ _ => pg_name S_best_in.nd n_best_in_6 (Or.inl kc_best_in_0_each) (Or.inr kc_best_in_0_each)))
      (jss_cons (js_set (i := 5) S_best_in.nd (je_op op_addL r2_add (je_ix ix_seq r2_idx (je_ix ix_seq r2_idx (je_var (i := 4) (hN := n_best_in_4) (hv := Or.inl k_best_in_parts) (hd := d_parts) (hcd := dc_parts)) (je_int)) (je_int)) (je_ix ix_seq r2_idx (je_ix ix_seq r2_idx (je_var (i := 4) (hN := n_best_in_4) (hv := Or.inl k_best_in_parts) (hd := d_parts) (hcd := dc_parts)) (je_int)) (je_int))) (hi := n_best_in_5) (hx := Or.inl k_best_in_count) (hf := Or.inl rfl))
      (jss_one (js_ret (je_ite (jt_cmp op_lt r2_lt (je_var (i := 5) (hN := n_best_in_5) (hv := Or.inl k_best_in_count) (hd := d_count) (hcd := dc_count)) (je_var (i := 3) (hN := n_best_in_3) (hv := Or.inl k_best_in_here) (hd := d_here) (hcd := dc_here)) (nomark _)) (je_tup (jd_cons (je_var (i := 5) (hN := n_best_in_5) (hv := Or.inl k_best_in_count) (hd := d_count) (hcd := dc_count)) (jd_cons (je_tup (jd_cons (je_ix ix_seq r2_idx (je_ix ix_seq r2_idx (je_var (i := 4) (hN := n_best_in_4) (hv := Or.inl k_best_in_parts) (hd := d_parts) (hcd := dc_parts)) (je_int)) (je_int)) (jd_cons (je_ix ix_seq r2_idx (je_ix ix_seq r2_idx (je_var (i := 4) (hN := n_best_in_4) (hv := Or.inl k_best_in_parts) (hd := d_parts) (hcd := dc_parts)) (je_int)) (je_int)) (jd_nil)))) (jd_nil)))) (je_tup (jd_cons (je_var (i := 3) (hN := n_best_in_3) (hv := Or.inl k_best_in_here) (hd := d_here) (hcd := dc_here)) (jd_cons (je_non) (jd_nil))))))))))
def sc_tree_channels : Scope := { kind := .function, names := [("splitter", .«local»), ("tree", .«local»), ("row", .«local»), ("check_splitter", .globalImplicit), ("check_tree", .globalImplicit), ("check_row", .globalImplicit), ("tuple", .globalImplicit), ("channels_in", .globalImplicit)], isGenerator := false, isCoroutine := false, more := [] }
def N_tree_channels : List Str := ["splitter", "tree", "row"]
theorem hs_tree_channels : defScope S42 = sc_tree_channels := by rfl
theorem S_tree_channels : FnScope N_tree_channels ["splitter", "tree", "row"] sc_tree_channels := ⟨rfl, rfl, rfl, by decide +kernel, rfl, by decide +kernel, by decide +kernel⟩
theorem n_tree_channels_0 : N_tree_channels[0]? = some ("splitter" : Str) := rfl
theorem n_tree_channels_1 : N_tree_channels[1]? = some ("tree" : Str) := rfl
theorem n_tree_channels_2 : N_tree_channels[2]? = some ("row" : Str) := rfl
theorem k_tree_channels_channels_in : sc_tree_channels.names.lookup ("channels_in" : Str) = some NameKind.globalImplicit := by decide +kernel
theorem k_tree_channels_check_row : sc_tree_channels.names.lookup ("check_row" : Str) = some NameKind.globalImplicit := by decide +kernel
theorem k_tree_channels_check_splitter : sc_tree_channels.names.lookup ("check_splitter" : Str) = some NameKind.globalImplicit := by decide +kernel
theorem k_tree_channels_check_tree : sc_tree_channels.names.lookup ("check_tree" : Str) = some NameKind.globalImplicit := by decide +kernel
theorem k_tree_channels_row : sc_tree_channels.names.lookup ("row" : Str) = some NameKind.«local» := by decide +kernel
theorem k_tree_channels_splitter : sc_tree_channels.names.lookup ("splitter" : Str) = some NameKind.«local» := by decide +kernel
theorem k_tree_channels_tree : sc_tree_channels.names.lookup ("tree" : Str) = some NameKind.«local» := by decide +kernel
theorem k_tree_channels_tuple : sc_tree_channels.names.lookup ("tuple" : Str) = some NameKind.globalImplicit := by decide +kernel
theorem ok_tree_channels {P : Program} {w : World} {K : PySem.W.Frag} {mg : Str → Option Value} {base : Heap} (B : Bx K mg) : OkFn P w K mg base "tree_channels" ["splitter", "tree", "row"] 12 F_tree_channels :=
  okfn N_tree_channels (n := 3) rfl g_tree_channels B.at_tree_channels hs_tree_channels S_tree_channels fun f cdv A outer s H E hr => jss_cons (js_drop (je_call (ok_check_splitter B) (hr.mono (by decide)) (ja_cons (je_var (i := 0) (hN := n_tree_channels_0) (hv := Or.inl k_tree_channels_splitter) (hd := d_splitter) (hcd := dc_splitter)) (ja_nil)) (hg := k_tree_channels_check_splitter) (hdb := d_check_splitter)))
      (jss_cons (js_drop (je_call (ok_check_tree B) (hr.mono (by decide)) (ja_cons (je_var (i := 1) (hN := n_tree_channels_1) (hv := Or.inl k_tree_channels_tree) (hd := d_tree) (hcd := dc_tree)) (ja_nil)) (hg := k_tree_channels_check_tree) (hdb := d_check_tree)))
      (jss_cons (js_drop (je_call (ok_check_row B) (hr.mono (by decide)) (ja_cons (je_var (i := 2) (hN := n_tree_channels_2) (hv := Or.inl k_tree_channels_row) (hd := d_row) (hcd := dc_row)) (ja_nil)) (hg := k_tree_channels_check_row) (hdb := d_check_row)))
      (jss_one (js_ret (je_b1f call_tuple_of c1_tup (je_call (ok_channels_in B 6) (hr.mono (by decide)) (ja_cons (je_var (i := 0) (hN := n_tree_channels_0) (hv := Or.inl k_tree_channels_splitter) (hd := d_splitter) (hcd := dc_splitter)) (ja_cons (je_var (i := 1) (hN := n_tree_channels_1) (hv := Or.inl k_tree_channels_tree) (hd := d_tree) (hcd := dc_tree)) (ja_cons (je_var (i := 2) (hN := n_tree_channels_2) (hv := Or.inl k_tree_channels_row) (hd := d_row) (hcd := dc_row)) (ja_nil)))) (hg := k_tree_channels_channels_in) (hdb := d_channels_in)) B.b_tuple (hg := k_tree_channels_tuple) (hv := bb_tuple) (hn := nn_tuple) (hdb := d_tuple))))))
def sc_fewest_tree : Scope := { kind := .function, names := [("splitter", .«local»), ("row", .«local»), ("many", .«local»), ("check_splitter", .globalImplicit), ("check_row", .globalImplicit), ("check_depth", .globalImplicit), ("best_in", .globalImplicit)], isGenerator := false, isCoroutine := false, more := [] }
def N_fewest_tree : List Str := ["splitter", "row", "many"]
theorem hs_fewest_tree : defScope S43 = sc_fewest_tree := by rfl
theorem S_fewest_tree : FnScope N_fewest_tree ["splitter", "row", "many"] sc_fewest_tree := ⟨rfl, rfl, rfl, by decide +kernel, rfl, by decide +kernel, by decide +kernel⟩
theorem n_fewest_tree_0 : N_fewest_tree[0]? = some ("splitter" : Str) := rfl
theorem n_fewest_tree_1 : N_fewest_tree[1]? = some ("row" : Str) := rfl
theorem n_fewest_tree_2 : N_fewest_tree[2]? = some ("many" : Str) := rfl
theorem k_fewest_tree_best_in : sc_fewest_tree.names.lookup ("best_in" : Str) = some NameKind.globalImplicit := by decide +kernel
theorem k_fewest_tree_check_depth : sc_fewest_tree.names.lookup ("check_depth" : Str) = some NameKind.globalImplicit := by decide +kernel
theorem k_fewest_tree_check_row : sc_fewest_tree.names.lookup ("check_row" : Str) = some NameKind.globalImplicit := by decide +kernel
theorem k_fewest_tree_check_splitter : sc_fewest_tree.names.lookup ("check_splitter" : Str) = some NameKind.globalImplicit := by decide +kernel
theorem k_fewest_tree_many : sc_fewest_tree.names.lookup ("many" : Str) = some NameKind.«local» := by decide +kernel
theorem k_fewest_tree_row : sc_fewest_tree.names.lookup ("row" : Str) = some NameKind.«local» := by decide +kernel
theorem k_fewest_tree_splitter : sc_fewest_tree.names.lookup ("splitter" : Str) = some NameKind.«local» := by decide +kernel
theorem ok_fewest_tree {P : Program} {w : World} {K : PySem.W.Frag} {mg : Str → Option Value} {base : Heap} (B : Bx K mg) : OkFn P w K mg base "fewest_tree" ["splitter", "row", "many"] 12 F_fewest_tree :=
  okfn N_fewest_tree (n := 3) rfl g_fewest_tree B.at_fewest_tree hs_fewest_tree S_fewest_tree fun f cdv A outer s H E hr => jss_cons (js_drop (je_call (ok_check_splitter B) (hr.mono (by decide)) (ja_cons (je_var (i := 0) (hN := n_fewest_tree_0) (hv := Or.inl k_fewest_tree_splitter) (hd := d_splitter) (hcd := dc_splitter)) (ja_nil)) (hg := k_fewest_tree_check_splitter) (hdb := d_check_splitter)))
      (jss_cons (js_drop (je_call (ok_check_row B) (hr.mono (by decide)) (ja_cons (je_var (i := 1) (hN := n_fewest_tree_1) (hv := Or.inl k_fewest_tree_row) (hd := d_row) (hcd := dc_row)) (ja_nil)) (hg := k_fewest_tree_check_row) (hdb := d_check_row)))
      (jss_cons (js_drop (je_call (ok_check_depth B) (hr.mono (by decide)) (ja_cons (je_var (i := 2) (hN := n_fewest_tree_2) (hv := Or.inl k_fewest_tree_many) (hd := d_many) (hcd := dc_many)) (ja_nil)) (hg := k_fewest_tree_check_depth) (hdb := d_check_depth)))
      (jss_one (js_ret (je_ix ix_seq r2_idx (je_call (ok_best_in B 6) (hr.mono (by decide)) (ja_cons (je_var (i := 0) (hN := n_fewest_tree_0) (hv := Or.inl k_fewest_tree_splitter) (hd := d_splitter) (hcd := dc_splitter)) (ja_cons (je_var (i := 1) (hN := n_fewest_tree_1) (hv := Or.inl k_fewest_tree_row) (hd := d_row) (hcd := dc_row)) (ja_cons (je_var (i := 2) (hN := n_fewest_tree_2) (hv := Or.inl k_fewest_tree_many) (hd := d_many) (hcd := dc_many)) (ja_nil)))) (hg := k_fewest_tree_best_in) (hdb := d_best_in)) (je_int))))))
def sc_fewest_numbers : Scope := { kind := .function, names := [("splitter", .«local»), ("row", .«local»), ("many", .«local»), ("check_splitter", .globalImplicit), ("check_row", .globalImplicit), ("check_depth", .globalImplicit), ("best_in", .globalImplicit)], isGenerator := false, isCoroutine := false, more := [] }
def N_fewest_numbers : List Str := ["splitter", "row", "many"]
theorem hs_fewest_numbers : defScope S44 = sc_fewest_numbers := by rfl
theorem S_fewest_numbers : FnScope N_fewest_numbers ["splitter", "row", "many"] sc_fewest_numbers := ⟨rfl, rfl, rfl, by decide +kernel, rfl, by decide +kernel, by decide +kernel⟩
theorem n_fewest_numbers_0 : N_fewest_numbers[0]? = some ("splitter" : Str) := rfl
theorem n_fewest_numbers_1 : N_fewest_numbers[1]? = some ("row" : Str) := rfl
theorem n_fewest_numbers_2 : N_fewest_numbers[2]? = some ("many" : Str) := rfl
theorem k_fewest_numbers_best_in : sc_fewest_numbers.names.lookup ("best_in" : Str) = some NameKind.globalImplicit := by decide +kernel
theorem k_fewest_numbers_check_depth : sc_fewest_numbers.names.lookup ("check_depth" : Str) = some NameKind.globalImplicit := by decide +kernel
theorem k_fewest_numbers_check_row : sc_fewest_numbers.names.lookup ("check_row" : Str) = some NameKind.globalImplicit := by decide +kernel
theorem k_fewest_numbers_check_splitter : sc_fewest_numbers.names.lookup ("check_splitter" : Str) = some NameKind.globalImplicit := by decide +kernel
theorem k_fewest_numbers_many : sc_fewest_numbers.names.lookup ("many" : Str) = some NameKind.«local» := by decide +kernel
theorem k_fewest_numbers_row : sc_fewest_numbers.names.lookup ("row" : Str) = some NameKind.«local» := by decide +kernel
theorem k_fewest_numbers_splitter : sc_fewest_numbers.names.lookup ("splitter" : Str) = some NameKind.«local» := by decide +kernel
theorem ok_fewest_numbers {P : Program} {w : World} {K : PySem.W.Frag} {mg : Str → Option Value} {base : Heap} (B : Bx K mg) : OkFn P w K mg base "fewest_numbers" ["splitter", "row", "many"] 12 F_fewest_numbers :=
  okfn N_fewest_numbers (n := 3) rfl g_fewest_numbers B.at_fewest_numbers hs_fewest_numbers S_fewest_numbers fun f cdv A outer s H E hr => jss_cons (js_drop (je_call (ok_check_splitter B) (hr.mono (by decide)) (ja_cons (je_var (i := 0) (hN := n_fewest_numbers_0) (hv := Or.inl k_fewest_numbers_splitter) (hd := d_splitter) (hcd := dc_splitter)) (ja_nil)) (hg := k_fewest_numbers_check_splitter) (hdb := d_check_splitter)))
      (jss_cons (js_drop (je_call (ok_check_row B) (hr.mono (by decide)) (ja_cons (je_var (i := 1) (hN := n_fewest_numbers_1) (hv := Or.inl k_fewest_numbers_row) (hd := d_row) (hcd := dc_row)) (ja_nil)) (hg := k_fewest_numbers_check_row) (hdb := d_check_row)))
      (jss_cons (js_drop (je_call (ok_check_depth B) (hr.mono (by decide)) (ja_cons (je_var (i := 2) (hN := n_fewest_numbers_2) (hv := Or.inl k_fewest_numbers_many) (hd := d_many) (hcd := dc_many)) (ja_nil)) (hg := k_fewest_numbers_check_depth) (hdb := d_check_depth)))
      (jss_one (js_ret (je_ix ix_seq r2_idx (je_call (ok_best_in B 6) (hr.mono (by decide)) (ja_cons (je_var (i := 0) (hN := n_fewest_numbers_0) (hv := Or.inl k_fewest_numbers_splitter) (hd := d_splitter) (hcd := dc_splitter)) (ja_cons (je_var (i := 1) (hN := n_fewest_numbers_1) (hv := Or.inl k_fewest_numbers_row) (hd := d_row) (hcd := dc_row)) (ja_cons (je_var (i := 2) (hN := n_fewest_numbers_2) (hv := Or.inl k_fewest_numbers_many) (hd := d_many) (hcd := dc_many)) (ja_nil)))) (hg := k_fewest_numbers_best_in) (hdb := d_best_in)) (je_int))))))
def sc_law_spring : Scope := { kind := .function, names := [("_law_script", .«local»), ("_law_turn", .«local»), ("_law_cell", .«local»), ("_law_mix", .«local»), ("_law_each", .«local»), ("len", .globalImplicit), ("int", .globalImplicit), ("sum", .globalImplicit), ("abs", .globalImplicit)], isGenerator := false, isCoroutine := false, more := [] }
def N_law_spring : List Str := ["_law_script", "_law_turn", "_law_cell", "_law_mix", "_law_each"]
theorem hs_law_spring : defScope S46 = sc_law_spring := by rfl
theorem S_law_spring : FnScope N_law_spring ["_law_script", "_law_turn"] sc_law_spring := ⟨rfl, rfl, rfl, by decide +kernel, rfl, by decide +kernel, by decide +kernel⟩
theorem n_law_spring_0 : N_law_spring[0]? = some ("_law_script" : Str) := rfl
theorem n_law_spring_1 : N_law_spring[1]? = some ("_law_turn" : Str) := rfl
theorem n_law_spring_2 : N_law_spring[2]? = some ("_law_cell" : Str) := rfl
theorem n_law_spring_3 : N_law_spring[3]? = some ("_law_mix" : Str) := rfl
theorem n_law_spring_4 : N_law_spring[4]? = some ("_law_each" : Str) := rfl
theorem k_law_spring_law_cell : sc_law_spring.names.lookup ("_law_cell" : Str) = some NameKind.«local» := by decide +kernel
theorem k_law_spring_law_each : sc_law_spring.names.lookup ("_law_each" : Str) = some NameKind.«local» := by decide +kernel
theorem k_law_spring_law_mix : sc_law_spring.names.lookup ("_law_mix" : Str) = some NameKind.«local» := by decide +kernel
theorem k_law_spring_law_script : sc_law_spring.names.lookup ("_law_script" : Str) = some NameKind.«local» := by decide +kernel
theorem k_law_spring_law_turn : sc_law_spring.names.lookup ("_law_turn" : Str) = some NameKind.«local» := by decide +kernel
theorem k_law_spring_abs : sc_law_spring.names.lookup ("abs" : Str) = some NameKind.globalImplicit := by decide +kernel
theorem k_law_spring_int : sc_law_spring.names.lookup ("int" : Str) = some NameKind.globalImplicit := by decide +kernel
theorem k_law_spring_len : sc_law_spring.names.lookup ("len" : Str) = some NameKind.globalImplicit := by decide +kernel
theorem k_law_spring_sum : sc_law_spring.names.lookup ("sum" : Str) = some NameKind.globalImplicit := by decide +kernel
theorem ok_law_spring {P : Program} {w : World} {K : PySem.W.Frag} {mg : Str → Option Value} {base : Heap} (B : Bx K mg) : OkL P w K mg base "_law_spring" ["_law_script", "_law_turn"] 1 FL_law_spring :=
  okL N_law_spring (n := 5) rfl g_law_spring B.at_law_spring hs_law_spring S_law_spring fun f cdv A outer s H E hr => jss_cons (js_set (i := 2) S_law_spring.nd (je_ite (jt_cmp op_lt r2_lt (je_var (i := 1) (hN := n_law_spring_1) (hv := Or.inl k_law_spring_law_turn) (hd := d_law_turn) (hcd := dc_law_turn)) (je_b1 call_len_seq c1_len (je_var (i := 0) (hN := n_law_spring_0) (hv := Or.inl k_law_spring_law_script) (hd := d_law_script) (hcd := dc_law_script)) B.b_len (hg := k_law_spring_len) (hv := bb_len) (hn := nn_len) (hdb := d_len)) (nomark _)) (je_b1f call_int1 c1_int (je_ix ix_seq r2_idx (je_var (i := 0) (hN := n_law_spring_0) (hv := Or.inl k_law_spring_law_script) (hd := d_law_script) (hcd := dc_law_script)) (je_var (i := 1) (hN := n_law_spring_1) (hv := Or.inl k_law_spring_law_turn) (hd := d_law_turn) (hcd := dc_law_turn))) B.b_int (hg := k_law_spring_int) (hv := bb_int) (hn := nn_int) (hdb := d_int)) (je_op op_addL r2_add (je_op op_addL r2_add (je_op op_mulW r2_mul (je_int) (je_var (i := 1) (hN := n_law_spring_1) (hv := Or.inl k_law_spring_law_turn) (hd := d_law_turn) (hcd := dc_law_turn))) (je_int)) (je_op op_mod r2_mod (je_b1f call_int1 c1_int (je_b1 (cr_sum rfl) c1_sum (je_list (jl_sl (je_var (i := 0) (hN := n_law_spring_0) (hv := Or.inl k_law_spring_law_script) (hd := d_law_script) (hcd := dc_law_script)) (jo_none) (jo_some (je_int)))) B.b_sum (hg := k_law_spring_sum) (hv := bb_sum) (hn := nn_sum) (hdb := d_sum)) B.b_int (hg := k_law_spring_int) (hv := bb_int) (hn := nn_int) (hdb := d_int)) (je_int)))) (hi := n_law_spring_2) (hx := Or.inl k_law_spring_law_cell) (hf := Or.inl rfl))
      (jss_cons (js_set (i := 3) S_law_spring.nd (je_op op_addL r2_add (je_int) (je_op op_mulW r2_mul (je_int) (je_var (i := 1) (hN := n_law_spring_1) (hv := Or.inl k_law_spring_law_turn) (hd := d_law_turn) (hcd := dc_law_turn)))) (hi := n_law_spring_3) (hx := Or.inl k_law_spring_law_mix) (hf := Or.inl rfl))
      (jss_cons (js_for PassesOwn.never (jx_list (je_list (jl_cat (jl_sl (je_var (i := 0) (hN := n_law_spring_0) (hv := Or.inl k_law_spring_law_script) (hd := d_law_script) (hcd := dc_law_script)) (jo_none) (jo_some (je_int))) (jl_disp (jd_cons (je_var (i := 2) (hN := n_law_spring_2) (hv := Or.inl k_law_spring_law_cell) (hd := d_law_cell) (hcd := dc_law_cell)) (jd_nil)))))) (jg_name (i := 4) S_law_spring.nd (hi := n_law_spring_4) (hx := Or.inl k_law_spring_law_each) (hf := Or.inl rfl)) (jss_one (js_set (i := 3) S_law_spring.nd (je_op op_mod r2_mod (je_b1f call_int1 c1_int (je_op op_addL r2_add (je_op op_addL r2_add (je_op op_mulW r2_mul (je_var (i := 3) (hN := n_law_spring_3) (hv := Or.inl k_law_spring_law_mix) (hd := d_law_mix) (hcd := dc_law_mix)) (je_int)) (je_op op_mod r2_mod (je_b1f call_int1 c1_int (je_var (i := 4) (hN := n_law_spring_4) (hv := Or.inl k_law_spring_law_each) (hd := d_law_each) (hcd := dc_law_each)) B.b_int (hg := k_law_spring_int) (hv := bb_int) (hn := nn_int) (hdb := d_int)) (je_int))) (je_int)) B.b_int (hg := k_law_spring_int) (hv := bb_int) (hn := nn_int) (hdb := d_int)) (je_int)) (hi := n_law_spring_3) (hx := Or.inl k_law_spring_law_mix) (hf := Or.inl rfl))))
      (jss_one (js_retL (jl_disp (jd_cons (je_ite (jw_t (jw_or (jt_cmp op_lt r2_lt (je_var (i := 2) (hN := n_law_spring_2) (hv := Or.inl k_law_spring_law_cell) (hd := d_law_cell) (hcd := dc_law_cell)) (je_int) (nomark _)) (jw_or1 (jt_cmp op_ge r2_ge (je_var (i := 2) (hN := n_law_spring_2) (hv := Or.inl k_law_spring_law_cell) (hd := d_law_cell) (hcd := dc_law_cell)) (je_op op_pow r2_pow (je_int) (je_int)) (nomark _))))) (je_b1 call_abs c1_abs (je_var (i := 2) (hN := n_law_spring_2) (hv := Or.inl k_law_spring_law_cell) (hd := d_law_cell) (hcd := dc_law_cell)) B.b_abs (hg := k_law_spring_abs) (hv := bb_abs) (hn := nn_abs) (hdb := d_abs)) (je_int)) (jd_cons (je_var (i := 3) (hN := n_law_spring_3) (hv := Or.inl k_law_spring_law_mix) (hd := d_law_mix) (hcd := dc_law_mix)) (jd_cons (je_int) (jd_nil)))))))))
def sc_law_sip : Scope := { kind := .function, names := [("_law_spring_here", .«local»), ("_law_top", .«local»), ("_law_figure", .«local»), ("_law_by", .«local»), ("divmod", .globalImplicit), ("int", .globalImplicit)], isGenerator := false, isCoroutine := false, more := [] }
def N_law_sip : List Str := ["_law_spring_here", "_law_top", "_law_figure", "_law_by"]
theorem hs_law_sip : defScope S47 = sc_law_sip := by rfl
theorem S_law_sip : FnScope N_law_sip ["_law_spring_here", "_law_top"] sc_law_sip := ⟨rfl, rfl, rfl, by decide +kernel, rfl, by decide +kernel, by decide +kernel⟩
theorem n_law_sip_0 : N_law_sip[0]? = some ("_law_spring_here" : Str) := rfl
theorem n_law_sip_1 : N_law_sip[1]? = some ("_law_top" : Str) := rfl
theorem n_law_sip_2 : N_law_sip[2]? = some ("_law_figure" : Str) := rfl
theorem n_law_sip_3 : N_law_sip[3]? = some ("_law_by" : Str) := rfl
theorem k_law_sip_law_by : sc_law_sip.names.lookup ("_law_by" : Str) = some NameKind.«local» := by decide +kernel
theorem k_law_sip_law_figure : sc_law_sip.names.lookup ("_law_figure" : Str) = some NameKind.«local» := by decide +kernel
theorem k_law_sip_law_spring_here : sc_law_sip.names.lookup ("_law_spring_here" : Str) = some NameKind.«local» := by decide +kernel
theorem k_law_sip_law_top : sc_law_sip.names.lookup ("_law_top" : Str) = some NameKind.«local» := by decide +kernel
theorem k_law_sip_divmod : sc_law_sip.names.lookup ("divmod" : Str) = some NameKind.globalImplicit := by decide +kernel
theorem k_law_sip_int : sc_law_sip.names.lookup ("int" : Str) = some NameKind.globalImplicit := by decide +kernel
theorem ok_law_sip {P : Program} {w : World} {K : PySem.W.Frag} {mg : Str → Option Value} {base : Heap} (B : Bx K mg) : OkFn P w K mg base "_law_sip" ["_law_spring_here", "_law_top"] 1 F_law_sip :=
  okfn N_law_sip (n := 4) rfl g_law_sip B.at_law_sip hs_law_sip S_law_sip fun f cdv A outer s H E hr => jss_cons (js_if (jt_cmp op_gt r2_gt (je_mix (i := 0) (je_int) (hN := n_law_sip_0) (hv := Or.inl k_law_sip_law_spring_here) (hd := d_law_spring_here) (hcd := dc_law_spring_here)) (je_int) (nomark _)) (jss_cons (js_asg (je_b2 call_divmod c2_dm (je_mix (i := 0) (je_int) (hN := n_law_sip_0) (hv := Or.inl k_law_sip_law_spring_here) (hd := d_law_spring_here) (hcd := dc_law_spring_here)) (je_var (i := 1) (hN := n_law_sip_1) (hv := Or.inl k_law_sip_law_top) (hd := d_law_top) (hcd := dc_law_top)) B.b_divmod (hg := k_law_sip_divmod) (hv := bb_divmod) (hn := nn_divmod) (hdb := d_divmod)) (jg_tup (jgs_cons (jg_mut (i := 0) (je_int) (hN := n_law_sip_0) (hv := Or.inl k_law_sip_law_spring_here) (hd := d_law_spring_here) (hcd := dc_law_spring_here)) (jgs_cons (jg_name (i := 2) S_law_sip.nd (hi := n_law_sip_2) (hx := Or.inl k_law_sip_law_figure) (hf := Or.inl rfl)) (jgs_nil)))))
      (jss_one (js_ret (je_var (i := 2) (hN := n_law_sip_2) (hv := Or.inl k_law_sip_law_figure) (hd := d_law_figure) (hcd := dc_law_figure))))) (jss_nil))
      (jss_cons (js_asg (je_op op_addL r2_add (je_mix (i := 0) (je_int) (hN := n_law_sip_0) (hv := Or.inl k_law_sip_law_spring_here) (hd := d_law_spring_here) (hcd := dc_law_spring_here)) (je_int)) (jg_mut (i := 0) (je_int) (hN := n_law_sip_0) (hv := Or.inl k_law_sip_law_spring_here) (hd := d_law_spring_here) (hcd := dc_law_spring_here)))
      (jss_cons (js_set (i := 3) S_law_sip.nd (je_op op_addL r2_add (je_int) (je_op op_mulW r2_mul (je_int) (je_b1f call_int1 c1_int (je_mix (i := 0) (je_int) (hN := n_law_sip_0) (hv := Or.inl k_law_sip_law_spring_here) (hd := d_law_spring_here) (hcd := dc_law_spring_here)) B.b_int (hg := k_law_sip_int) (hv := bb_int) (hn := nn_int) (hdb := d_int)))) (hi := n_law_sip_3) (hx := Or.inl k_law_sip_law_by) (hf := Or.inl rfl))
      (jss_cons (js_asg (je_op op_mod r2_mod (je_b1f call_int1 c1_int (je_op op_addL r2_add (je_op op_addL r2_add (je_op op_mulW r2_mul (je_mix (i := 0) (je_int) (hN := n_law_sip_0) (hv := Or.inl k_law_sip_law_spring_here) (hd := d_law_spring_here) (hcd := dc_law_spring_here)) (je_var (i := 3) (hN := n_law_sip_3) (hv := Or.inl k_law_sip_law_by) (hd := d_law_by) (hcd := dc_law_by))) (je_op op_mulW r2_mul (je_int) (je_mix (i := 0) (je_int) (hN := n_law_sip_0) (hv := Or.inl k_law_sip_law_spring_here) (hd := d_law_spring_here) (hcd := dc_law_spring_here)))) (je_int)) B.b_int (hg := k_law_sip_int) (hv := bb_int) (hn := nn_int) (hdb := d_int)) (je_int)) (jg_mut (i := 0) (je_int) (hN := n_law_sip_0) (hv := Or.inl k_law_sip_law_spring_here) (hd := d_law_spring_here) (hcd := dc_law_spring_here)))
      (jss_one (js_ret (je_op op_mod r2_mod (je_b1f call_int1 c1_int (je_op op_divNW r2_divN (je_mix (i := 0) (je_int) (hN := n_law_sip_0) (hv := Or.inl k_law_sip_law_spring_here) (hd := d_law_spring_here) (hcd := dc_law_spring_here)) (je_int)) B.b_int (hg := k_law_sip_int) (hv := bb_int) (hn := nn_int) (hdb := d_int)) (je_var (i := 1) (hN := n_law_sip_1) (hv := Or.inl k_law_sip_law_top) (hd := d_law_top) (hcd := dc_law_top))))))))
def sc_law_pick : Scope := { kind := .function, names := [("_law_spring_here", .«local»), ("_law_some_here", .«local»), ("_law_sip", .globalImplicit), ("len", .globalImplicit)], isGenerator := false, isCoroutine := false, more := [] }
def N_law_pick : List Str := ["_law_spring_here", "_law_some_here"]
theorem hs_law_pick : defScope S48 = sc_law_pick := by rfl
theorem S_law_pick : FnScope N_law_pick ["_law_spring_here", "_law_some_here"] sc_law_pick := ⟨rfl, rfl, rfl, by decide +kernel, rfl, by decide +kernel, by decide +kernel⟩
theorem n_law_pick_0 : N_law_pick[0]? = some ("_law_spring_here" : Str) := rfl
theorem n_law_pick_1 : N_law_pick[1]? = some ("_law_some_here" : Str) := rfl
theorem k_law_pick_law_sip : sc_law_pick.names.lookup ("_law_sip" : Str) = some NameKind.globalImplicit := by decide +kernel
theorem k_law_pick_law_some_here : sc_law_pick.names.lookup ("_law_some_here" : Str) = some NameKind.«local» := by decide +kernel
theorem k_law_pick_law_spring_here : sc_law_pick.names.lookup ("_law_spring_here" : Str) = some NameKind.«local» := by decide +kernel
theorem k_law_pick_len : sc_law_pick.names.lookup ("len" : Str) = some NameKind.globalImplicit := by decide +kernel
theorem ok_law_pick {P : Program} {w : World} {K : PySem.W.Frag} {mg : Str → Option Value} {base : Heap} (B : Bx K mg) : OkFn P w K mg base "_law_pick" ["_law_spring_here", "_law_some_here"] 2 F_law_pick :=
  okfn N_law_pick (n := 2) rfl g_law_pick B.at_law_pick hs_law_pick S_law_pick fun f cdv A outer s H E hr => jss_one (js_ret (je_ix ix_seq r2_idx (je_var (i := 1) (hN := n_law_pick_1) (hv := Or.inl k_law_pick_law_some_here) (hd := d_law_some_here) (hcd := dc_law_some_here)) (je_call (ok_law_sip B) (hr.mono (by decide)) (ja_mut (i := 0) (ja_cons (je_b1 call_len_seq c1_len (je_var (i := 1) (hN := n_law_pick_1) (hv := Or.inl k_law_pick_law_some_here) (hd := d_law_some_here) (hcd := dc_law_some_here)) B.b_len (hg := k_law_pick_len) (hv := bb_len) (hn := nn_len) (hdb := d_len)) (ja_nil)) (hN := n_law_pick_0) (hv := Or.inl k_law_pick_law_spring_here) (hd := d_law_spring_here) (hcd := dc_law_spring_here)) (hg := k_law_pick_law_sip) (hdb := d_law_sip))))
def sc_law_deep : Scope := { kind := .function, names := [("_law_one", .«local»), ("_law_two", .«local»), ("abs", .globalImplicit), ("int", .globalImplicit)], isGenerator := false, isCoroutine := false, more := [] }
def N_law_deep : List Str := ["_law_one", "_law_two"]
theorem hs_law_deep : defScope S49 = sc_law_deep := by rfl
theorem S_law_deep : FnScope N_law_deep ["_law_one", "_law_two"] sc_law_deep := ⟨rfl, rfl, rfl, by decide +kernel, rfl, by decide +kernel, by decide +kernel⟩
theorem n_law_deep_0 : N_law_deep[0]? = some ("_law_one" : Str) := rfl
theorem n_law_deep_1 : N_law_deep[1]? = some ("_law_two" : Str) := rfl
theorem k_law_deep_law_one : sc_law_deep.names.lookup ("_law_one" : Str) = some NameKind.«local» := by decide +kernel
theorem k_law_deep_law_two : sc_law_deep.names.lookup ("_law_two" : Str) = some NameKind.«local» := by decide +kernel
theorem k_law_deep_abs : sc_law_deep.names.lookup ("abs" : Str) = some NameKind.globalImplicit := by decide +kernel
theorem k_law_deep_int : sc_law_deep.names.lookup ("int" : Str) = some NameKind.globalImplicit := by decide +kernel
theorem ok_law_deep {P : Program} {w : World} {K : PySem.W.Frag} {mg : Str → Option Value} {base : Heap} (B : Bx K mg) : OkFn P w K mg base "_law_deep" ["_law_one", "_law_two"] 1 F_law_deep :=
  okfn N_law_deep (n := 2) rfl g_law_deep B.at_law_deep hs_law_deep S_law_deep fun f cdv A outer s H E hr => jss_cons (js_par (i := 0) (j := 1) S_law_deep.nd (je_b1 call_abs c1_abs (je_var (i := 0) (hN := n_law_deep_0) (hv := Or.inl k_law_deep_law_one) (hd := d_law_one) (hcd := dc_law_one)) B.b_abs (hg := k_law_deep_abs) (hv := bb_abs) (hn := nn_abs) (hdb := d_abs)) (je_b1 call_abs c1_abs (je_var (i := 1) (hN := n_law_deep_1) (hv := Or.inl k_law_deep_law_two) (hd := d_law_two) (hcd := dc_law_two)) B.b_abs (hg := k_law_deep_abs) (hv := bb_abs) (hn := nn_abs) (hdb := d_abs)) (hi := n_law_deep_0) (hj := n_law_deep_1) (hx := k_law_deep_law_one) (hy := k_law_deep_law_two))
      (jss_cons (js_while PassesOwn.never (jt_cmp op_gt r2_gt (je_var (i := 1) (hN := n_law_deep_1) (hv := Or.inl k_law_deep_law_two) (hd := d_law_two) (hcd := dc_law_two)) (je_int) (nomark _)) (jss_one (js_par (i := 0) (j := 1) S_law_deep.nd (je_var (i := 1) (hN := n_law_deep_1) (hv := Or.inl k_law_deep_law_two) (hd := d_law_two) (hcd := dc_law_two)) (je_op op_mod r2_mod (je_b1f call_int1 c1_int (je_var (i := 0) (hN := n_law_deep_0) (hv := Or.inl k_law_deep_law_one) (hd := d_law_one) (hcd := dc_law_one)) B.b_int (hg := k_law_deep_int) (hv := bb_int) (hn := nn_int) (hdb := d_int)) (je_var (i := 1) (hN := n_law_deep_1) (hv := Or.inl k_law_deep_law_two) (hd := d_law_two) (hcd := dc_law_two))) (hi := n_law_deep_0) (hj := n_law_deep_1) (hx := k_law_deep_law_one) (hy := k_law_deep_law_two))))
      (jss_one (js_ret (je_var (i := 0) (hN := n_law_deep_0) (hv := Or.inl k_law_deep_law_one) (hd := d_law_one) (hcd := dc_law_one)))))
def sc_law_low : Scope := { kind := .function, names := [("_law_top", .«local»), ("_law_under", .«local»), ("_law_deep_here", .«local»), ("_law_deep", .globalImplicit)], isGenerator := false, isCoroutine := false, more := [] }
def N_law_low : List Str := ["_law_top", "_law_under", "_law_deep_here"]
theorem hs_law_low : defScope S50 = sc_law_low := by rfl
theorem S_law_low : FnScope N_law_low ["_law_top", "_law_under"] sc_law_low := ⟨rfl, rfl, rfl, by decide +kernel, rfl, by decide +kernel, by decide +kernel⟩
theorem n_law_low_0 : N_law_low[0]? = some ("_law_top" : Str) := rfl
theorem n_law_low_1 : N_law_low[1]? = some ("_law_under" : Str) := rfl
theorem n_law_low_2 : N_law_low[2]? = some ("_law_deep_here" : Str) := rfl
theorem k_law_low_law_deep : sc_law_low.names.lookup ("_law_deep" : Str) = some NameKind.globalImplicit := by decide +kernel
theorem k_law_low_law_deep_here : sc_law_low.names.lookup ("_law_deep_here" : Str) = some NameKind.«local» := by decide +kernel
theorem k_law_low_law_top : sc_law_low.names.lookup ("_law_top" : Str) = some NameKind.«local» := by decide +kernel
theorem k_law_low_law_under : sc_law_low.names.lookup ("_law_under" : Str) = some NameKind.«local» := by decide +kernel
theorem ok_law_low {P : Program} {w : World} {K : PySem.W.Frag} {mg : Str → Option Value} {base : Heap} (B : Bx K mg) : OkFn P w K mg base "_law_low" ["_law_top", "_law_under"] 2 F_law_low :=
  okfn N_law_low (n := 3) rfl g_law_low B.at_law_low hs_law_low S_law_low fun f cdv A outer s H E hr => jss_cons (js_set (i := 2) S_law_low.nd (je_ite (jt_cmp op_gt r2_gt (je_var (i := 1) (hN := n_law_low_1) (hv := Or.inl k_law_low_law_under) (hd := d_law_under) (hcd := dc_law_under)) (je_int) (nomark _)) (je_call (ok_law_deep B) (hr.mono (by decide)) (ja_cons (je_var (i := 0) (hN := n_law_low_0) (hv := Or.inl k_law_low_law_top) (hd := d_law_top) (hcd := dc_law_top)) (ja_cons (je_var (i := 1) (hN := n_law_low_1) (hv := Or.inl k_law_low_law_under) (hd := d_law_under) (hcd := dc_law_under)) (ja_nil))) (hg := k_law_low_law_deep) (hdb := d_law_deep)) (je_op op_sub r2_sub (je_int) (je_call (ok_law_deep B) (hr.mono (by decide)) (ja_cons (je_var (i := 0) (hN := n_law_low_0) (hv := Or.inl k_law_low_law_top) (hd := d_law_top) (hcd := dc_law_top)) (ja_cons (je_var (i := 1) (hN := n_law_low_1) (hv := Or.inl k_law_low_law_under) (hd := d_law_under) (hcd := dc_law_under)) (ja_nil))) (hg := k_law_low_law_deep) (hdb := d_law_deep)))) (hi := n_law_low_2) (hx := Or.inl k_law_low_law_deep_here) (hf := Or.inl rfl))
      (jss_one (js_ret (je_tup (jd_cons (je_op op_divNW r2_divN (je_var (i := 0) (hN := n_law_low_0) (hv := Or.inl k_law_low_law_top) (hd := d_law_top) (hcd := dc_law_top)) (je_var (i := 2) (hN := n_law_low_2) (hv := Or.inl k_law_low_law_deep_here) (hd := d_law_deep_here) (hcd := dc_law_deep_here))) (jd_cons (je_op op_divNW r2_divN (je_var (i := 1) (hN := n_law_low_1) (hv := Or.inl k_law_low_law_under) (hd := d_law_under) (hcd := dc_law_under)) (je_var (i := 2) (hN := n_law_low_2) (hv := Or.inl k_law_low_law_deep_here) (hd := d_law_deep_here) (hcd := dc_law_deep_here))) (jd_nil))))))
def sc_law_plus : Scope := { kind := .function, names := [("_law_one", .«local»), ("_law_two", .«local»), ("_law_low", .globalImplicit)], isGenerator := false, isCoroutine := false, more := [] }
def N_law_plus : List Str := ["_law_one", "_law_two"]
theorem hs_law_plus : defScope S51 = sc_law_plus := by rfl
theorem S_law_plus : FnScope N_law_plus ["_law_one", "_law_two"] sc_law_plus := ⟨rfl, rfl, rfl, by decide +kernel, rfl, by decide +kernel, by decide +kernel⟩
theorem n_law_plus_0 : N_law_plus[0]? = some ("_law_one" : Str) := rfl
theorem n_law_plus_1 : N_law_plus[1]? = some ("_law_two" : Str) := rfl
theorem k_law_plus_law_low : sc_law_plus.names.lookup ("_law_low" : Str) = some NameKind.globalImplicit := by decide +kernel
theorem k_law_plus_law_one : sc_law_plus.names.lookup ("_law_one" : Str) = some NameKind.«local» := by decide +kernel
theorem k_law_plus_law_two : sc_law_plus.names.lookup ("_law_two" : Str) = some NameKind.«local» := by decide +kernel
theorem ok_law_plus {P : Program} {w : World} {K : PySem.W.Frag} {mg : Str → Option Value} {base : Heap} (B : Bx K mg) : OkFn P w K mg base "_law_plus" ["_law_one", "_law_two"] 3 F_law_plus :=
  okfn N_law_plus (n := 2) rfl g_law_plus B.at_law_plus hs_law_plus S_law_plus fun f cdv A outer s H E hr => jss_one (js_ret (je_call (ok_law_low B) (hr.mono (by decide)) (ja_cons (je_op op_addL r2_add (je_op op_mulW r2_mul (je_ix ix_seq r2_idx (je_var (i := 0) (hN := n_law_plus_0) (hv := Or.inl k_law_plus_law_one) (hd := d_law_one) (hcd := dc_law_one)) (je_int)) (je_ix ix_seq r2_idx (je_var (i := 1) (hN := n_law_plus_1) (hv := Or.inl k_law_plus_law_two) (hd := d_law_two) (hcd := dc_law_two)) (je_int))) (je_op op_mulW r2_mul (je_ix ix_seq r2_idx (je_var (i := 1) (hN := n_law_plus_1) (hv := Or.inl k_law_plus_law_two) (hd := d_law_two) (hcd := dc_law_two)) (je_int)) (je_ix ix_seq r2_idx (je_var (i := 0) (hN := n_law_plus_0) (hv := Or.inl k_law_plus_law_one) (hd := d_law_one) (hcd := dc_law_one)) (je_int)))) (ja_cons (je_op op_mulW r2_mul (je_ix ix_seq r2_idx (je_var (i := 0) (hN := n_law_plus_0) (hv := Or.inl k_law_plus_law_one) (hd := d_law_one) (hcd := dc_law_one)) (je_int)) (je_ix ix_seq r2_idx (je_var (i := 1) (hN := n_law_plus_1) (hv := Or.inl k_law_plus_law_two) (hd := d_law_two) (hcd := dc_law_two)) (je_int))) (ja_nil))) (hg := k_law_plus_law_low) (hdb := d_law_low)))
def sc_law_prod : Scope := { kind := .function, names := [("_law_one", .«local»), ("_law_two", .«local»), ("_law_low", .globalImplicit)], isGenerator := false, isCoroutine := false, more := [] }
def N_law_prod : List Str := ["_law_one", "_law_two"]
theorem hs_law_prod : defScope S52 = sc_law_prod := by rfl
theorem S_law_prod : FnScope N_law_prod ["_law_one", "_law_two"] sc_law_prod := ⟨rfl, rfl, rfl, by decide +kernel, rfl, by decide +kernel, by decide +kernel⟩
theorem n_law_prod_0 : N_law_prod[0]? = some ("_law_one" : Str) := rfl
theorem n_law_prod_1 : N_law_prod[1]? = some ("_law_two" : Str) := rfl
theorem k_law_prod_law_low : sc_law_prod.names.lookup ("_law_low" : Str) = some NameKind.globalImplicit := by decide +kernel
theorem k_law_prod_law_one : sc_law_prod.names.lookup ("_law_one" : Str) = some NameKind.«local» := by decide +kernel
theorem k_law_prod_law_two : sc_law_prod.names.lookup ("_law_two" : Str) = some NameKind.«local» := by decide +kernel
theorem ok_law_prod {P : Program} {w : World} {K : PySem.W.Frag} {mg : Str → Option Value} {base : Heap} (B : Bx K mg) : OkFn P w K mg base "_law_prod" ["_law_one", "_law_two"] 3 F_law_prod :=
  okfn N_law_prod (n := 2) rfl g_law_prod B.at_law_prod hs_law_prod S_law_prod fun f cdv A outer s H E hr => jss_one (js_ret (je_call (ok_law_low B) (hr.mono (by decide)) (ja_cons (je_op op_mulW r2_mul (je_ix ix_seq r2_idx (je_var (i := 0) (hN := n_law_prod_0) (hv := Or.inl k_law_prod_law_one) (hd := d_law_one) (hcd := dc_law_one)) (je_int)) (je_ix ix_seq r2_idx (je_var (i := 1) (hN := n_law_prod_1) (hv := Or.inl k_law_prod_law_two) (hd := d_law_two) (hcd := dc_law_two)) (je_int))) (ja_cons (je_op op_mulW r2_mul (je_ix ix_seq r2_idx (je_var (i := 0) (hN := n_law_prod_0) (hv := Or.inl k_law_prod_law_one) (hd := d_law_one) (hcd := dc_law_one)) (je_int)) (je_ix ix_seq r2_idx (je_var (i := 1) (hN := n_law_prod_1) (hv := Or.inl k_law_prod_law_two) (hd := d_law_two) (hcd := dc_law_two)) (je_int))) (ja_nil))) (hg := k_law_prod_law_low) (hdb := d_law_low)))
end Bs
namespace Bs
open PySem PySem.Spec PyProof.Rows L2
def sc_law_per : Scope := { kind := .function, names := [("_law_one", .«local»), ("_law_two", .«local»), ("_law_low", .globalImplicit)], isGenerator := false, isCoroutine := false, more := [] }
def N_law_per : List Str := ["_law_one", "_law_two"]
theorem hs_law_per : defScope S53 = sc_law_per := by rfl
theorem S_law_per : FnScope N_law_per ["_law_one", "_law_two"] sc_law_per := ⟨rfl, rfl, rfl, by decide +kernel, rfl, by decide +kernel, by decide +kernel⟩
theorem n_law_per_0 : N_law_per[0]? = some ("_law_one" : Str) := rfl
theorem n_law_per_1 : N_law_per[1]? = some ("_law_two" : Str) := rfl
theorem k_law_per_law_low : sc_law_per.names.lookup ("_law_low" : Str) = some NameKind.globalImplicit := by decide +kernel
theorem k_law_per_law_one : sc_law_per.names.lookup ("_law_one" : Str) = some NameKind.«local» := by decide +kernel
theorem k_law_per_law_two : sc_law_per.names.lookup ("_law_two" : Str) = some NameKind.«local» := by decide +kernel
theorem ok_law_per {P : Program} {w : World} {K : PySem.W.Frag} {mg : Str → Option Value} {base : Heap} (B : Bx K mg) : OkFn P w K mg base "_law_per" ["_law_one", "_law_two"] 3 F_law_per :=
  okfn N_law_per (n := 2) rfl g_law_per B.at_law_per hs_law_per S_law_per fun f cdv A outer s H E hr => jss_one (js_ret (je_call (ok_law_low B) (hr.mono (by decide)) (ja_cons (je_op op_mulW r2_mul (je_ix ix_seq r2_idx (je_var (i := 0) (hN := n_law_per_0) (hv := Or.inl k_law_per_law_one) (hd := d_law_one) (hcd := dc_law_one)) (je_int)) (je_ix ix_seq r2_idx (je_var (i := 1) (hN := n_law_per_1) (hv := Or.inl k_law_per_law_two) (hd := d_law_two) (hcd := dc_law_two)) (je_int))) (ja_cons (je_op op_mulW r2_mul (je_ix ix_seq r2_idx (je_var (i := 0) (hN := n_law_per_0) (hv := Or.inl k_law_per_law_one) (hd := d_law_one) (hcd := dc_law_one)) (je_int)) (je_ix ix_seq r2_idx (je_var (i := 1) (hN := n_law_per_1) (hv := Or.inl k_law_per_law_two) (hd := d_law_two) (hcd := dc_law_two)) (je_int))) (ja_nil))) (hg := k_law_per_law_low) (hdb := d_law_low)))
def sc_law_ints : Scope := { kind := .function, names := [("_law_some_here", .«local»), ("_law_under", .cell), ("_law_each", .«local»), ("_law_deep", .globalImplicit)], isGenerator := false, isCoroutine := false, more := [("fast", .str "_law_some_here"), ("fast", .str "_law_under"), ("fast", .str "_law_each")] }
def N_law_ints : List Str := ["_law_some_here", "_law_under", "_law_each"]
theorem hs_law_ints : defScope S54 = sc_law_ints := by rfl
theorem S_law_ints : FnScope N_law_ints ["_law_some_here"] sc_law_ints := ⟨rfl, rfl, rfl, by decide +kernel, rfl, by decide +kernel, by decide +kernel⟩
theorem n_law_ints_0 : N_law_ints[0]? = some ("_law_some_here" : Str) := rfl
theorem n_law_ints_1 : N_law_ints[1]? = some ("_law_under" : Str) := rfl
theorem n_law_ints_2 : N_law_ints[2]? = some ("_law_each" : Str) := rfl
theorem k_law_ints_law_deep : sc_law_ints.names.lookup ("_law_deep" : Str) = some NameKind.globalImplicit := by decide +kernel
theorem k_law_ints_law_each : sc_law_ints.names.lookup ("_law_each" : Str) = some NameKind.«local» := by decide +kernel
theorem k_law_ints_law_some_here : sc_law_ints.names.lookup ("_law_some_here" : Str) = some NameKind.«local» := by decide +kernel
theorem k_law_ints_law_under : sc_law_ints.names.lookup ("_law_under" : Str) = some NameKind.cell := by decide +kernel
abbrev cs_law_ints_0 : Scope := { kind := .function, names := [(".0", .«local»), ("_law_each", .«local»), ("_law_under", .free)], isGenerator := false, isCoroutine := false, more := [] }
theorem bo_law_ints_0 : BlkOk N_law_ints sc_law_ints cs_law_ints_0 [("_law_each", 2)] := blkOk_by (by decide +kernel)
theorem kc_law_ints_0_law_each : (relS cs_law_ints_0 sc_law_ints).names.lookup ("_law_each" : Str) = some NameKind.«local» := by decide +kernel
theorem kc_law_ints_0_law_under : (relS cs_law_ints_0 sc_law_ints).names.lookup ("_law_under" : Str) = some NameKind.cell := by decide +kernel
theorem ok_law_ints {P : Program} {w : World} {K : PySem.W.Frag} {mg : Str → Option Value} {base : Heap} (B : Bx K mg) : OkFn P w K mg base "_law_ints" ["_law_some_here"] 2 F_law_ints :=
  okfn N_law_ints (n := 3) rfl g_law_ints B.at_law_ints hs_law_ints S_law_ints fun f cdv A outer s H E hr => jss_cons (js_set (i := 1) S_law_ints.nd (je_int) (hi := n_law_ints_1) (hx := Or.inr k_law_ints_law_under) (hf := Or.inl rfl))
      (jss_cons (js_for PassesOwn.never (jx_tup (je_var (i := 0) (hN := n_law_ints_0) (hv := Or.inl k_law_ints_law_some_here) (hd := d_law_some_here) (hcd := dc_law_some_here))) (jg_name (i := 2) S_law_ints.nd (hi := n_law_ints_2) (hx := Or.inl k_law_ints_law_each) (hf := Or.inl rfl)) (jss_one (js_set (i := 1) S_law_ints.nd (je_op op_mulW r2_mul (je_var (i := 1) (hN := n_law_ints_1) (hv := Or.inr (Or.inl k_law_ints_law_under)) (hd := d_law_under) (hcd := dc_law_under)) (je_op op_divNW r2_divN (je_ix ix_seq r2_idx (je_var (i := 2) (hN := n_law_ints_2) (hv := Or.inl k_law_ints_law_each) (hd := d_law_each) (hcd := dc_law_each)) (je_int)) (je_call (ok_law_deep B) (hr.mono (by decide)) (ja_cons (je_var (i := 1) (hN := n_law_ints_1) (hv := Or.inr (Or.inl k_law_ints_law_under)) (hd := d_law_under) (hcd := dc_law_under)) (ja_cons (je_ix ix_seq r2_idx (je_var (i := 2) (hN := n_law_ints_2) (hv := Or.inl k_law_ints_law_each) (hd := d_law_each) (hcd := dc_law_each)) (je_int)) (ja_nil))) (hg := k_law_ints_law_deep) (hdb := d_law_deep)))) (hi := n_law_ints_1) (hx := Or.inr k_law_ints_law_under) (hf := Or.inl rfl))))
      (jss_one (js_ret (je_tup (jd_cons (je_list (jl_lc (j := 2) (x := "_law_each") S_law_ints.nd (jx_tup (je_var (i := 0) (hN := n_law_ints_0) (hv := Or.inl k_law_ints_law_some_here) (hd := d_law_some_here) (hcd := dc_law_some_here))) bo_law_ints_0 (fun _ _ _ _ _ => ji_nil) (fun _ _ _ _ _ => je_op op_mulW r2_mul (je_ix ix_seq r2_idx (je_var (i := 2) (hN := n_law_ints_2) (hv := Or.inl kc_law_ints_0_law_each) (hd := d_law_each) (hcd := dc_law_each)) (je_int)) (je_op op_divNW r2_divN (je_var (i := 1) (hN := n_law_ints_1) (hv := Or.inr (Or.inl kc_law_ints_0_law_under)) (hd := d_law_under) (hcd := dc_law_under)) (je_ix ix_seq r2_idx (je_var (i := 2) (hN := n_law_ints_2) (hv := Or.inl kc_law_ints_0_law_each) (hd := d_law_each) (hcd := dc_law_each)) (je_int)))) (hg := fun _ _ _ _ _ => pg_name S_law_ints.nd n_law_ints_2 (Or.inl kc_law_ints_0_law_each) (Or.inr kc_law_ints_0_law_each)))) (jd_cons (je_var (i := 1) (hN := n_law_ints_1) (hv := Or.inr (Or.inl k_law_ints_law_under)) (hd := d_law_under) (hcd := dc_law_under)) (jd_nil)))))))
def sc_law_any : Scope := { kind := .function, names := [("_law_spring_here", .«local»), ("_law_wide_here", .«local»), ("_law_pick", .globalImplicit), ("_law_low", .globalImplicit), ("_law_sip", .globalImplicit)], isGenerator := false, isCoroutine := false, more := [] }
def N_law_any : List Str := ["_law_spring_here", "_law_wide_here"]
theorem hs_law_any : defScope S55 = sc_law_any := by rfl
theorem S_law_any : FnScope N_law_any ["_law_spring_here"] sc_law_any := ⟨rfl, rfl, rfl, by decide +kernel, rfl, by decide +kernel, by decide +kernel⟩
theorem n_law_any_0 : N_law_any[0]? = some ("_law_spring_here" : Str) := rfl
theorem n_law_any_1 : N_law_any[1]? = some ("_law_wide_here" : Str) := rfl
theorem k_law_any_law_low : sc_law_any.names.lookup ("_law_low" : Str) = some NameKind.globalImplicit := by decide +kernel
theorem k_law_any_law_pick : sc_law_any.names.lookup ("_law_pick" : Str) = some NameKind.globalImplicit := by decide +kernel
theorem k_law_any_law_sip : sc_law_any.names.lookup ("_law_sip" : Str) = some NameKind.globalImplicit := by decide +kernel
theorem k_law_any_law_spring_here : sc_law_any.names.lookup ("_law_spring_here" : Str) = some NameKind.«local» := by decide +kernel
theorem k_law_any_law_wide_here : sc_law_any.names.lookup ("_law_wide_here" : Str) = some NameKind.«local» := by decide +kernel
theorem ok_law_any {P : Program} {w : World} {K : PySem.W.Frag} {mg : Str → Option Value} {base : Heap} (B : Bx K mg) : OkFn P w K mg base "_law_any" ["_law_spring_here"] 3 F_law_any :=
  okfn N_law_any (n := 2) rfl g_law_any B.at_law_any hs_law_any S_law_any fun f cdv A outer s H E hr => jss_cons (js_set (i := 1) S_law_any.nd (je_call (ok_law_pick B) (hr.mono (by decide)) (ja_mut (i := 0) (ja_cons (je_list (jl_disp (jd_cons (je_int) (jd_cons (je_int) (jd_cons (je_int) (jd_cons (je_int) (jd_cons (je_int) (jd_cons (je_int) (jd_nil))))))))) (ja_nil)) (hN := n_law_any_0) (hv := Or.inl k_law_any_law_spring_here) (hd := d_law_spring_here) (hcd := dc_law_spring_here)) (hg := k_law_any_law_pick) (hdb := d_law_pick)) (hi := n_law_any_1) (hx := Or.inl k_law_any_law_wide_here) (hf := Or.inl rfl))
      (jss_one (js_ret (je_call (ok_law_low B) (hr.mono (by decide)) (ja_cons (je_op op_sub r2_sub (je_call (ok_law_sip B) (hr.mono (by decide)) (ja_mut (i := 0) (ja_cons (je_op op_addL r2_add (je_op op_mulW r2_mul (je_int) (je_var (i := 1) (hN := n_law_any_1) (hv := Or.inl k_law_any_law_wide_here) (hd := d_law_wide_here) (hcd := dc_law_wide_here))) (je_int)) (ja_nil)) (hN := n_law_any_0) (hv := Or.inl k_law_any_law_spring_here) (hd := d_law_spring_here) (hcd := dc_law_spring_here)) (hg := k_law_any_law_sip) (hdb := d_law_sip)) (je_var (i := 1) (hN := n_law_any_1) (hv := Or.inl k_law_any_law_wide_here) (hd := d_law_wide_here) (hcd := dc_law_wide_here))) (ja_cons (je_call (ok_law_pick B) (hr.mono (by decide)) (ja_mut (i := 0) (ja_cons (je_list (jl_disp (jd_cons (je_int) (jd_cons (je_int) (jd_cons (je_int) (jd_cons (je_int) (jd_cons (je_int) (jd_cons (je_int) (jd_cons (je_int) (jd_cons (je_int) (jd_nil))))))))))) (ja_nil)) (hN := n_law_any_0) (hv := Or.inl k_law_any_law_spring_here) (hd := d_law_spring_here) (hcd := dc_law_spring_here)) (hg := k_law_any_law_pick) (hdb := d_law_pick)) (ja_nil))) (hg := k_law_any_law_low) (hdb := d_law_low))))
def sc_law_some : Scope := { kind := .function, names := [("_law_spring_here", .«local»), ("_law_top", .«local»), ("_law_sip", .globalImplicit), ("_law_pick", .globalImplicit), ("_law_low", .globalImplicit)], isGenerator := false, isCoroutine := false, more := [] }
def N_law_some : List Str := ["_law_spring_here", "_law_top"]
theorem hs_law_some : defScope S56 = sc_law_some := by rfl
theorem S_law_some : FnScope N_law_some ["_law_spring_here"] sc_law_some := ⟨rfl, rfl, rfl, by decide +kernel, rfl, by decide +kernel, by decide +kernel⟩
theorem n_law_some_0 : N_law_some[0]? = some ("_law_spring_here" : Str) := rfl
theorem n_law_some_1 : N_law_some[1]? = some ("_law_top" : Str) := rfl
theorem k_law_some_law_low : sc_law_some.names.lookup ("_law_low" : Str) = some NameKind.globalImplicit := by decide +kernel
theorem k_law_some_law_pick : sc_law_some.names.lookup ("_law_pick" : Str) = some NameKind.globalImplicit := by decide +kernel
theorem k_law_some_law_sip : sc_law_some.names.lookup ("_law_sip" : Str) = some NameKind.globalImplicit := by decide +kernel
theorem k_law_some_law_spring_here : sc_law_some.names.lookup ("_law_spring_here" : Str) = some NameKind.«local» := by decide +kernel
theorem k_law_some_law_top : sc_law_some.names.lookup ("_law_top" : Str) = some NameKind.«local» := by decide +kernel
theorem ok_law_some {P : Program} {w : World} {K : PySem.W.Frag} {mg : Str → Option Value} {base : Heap} (B : Bx K mg) : OkFn P w K mg base "_law_some" ["_law_spring_here"] 3 F_law_some :=
  okfn N_law_some (n := 2) rfl g_law_some B.at_law_some hs_law_some S_law_some fun f cdv A outer s H E hr => jss_cons (js_set (i := 1) S_law_some.nd (je_op op_addL r2_add (je_int) (je_call (ok_law_sip B) (hr.mono (by decide)) (ja_mut (i := 0) (ja_cons (je_call (ok_law_pick B) (hr.mono (by decide)) (ja_mut (i := 0) (ja_cons (je_list (jl_disp (jd_cons (je_int) (jd_cons (je_int) (jd_cons (je_int) (jd_cons (je_int) (jd_cons (je_int) (jd_nil)))))))) (ja_nil)) (hN := n_law_some_0) (hv := Or.inl k_law_some_law_spring_here) (hd := d_law_spring_here) (hcd := dc_law_spring_here)) (hg := k_law_some_law_pick) (hdb := d_law_pick)) (ja_nil)) (hN := n_law_some_0) (hv := Or.inl k_law_some_law_spring_here) (hd := d_law_spring_here) (hcd := dc_law_spring_here)) (hg := k_law_some_law_sip) (hdb := d_law_sip))) (hi := n_law_some_1) (hx := Or.inl k_law_some_law_top) (hf := Or.inl rfl))
      (jss_one (js_ret (je_call (ok_law_low B) (hr.mono (by decide)) (ja_cons (je_ite (jt_cmp (op_eqP hr.units) r2_eq (je_call (ok_law_sip B) (hr.mono (by decide)) (ja_mut (i := 0) (ja_cons (je_int) (ja_nil)) (hN := n_law_some_0) (hv := Or.inl k_law_some_law_spring_here) (hd := d_law_spring_here) (hcd := dc_law_spring_here)) (hg := k_law_some_law_sip) (hdb := d_law_sip)) (je_int) (nomark _)) (je_var (i := 1) (hN := n_law_some_1) (hv := Or.inl k_law_some_law_top) (hd := d_law_top) (hcd := dc_law_top)) (je_op op_sub r2_sub (je_int) (je_var (i := 1) (hN := n_law_some_1) (hv := Or.inl k_law_some_law_top) (hd := d_law_top) (hcd := dc_law_top)))) (ja_cons (je_call (ok_law_pick B) (hr.mono (by decide)) (ja_mut (i := 0) (ja_cons (je_list (jl_disp (jd_cons (je_int) (jd_cons (je_int) (jd_cons (je_int) (jd_cons (je_int) (jd_cons (je_int) (jd_cons (je_int) (jd_cons (je_int) (jd_cons (je_int) (jd_nil))))))))))) (ja_nil)) (hN := n_law_some_0) (hv := Or.inl k_law_some_law_spring_here) (hd := d_law_spring_here) (hcd := dc_law_spring_here)) (hg := k_law_some_law_pick) (hdb := d_law_pick)) (ja_nil))) (hg := k_law_some_law_low) (hdb := d_law_low))))
def sc_law_row : Scope := { kind := .function, names := [("_law_spring_here", .«local»), ("_law_most", .«local»), ("_law_some_here", .«local»), ("_law_lap", .«local»), ("_law_some", .globalImplicit), ("range", .globalImplicit), ("_law_sip", .globalImplicit), ("_law_any", .globalImplicit), ("tuple", .globalImplicit)], isGenerator := false, isCoroutine := false, more := [] }
def N_law_row : List Str := ["_law_spring_here", "_law_most", "_law_some_here", "_law_lap"]
theorem hs_law_row : defScope S57 = sc_law_row := by rfl
theorem S_law_row : FnScope N_law_row ["_law_spring_here", "_law_most"] sc_law_row := ⟨rfl, rfl, rfl, by decide +kernel, rfl, by decide +kernel, by decide +kernel⟩
theorem n_law_row_0 : N_law_row[0]? = some ("_law_spring_here" : Str) := rfl
theorem n_law_row_1 : N_law_row[1]? = some ("_law_most" : Str) := rfl
theorem n_law_row_2 : N_law_row[2]? = some ("_law_some_here" : Str) := rfl
theorem n_law_row_3 : N_law_row[3]? = some ("_law_lap" : Str) := rfl
theorem k_law_row_law_any : sc_law_row.names.lookup ("_law_any" : Str) = some NameKind.globalImplicit := by decide +kernel
theorem k_law_row_law_lap : sc_law_row.names.lookup ("_law_lap" : Str) = some NameKind.«local» := by decide +kernel
theorem k_law_row_law_most : sc_law_row.names.lookup ("_law_most" : Str) = some NameKind.«local» := by decide +kernel
theorem k_law_row_law_sip : sc_law_row.names.lookup ("_law_sip" : Str) = some NameKind.globalImplicit := by decide +kernel
theorem k_law_row_law_some : sc_law_row.names.lookup ("_law_some" : Str) = some NameKind.globalImplicit := by decide +kernel
theorem k_law_row_law_some_here : sc_law_row.names.lookup ("_law_some_here" : Str) = some NameKind.«local» := by decide +kernel
theorem k_law_row_law_spring_here : sc_law_row.names.lookup ("_law_spring_here" : Str) = some NameKind.«local» := by decide +kernel
theorem k_law_row_range : sc_law_row.names.lookup ("range" : Str) = some NameKind.globalImplicit := by decide +kernel
theorem k_law_row_tuple : sc_law_row.names.lookup ("tuple" : Str) = some NameKind.globalImplicit := by decide +kernel
theorem ok_law_row {P : Program} {w : World} {K : PySem.W.Frag} {mg : Str → Option Value} {base : Heap} (B : Bx K mg) : OkFn P w K mg base "_law_row" ["_law_spring_here", "_law_most"] 4 F_law_row :=
  okfn N_law_row (n := 4) rfl g_law_row B.at_law_row hs_law_row S_law_row fun f cdv A outer s H E hr => jss_cons (js_new (i := 2) S_law_row.nd (jl_disp (jd_cons (je_call (ok_law_some B) (hr.mono (by decide)) (ja_mut (i := 0) (ja_nil) (hN := n_law_row_0) (hv := Or.inl k_law_row_law_spring_here) (hd := d_law_spring_here) (hcd := dc_law_spring_here)) (hg := k_law_row_law_some) (hdb := d_law_some)) (jd_nil))) (hi := n_law_row_2) (hx := Or.inl k_law_row_law_some_here) (hf := Or.inl rfl))
      (jss_cons (js_for PassesOwn.never (jx_r1 (je_call (ok_law_sip B) (hr.mono (by decide)) (ja_mut (i := 0) (ja_cons (je_var (i := 1) (hN := n_law_row_1) (hv := Or.inl k_law_row_law_most) (hd := d_law_most) (hcd := dc_law_most)) (ja_nil)) (hN := n_law_row_0) (hv := Or.inl k_law_row_law_spring_here) (hd := d_law_spring_here) (hcd := dc_law_spring_here)) (hg := k_law_row_law_sip) (hdb := d_law_sip)) B.b_range (hg := k_law_row_range)) (jg_name (i := 3) S_law_row.nd (hi := n_law_row_3) (hx := Or.inl k_law_row_law_lap) (hf := Or.inl rfl)) (jss_one (js_app (i := 2) (je_call (ok_law_any B) (hr.mono (by decide)) (ja_mut (i := 0) (ja_nil) (hN := n_law_row_0) (hv := Or.inl k_law_row_law_spring_here) (hd := d_law_spring_here) (hcd := dc_law_spring_here)) (hg := k_law_row_law_any) (hdb := d_law_any)) (hN := n_law_row_2) (hv := Or.inl k_law_row_law_some_here) (hd := d_law_some_here) (hcd := dc_law_some_here))))
      (jss_cons (js_asg (je_ite (jt_cmp (op_eqP hr.units) r2_eq (je_ix ix_seq r2_idx (je_mix (i := 2) (je_un un_neg r1_neg (je_int)) (hN := n_law_row_2) (hv := Or.inl k_law_row_law_some_here) (hd := d_law_some_here) (hcd := dc_law_some_here)) (je_int)) (je_int) (nomark _)) (je_call (ok_law_some B) (hr.mono (by decide)) (ja_mut (i := 0) (ja_nil) (hN := n_law_row_0) (hv := Or.inl k_law_row_law_spring_here) (hd := d_law_spring_here) (hcd := dc_law_spring_here)) (hg := k_law_row_law_some) (hdb := d_law_some)) (je_mix (i := 2) (je_un un_neg r1_neg (je_int)) (hN := n_law_row_2) (hv := Or.inl k_law_row_law_some_here) (hd := d_law_some_here) (hcd := dc_law_some_here))) (jg_mut (i := 2) (je_un un_neg r1_neg (je_int)) (hN := n_law_row_2) (hv := Or.inl k_law_row_law_some_here) (hd := d_law_some_here) (hcd := dc_law_some_here)))
      (jss_one (js_ret (je_tup (jd_cons (je_op op_sub r2_sub (je_call (ok_law_sip B) (hr.mono (by decide)) (ja_mut (i := 0) (ja_cons (je_int) (ja_nil)) (hN := n_law_row_0) (hv := Or.inl k_law_row_law_spring_here) (hd := d_law_spring_here) (hcd := dc_law_spring_here)) (hg := k_law_row_law_sip) (hdb := d_law_sip)) (je_int)) (jd_cons (je_b1f call_tuple_of c1_tup (je_frz (i := 2) (hN := n_law_row_2) (hv := Or.inl k_law_row_law_some_here) (hd := d_law_some_here) (hcd := dc_law_some_here)) B.b_tuple (hg := k_law_row_tuple) (hv := bb_tuple) (hn := nn_tuple) (hdb := d_tuple)) (jd_nil))))))))
def sc_law_mild_row : Scope := { kind := .function, names := [("_law_spring_here", .«local»), ("_law_most", .«local»), ("_law_sip", .globalImplicit), ("_law_row", .globalImplicit)], isGenerator := false, isCoroutine := false, more := [] }
def N_law_mild_row : List Str := ["_law_spring_here", "_law_most"]
theorem hs_law_mild_row : defScope S58 = sc_law_mild_row := by rfl
theorem S_law_mild_row : FnScope N_law_mild_row ["_law_spring_here", "_law_most"] sc_law_mild_row := ⟨rfl, rfl, rfl, by decide +kernel, rfl, by decide +kernel, by decide +kernel⟩
theorem n_law_mild_row_0 : N_law_mild_row[0]? = some ("_law_spring_here" : Str) := rfl
theorem n_law_mild_row_1 : N_law_mild_row[1]? = some ("_law_most" : Str) := rfl
theorem k_law_mild_row_law_most : sc_law_mild_row.names.lookup ("_law_most" : Str) = some NameKind.«local» := by decide +kernel
theorem k_law_mild_row_law_row : sc_law_mild_row.names.lookup ("_law_row" : Str) = some NameKind.globalImplicit := by decide +kernel
theorem k_law_mild_row_law_sip : sc_law_mild_row.names.lookup ("_law_sip" : Str) = some NameKind.globalImplicit := by decide +kernel
theorem k_law_mild_row_law_spring_here : sc_law_mild_row.names.lookup ("_law_spring_here" : Str) = some NameKind.«local» := by decide +kernel
theorem ok_law_mild_row {P : Program} {w : World} {K : PySem.W.Frag} {mg : Str → Option Value} {base : Heap} (B : Bx K mg) : OkFn P w K mg base "_law_mild_row" ["_law_spring_here", "_law_most"] 5 F_law_mild_row :=
  okfn N_law_mild_row (n := 2) rfl g_law_mild_row B.at_law_mild_row hs_law_mild_row S_law_mild_row fun f cdv A outer s H E hr => jss_one (js_ret (je_ite (jt_cmp (op_eqP hr.units) r2_eq (je_call (ok_law_sip B) (hr.mono (by decide)) (ja_mut (i := 0) (ja_cons (je_int) (ja_nil)) (hN := n_law_mild_row_0) (hv := Or.inl k_law_mild_row_law_spring_here) (hd := d_law_spring_here) (hcd := dc_law_spring_here)) (hg := k_law_mild_row_law_sip) (hdb := d_law_sip)) (je_int) (nomark _)) (je_tup (jd_cons (je_int) (jd_cons (je_tup (jd_nil)) (jd_nil)))) (je_call (ok_law_row B) (hr.mono (by decide)) (ja_mut (i := 0) (ja_cons (je_var (i := 1) (hN := n_law_mild_row_1) (hv := Or.inl k_law_mild_row_law_most) (hd := d_law_most) (hcd := dc_law_most)) (ja_nil)) (hN := n_law_mild_row_0) (hv := Or.inl k_law_mild_row_law_spring_here) (hd := d_law_spring_here) (hcd := dc_law_spring_here)) (hg := k_law_mild_row_law_row) (hdb := d_law_row))))
def sc_law_trim : Scope := { kind := .function, names := [("_law_at_here", .«local»), ("_law_some_here", .cell), ("_law_full", .«local»), ("range", .globalImplicit), ("len", .globalImplicit), ("tuple", .globalImplicit)], isGenerator := false, isCoroutine := false, more := [("fast", .str "_law_at_here"), ("fast", .str "_law_some_here"), ("fast", .str "_law_k"), ("fast", .str "_law_full")] }
def N_law_trim : List Str := ["_law_at_here", "_law_some_here", "_law_full", "_law_k"]
theorem hs_law_trim : defScope S59 = sc_law_trim := by rfl
theorem S_law_trim : FnScope N_law_trim ["_law_at_here", "_law_some_here"] sc_law_trim := ⟨rfl, rfl, rfl, by decide +kernel, rfl, by decide +kernel, by decide +kernel⟩
theorem n_law_trim_0 : N_law_trim[0]? = some ("_law_at_here" : Str) := rfl
theorem n_law_trim_1 : N_law_trim[1]? = some ("_law_some_here" : Str) := rfl
theorem n_law_trim_2 : N_law_trim[2]? = some ("_law_full" : Str) := rfl
theorem n_law_trim_3 : N_law_trim[3]? = some ("_law_k" : Str) := rfl
theorem k_law_trim_law_at_here : sc_law_trim.names.lookup ("_law_at_here" : Str) = some NameKind.«local» := by decide +kernel
theorem k_law_trim_law_full : sc_law_trim.names.lookup ("_law_full" : Str) = some NameKind.«local» := by decide +kernel
theorem k_law_trim_law_some_here : sc_law_trim.names.lookup ("_law_some_here" : Str) = some NameKind.cell := by decide +kernel
theorem k_law_trim_len : sc_law_trim.names.lookup ("len" : Str) = some NameKind.globalImplicit := by decide +kernel
theorem k_law_trim_range : sc_law_trim.names.lookup ("range" : Str) = some NameKind.globalImplicit := by decide +kernel
theorem k_law_trim_tuple : sc_law_trim.names.lookup ("tuple" : Str) = some NameKind.globalImplicit := by decide +kernel
abbrev cs_law_trim_0 : Scope := { kind := .function, names := [(".0", .«local»), ("_law_k", .«local»), ("_law_some_here", .free)], isGenerator := false, isCoroutine := false, more := [] }
theorem bo_law_trim_0 : BlkOk N_law_trim sc_law_trim cs_law_trim_0 [("_law_k", 3)] := blkOk_by (by decide +kernel)
theorem kc_law_trim_0_law_k : (relS cs_law_trim_0 sc_law_trim).names.lookup ("_law_k" : Str) = some NameKind.«local» := by decide +kernel
theorem kc_law_trim_0_law_some_here : (relS cs_law_trim_0 sc_law_trim).names.lookup ("_law_some_here" : Str) = some NameKind.cell := by decide +kernel
theorem ok_law_trim {P : Program} {w : World} {K : PySem.W.Frag} {mg : Str → Option Value} {base : Heap} (B : Bx K mg) : OkFn P w K mg base "_law_trim" ["_law_at_here", "_law_some_here"] 1 F_law_trim :=
  okfn N_law_trim (n := 4) rfl g_law_trim B.at_law_trim hs_law_trim S_law_trim fun f cdv A outer s H E hr => jss_cons (js_setLc (i := 2) (j := 3) (x := "_law_k") S_law_trim.nd (jx_r1 (je_b1 call_len_seq c1_len (je_var (i := 1) (hN := n_law_trim_1) (hv := Or.inr (Or.inl k_law_trim_law_some_here)) (hd := d_law_some_here) (hcd := dc_law_some_here)) B.b_len (hg := k_law_trim_len) (hv := bb_len) (hn := nn_len) (hdb := d_len)) B.b_range (hg := k_law_trim_range)) bo_law_trim_0 (fun _ _ _ _ _ => ji_one (jt_cmp (op_neP hr.units) r2_ne (je_ix ix_seq r2_idx (je_ix ix_seq r2_idx (je_var (i := 1) (hN := n_law_trim_1) (hv := Or.inr (Or.inl kc_law_trim_0_law_some_here)) (hd := d_law_some_here) (hcd := dc_law_some_here)) (je_var (i := 3) (hN := n_law_trim_3) (hv := Or.inl kc_law_trim_0_law_k) (hd := d_law_k) (hcd := dc_law_k))) (je_int)) (je_int) (nomark _))) (fun _ _ _ _ _ => je_var (i := 3) (hN := n_law_trim_3) (hv := Or.inl kc_law_trim_0_law_k) (hd := d_law_k) (hcd := dc_law_k)) (hz := n_law_trim_2) (hzl := k_law_trim_law_full) (hsw := sw_true rfl k_law_trim_law_full rfl (by decide +kernel)) (hg := fun _ _ _ _ _ => pg_name S_law_trim.nd n_law_trim_3 (Or.inl kc_law_trim_0_law_k) (Or.inr kc_law_trim_0_law_k)))
      (jss_cons (js_if (jt_cmp (op_eqP hr.units) r2_eq (je_var (i := 2) (hN := n_law_trim_2) (hv := Or.inl k_law_trim_law_full) (hd := d_law_full) (hcd := dc_law_full)) (je_list (jl_disp (jd_nil))) (nomark _)) (jss_one (js_ret (je_tup (jd_cons (je_int) (jd_cons (je_tup (jd_nil)) (jd_nil)))))) (jss_nil))
      (jss_one (js_ret (je_tup (jd_cons (je_op op_addL r2_add (je_var (i := 0) (hN := n_law_trim_0) (hv := Or.inl k_law_trim_law_at_here) (hd := d_law_at_here) (hcd := dc_law_at_here)) (je_ix ix_seq r2_idx (je_var (i := 2) (hN := n_law_trim_2) (hv := Or.inl k_law_trim_law_full) (hd := d_law_full) (hcd := dc_law_full)) (je_int))) (jd_cons (je_b1f call_tuple_of c1_tup (je_list (jl_sl (je_var (i := 1) (hN := n_law_trim_1) (hv := Or.inr (Or.inl k_law_trim_law_some_here)) (hd := d_law_some_here) (hcd := dc_law_some_here)) (jo_some (je_ix ix_seq r2_idx (je_var (i := 2) (hN := n_law_trim_2) (hv := Or.inl k_law_trim_law_full) (hd := d_law_full) (hcd := dc_law_full)) (je_int))) (jo_some (je_op op_addL r2_add (je_ix ix_seq r2_idx (je_var (i := 2) (hN := n_law_trim_2) (hv := Or.inl k_law_trim_law_full) (hd := d_law_full) (hcd := dc_law_full)) (je_un un_neg r1_neg (je_int))) (je_int))))) B.b_tuple (hg := k_law_trim_tuple) (hv := bb_tuple) (hn := nn_tuple) (hdb := d_tuple)) (jd_nil)))))))
def sc_law_at : Scope := { kind := .function, names := [("_law_x", .«local»), ("_law_k", .«local»), ("len", .globalImplicit)], isGenerator := false, isCoroutine := false, more := [] }
def N_law_at : List Str := ["_law_x", "_law_k"]
theorem hs_law_at : defScope S60 = sc_law_at := by rfl
theorem S_law_at : FnScope N_law_at ["_law_x", "_law_k"] sc_law_at := ⟨rfl, rfl, rfl, by decide +kernel, rfl, by decide +kernel, by decide +kernel⟩
theorem n_law_at_0 : N_law_at[0]? = some ("_law_x" : Str) := rfl
theorem n_law_at_1 : N_law_at[1]? = some ("_law_k" : Str) := rfl
theorem k_law_at_law_k : sc_law_at.names.lookup ("_law_k" : Str) = some NameKind.«local» := by decide +kernel
theorem k_law_at_law_x : sc_law_at.names.lookup ("_law_x" : Str) = some NameKind.«local» := by decide +kernel
theorem k_law_at_len : sc_law_at.names.lookup ("len" : Str) = some NameKind.globalImplicit := by decide +kernel
theorem ok_law_at {P : Program} {w : World} {K : PySem.W.Frag} {mg : Str → Option Value} {base : Heap} (B : Bx K mg) : OkFn P w K mg base "_law_at" ["_law_x", "_law_k"] 1 F_law_at :=
  okfn N_law_at (n := 2) rfl g_law_at B.at_law_at hs_law_at S_law_at fun f cdv A outer s H E hr => jss_one (js_ret (je_ite (jt_chain op_le r2_le op_lt r2_lt (je_int) (je_op op_sub r2_sub (je_var (i := 1) (hN := n_law_at_1) (hv := Or.inl k_law_at_law_k) (hd := d_law_k) (hcd := dc_law_k)) (je_ix ix_seq r2_idx (je_var (i := 0) (hN := n_law_at_0) (hv := Or.inl k_law_at_law_x) (hd := d_law_x) (hcd := dc_law_x)) (je_int))) (je_b1 call_len_seq c1_len (je_ix ix_seq r2_idx (je_var (i := 0) (hN := n_law_at_0) (hv := Or.inl k_law_at_law_x) (hd := d_law_x) (hcd := dc_law_x)) (je_int)) B.b_len (hg := k_law_at_len) (hv := bb_len) (hn := nn_len) (hdb := d_len))) (je_ix ix_seq r2_idx (je_ix ix_seq r2_idx (je_var (i := 0) (hN := n_law_at_0) (hv := Or.inl k_law_at_law_x) (hd := d_law_x) (hcd := dc_law_x)) (je_int)) (je_op op_sub r2_sub (je_var (i := 1) (hN := n_law_at_1) (hv := Or.inl k_law_at_law_k) (hd := d_law_k) (hcd := dc_law_k)) (je_ix ix_seq r2_idx (je_var (i := 0) (hN := n_law_at_0) (hv := Or.inl k_law_at_law_x) (hd := d_law_x) (hcd := dc_law_x)) (je_int)))) (je_tup (jd_cons (je_int) (jd_cons (je_int) (jd_nil))))))
def sc_law_times : Scope := { kind := .function, names := [("_law_x", .«local»), ("_law_y", .«local»), ("_law_ones", .«local»), ("_law_under", .cell), ("_law_twos", .«local»), ("_law_below", .cell), ("_law_some_here", .«local»), ("_law_i", .«local»), ("_law_j", .«local»), ("_law_ints", .globalImplicit), ("len", .globalImplicit), ("range", .globalImplicit), ("_law_trim", .globalImplicit)], isGenerator := false, isCoroutine := false, more := [("fast", .str "_law_x"), ("fast", .str "_law_y"), ("fast", .str "_law_ones"), ("fast", .str "_law_under"), ("fast", .str "_law_twos"), ("fast", .str "_law_below"), ("fast", .str "_law_some_here"), ("fast", .str "_law_i"), ("fast", .str "_law_j"), ("fast", .str "_law_each")] }
def N_law_times : List Str := ["_law_x", "_law_y", "_law_ones", "_law_under", "_law_twos", "_law_below", "_law_some_here", "_law_i", "_law_j", "_law_each"]
theorem hs_law_times : defScope S61 = sc_law_times := by rfl
theorem S_law_times : FnScope N_law_times ["_law_x", "_law_y"] sc_law_times := ⟨rfl, rfl, rfl, by decide +kernel, rfl, by decide +kernel, by decide +kernel⟩
theorem n_law_times_0 : N_law_times[0]? = some ("_law_x" : Str) := rfl
theorem n_law_times_1 : N_law_times[1]? = some ("_law_y" : Str) := rfl
theorem n_law_times_2 : N_law_times[2]? = some ("_law_ones" : Str) := rfl
theorem n_law_times_3 : N_law_times[3]? = some ("_law_under" : Str) := rfl
theorem n_law_times_4 : N_law_times[4]? = some ("_law_twos" : Str) := rfl
theorem n_law_times_5 : N_law_times[5]? = some ("_law_below" : Str) := rfl
theorem n_law_times_6 : N_law_times[6]? = some ("_law_some_here" : Str) := rfl
theorem n_law_times_7 : N_law_times[7]? = some ("_law_i" : Str) := rfl
theorem n_law_times_8 : N_law_times[8]? = some ("_law_j" : Str) := rfl
theorem n_law_times_9 : N_law_times[9]? = some ("_law_each" : Str) := rfl
theorem k_law_times_law_below : sc_law_times.names.lookup ("_law_below" : Str) = some NameKind.cell := by decide +kernel
theorem k_law_times_law_i : sc_law_times.names.lookup ("_law_i" : Str) = some NameKind.«local» := by decide +kernel
theorem k_law_times_law_ints : sc_law_times.names.lookup ("_law_ints" : Str) = some NameKind.globalImplicit := by decide +kernel
theorem k_law_times_law_j : sc_law_times.names.lookup ("_law_j" : Str) = some NameKind.«local» := by decide +kernel
theorem k_law_times_law_ones : sc_law_times.names.lookup ("_law_ones" : Str) = some NameKind.«local» := by decide +kernel
theorem k_law_times_law_some_here : sc_law_times.names.lookup ("_law_some_here" : Str) = some NameKind.«local» := by decide +kernel
theorem k_law_times_law_trim : sc_law_times.names.lookup ("_law_trim" : Str) = some NameKind.globalImplicit := by decide +kernel
theorem k_law_times_law_twos : sc_law_times.names.lookup ("_law_twos" : Str) = some NameKind.«local» := by decide +kernel
theorem k_law_times_law_under : sc_law_times.names.lookup ("_law_under" : Str) = some NameKind.cell := by decide +kernel
theorem k_law_times_law_x : sc_law_times.names.lookup ("_law_x" : Str) = some NameKind.«local» := by decide +kernel
theorem k_law_times_law_y : sc_law_times.names.lookup ("_law_y" : Str) = some NameKind.«local» := by decide +kernel
theorem k_law_times_len : sc_law_times.names.lookup ("len" : Str) = some NameKind.globalImplicit := by decide +kernel
theorem k_law_times_range : sc_law_times.names.lookup ("range" : Str) = some NameKind.globalImplicit := by decide +kernel
abbrev cs_law_times_0 : Scope := { kind := .function, names := [(".0", .«local»), ("_law_each", .«local»), ("_law_low", .globalImplicit), ("_law_below", .free), ("_law_under", .free)], isGenerator := false, isCoroutine := false, more := [] }
theorem bo_law_times_0 : BlkOk N_law_times sc_law_times cs_law_times_0 [("_law_each", 9)] := blkOk_by (by decide +kernel)
theorem kc_law_times_0_law_below : (relS cs_law_times_0 sc_law_times).names.lookup ("_law_below" : Str) = some NameKind.cell := by decide +kernel
theorem kc_law_times_0_law_each : (relS cs_law_times_0 sc_law_times).names.lookup ("_law_each" : Str) = some NameKind.«local» := by decide +kernel
theorem kc_law_times_0_law_low : (relS cs_law_times_0 sc_law_times).names.lookup ("_law_low" : Str) = some NameKind.globalImplicit := by decide +kernel
theorem kc_law_times_0_law_under : (relS cs_law_times_0 sc_law_times).names.lookup ("_law_under" : Str) = some NameKind.cell := by decide +kernel
theorem ok_law_times {P : Program} {w : World} {K : PySem.W.Frag} {mg : Str → Option Value} {base : Heap} (B : Bx K mg) : OkFn P w K mg base "_law_times" ["_law_x", "_law_y"] 3 F_law_times :=
  okfn N_law_times (n := 10) rfl g_law_times B.at_law_times hs_law_times S_law_times fun f cdv A outer s H E hr => jss_cons (js_if (jw_t (jw_or (jt_cmp (op_eqP hr.units) r2_eq (je_ix ix_seq r2_idx (je_var (i := 0) (hN := n_law_times_0) (hv := Or.inl k_law_times_law_x) (hd := d_law_x) (hcd := dc_law_x)) (je_int)) (je_tup (jd_nil)) (nomark _)) (jw_or1 (jt_cmp (op_eqP hr.units) r2_eq (je_ix ix_seq r2_idx (je_var (i := 1) (hN := n_law_times_1) (hv := Or.inl k_law_times_law_y) (hd := d_law_y) (hcd := dc_law_y)) (je_int)) (je_tup (jd_nil)) (nomark _))))) (jss_one (js_ret (je_tup (jd_cons (je_int) (jd_cons (je_tup (jd_nil)) (jd_nil)))))) (jss_nil))
      (jss_cons (js_asg (je_call (ok_law_ints B) (hr.mono (by decide)) (ja_cons (je_ix ix_seq r2_idx (je_var (i := 0) (hN := n_law_times_0) (hv := Or.inl k_law_times_law_x) (hd := d_law_x) (hcd := dc_law_x)) (je_int)) (ja_nil)) (hg := k_law_times_law_ints) (hdb := d_law_ints)) (jg_tup (jgs_cons (jg_name (i := 2) S_law_times.nd (hi := n_law_times_2) (hx := Or.inl k_law_times_law_ones) (hf := Or.inl rfl)) (jgs_cons (jg_name (i := 3) S_law_times.nd (hi := n_law_times_3) (hx := Or.inr k_law_times_law_under) (hf := Or.inl rfl)) (jgs_nil)))))
      (jss_cons (js_asg (je_call (ok_law_ints B) (hr.mono (by decide)) (ja_cons (je_ix ix_seq r2_idx (je_var (i := 1) (hN := n_law_times_1) (hv := Or.inl k_law_times_law_y) (hd := d_law_y) (hcd := dc_law_y)) (je_int)) (ja_nil)) (hg := k_law_times_law_ints) (hdb := d_law_ints)) (jg_tup (jgs_cons (jg_name (i := 4) S_law_times.nd (hi := n_law_times_4) (hx := Or.inl k_law_times_law_twos) (hf := Or.inl rfl)) (jgs_cons (jg_name (i := 5) S_law_times.nd (hi := n_law_times_5) (hx := Or.inr k_law_times_law_below) (hf := Or.inl rfl)) (jgs_nil)))))
      (jss_cons (js_new (i := 6) S_law_times.nd (jl_rep (jl_disp (jd_cons (je_int) (jd_nil))) (je_op op_sub r2_sub (je_op op_addL r2_add (je_b1 call_len_seq c1_len (je_var (i := 2) (hN := n_law_times_2) (hv := Or.inl k_law_times_law_ones) (hd := d_law_ones) (hcd := dc_law_ones)) B.b_len (hg := k_law_times_len) (hv := bb_len) (hn := nn_len) (hdb := d_len)) (je_b1 call_len_seq c1_len (je_var (i := 4) (hN := n_law_times_4) (hv := Or.inl k_law_times_law_twos) (hd := d_law_twos) (hcd := dc_law_twos)) B.b_len (hg := k_law_times_len) (hv := bb_len) (hn := nn_len) (hdb := d_len))) (je_int))) (hi := n_law_times_6) (hx := Or.inl k_law_times_law_some_here) (hf := Or.inl rfl))
      (jss_cons (js_for PassesOwn.never (jx_r1 (je_b1 call_len_seq c1_len (je_var (i := 2) (hN := n_law_times_2) (hv := Or.inl k_law_times_law_ones) (hd := d_law_ones) (hcd := dc_law_ones)) B.b_len (hg := k_law_times_len) (hv := bb_len) (hn := nn_len) (hdb := d_len)) B.b_range (hg := k_law_times_range)) (jg_name (i := 7) S_law_times.nd (hi := n_law_times_7) (hx := Or.inl k_law_times_law_i) (hf := Or.inl rfl)) (jss_one (js_for PassesOwn.never (jx_r1 (je_b1 call_len_seq c1_len (je_var (i := 4) (hN := n_law_times_4) (hv := Or.inl k_law_times_law_twos) (hd := d_law_twos) (hcd := dc_law_twos)) B.b_len (hg := k_law_times_len) (hv := bb_len) (hn := nn_len) (hdb := d_len)) B.b_range (hg := k_law_times_range)) (jg_name (i := 8) S_law_times.nd (hi := n_law_times_8) (hx := Or.inl k_law_times_law_j) (hf := Or.inl rfl)) (jss_one (js_asg (je_op op_addL r2_add (je_mix (i := 6) (je_op op_addL r2_add (je_var (i := 7) (hN := n_law_times_7) (hv := Or.inl k_law_times_law_i) (hd := d_law_i) (hcd := dc_law_i)) (je_var (i := 8) (hN := n_law_times_8) (hv := Or.inl k_law_times_law_j) (hd := d_law_j) (hcd := dc_law_j))) (hN := n_law_times_6) (hv := Or.inl k_law_times_law_some_here) (hd := d_law_some_here) (hcd := dc_law_some_here)) (je_op op_mulW r2_mul (je_ix ix_seq r2_idx (je_var (i := 2) (hN := n_law_times_2) (hv := Or.inl k_law_times_law_ones) (hd := d_law_ones) (hcd := dc_law_ones)) (je_var (i := 7) (hN := n_law_times_7) (hv := Or.inl k_law_times_law_i) (hd := d_law_i) (hcd := dc_law_i))) (je_ix ix_seq r2_idx (je_var (i := 4) (hN := n_law_times_4) (hv := Or.inl k_law_times_law_twos) (hd := d_law_twos) (hcd := dc_law_twos)) (je_var (i := 8) (hN := n_law_times_8) (hv := Or.inl k_law_times_law_j) (hd := d_law_j) (hcd := dc_law_j))))) (jg_mut (i := 6) (je_op op_addL r2_add (je_var (i := 7) (hN := n_law_times_7) (hv := Or.inl k_law_times_law_i) (hd := d_law_i) (hcd := dc_law_i)) (je_var (i := 8) (hN := n_law_times_8) (hv := Or.inl k_law_times_law_j) (hd := d_law_j) (hcd := dc_law_j))) (hN := n_law_times_6) (hv := Or.inl k_law_times_law_some_here) (hd := d_law_some_here) (hcd := dc_law_some_here)))))))
      (jss_one (js_ret (je_call (ok_law_trim B) (hr.mono (by decide)) (ja_cons (je_op op_addL r2_add (je_ix ix_seq r2_idx (je_var (i := 0) (hN := n_law_times_0) (hv := Or.inl k_law_times_law_x) (hd := d_law_x) (hcd := dc_law_x)) (je_int)) (je_ix ix_seq r2_idx (je_var (i := 1) (hN := n_law_times_1) (hv := Or.inl k_law_times_law_y) (hd := d_law_y) (hcd := dc_law_y)) (je_int))) (ja_cons (je_list (jl_lc (j := 9) (x := "_law_each") S_law_times.nd (jx_list (je_frz (i := 6) (hN := n_law_times_6) (hv := Or.inl k_law_times_law_some_here) (hd := d_law_some_here) (hcd := dc_law_some_here))) bo_law_times_0 (fun _ _ _ _ _ => ji_nil) (fun _ _ _ _ _ => je_call (ok_law_low B) (hr.mono (by decide)) (ja_cons (je_var (i := 9) (hN := n_law_times_9) (hv := Or.inl kc_law_times_0_law_each) (hd := d_law_each) (hcd := dc_law_each)) (ja_cons (je_op op_mulW r2_mul (je_var (i := 3) (hN := n_law_times_3) (hv := Or.inr (Or.inl kc_law_times_0_law_under)) (hd := d_law_under) (hcd := dc_law_under)) (je_var (i := 5) (hN := n_law_times_5) (hv := Or.inr (Or.inl kc_law_times_0_law_below)) (hd := d_law_below) (hcd := dc_law_below))) (ja_nil))) (hg := kc_law_times_0_law_low) (hdb := d_law_low)) (hg := fun _ _ _ _ _ => pg_name S_law_times.nd n_law_times_9 (Or.inl kc_law_times_0_law_each) (Or.inr kc_law_times_0_law_each)))) (ja_nil))) (hg := k_law_times_law_trim) (hdb := d_law_trim))))))))
def sc_law_sum : Scope := { kind := .function, names := [("_law_x", .cell), ("_law_y", .cell), ("_law_at_here", .«local»), ("_law_far", .«local»), ("min", .globalImplicit), ("max", .globalImplicit), ("len", .globalImplicit), ("_law_trim", .globalImplicit), ("range", .globalImplicit)], isGenerator := false, isCoroutine := false, more := [("fast", .str "_law_x"), ("fast", .str "_law_y"), ("fast", .str "_law_at_here"), ("fast", .str "_law_far"), ("fast", .str "_law_k")] }
def N_law_sum : List Str := ["_law_x", "_law_y", "_law_at_here", "_law_far", "_law_k"]
theorem hs_law_sum : defScope S62 = sc_law_sum := by rfl
theorem S_law_sum : FnScope N_law_sum ["_law_x", "_law_y"] sc_law_sum := ⟨rfl, rfl, rfl, by decide +kernel, rfl, by decide +kernel, by decide +kernel⟩
theorem n_law_sum_0 : N_law_sum[0]? = some ("_law_x" : Str) := rfl
theorem n_law_sum_1 : N_law_sum[1]? = some ("_law_y" : Str) := rfl
theorem n_law_sum_2 : N_law_sum[2]? = some ("_law_at_here" : Str) := rfl
theorem n_law_sum_3 : N_law_sum[3]? = some ("_law_far" : Str) := rfl
theorem n_law_sum_4 : N_law_sum[4]? = some ("_law_k" : Str) := rfl
theorem k_law_sum_law_at_here : sc_law_sum.names.lookup ("_law_at_here" : Str) = some NameKind.«local» := by decide +kernel
theorem k_law_sum_law_far : sc_law_sum.names.lookup ("_law_far" : Str) = some NameKind.«local» := by decide +kernel
theorem k_law_sum_law_trim : sc_law_sum.names.lookup ("_law_trim" : Str) = some NameKind.globalImplicit := by decide +kernel
theorem k_law_sum_law_x : sc_law_sum.names.lookup ("_law_x" : Str) = some NameKind.cell := by decide +kernel
theorem k_law_sum_law_y : sc_law_sum.names.lookup ("_law_y" : Str) = some NameKind.cell := by decide +kernel
theorem k_law_sum_len : sc_law_sum.names.lookup ("len" : Str) = some NameKind.globalImplicit := by decide +kernel
theorem k_law_sum_max : sc_law_sum.names.lookup ("max" : Str) = some NameKind.globalImplicit := by decide +kernel
theorem k_law_sum_min : sc_law_sum.names.lookup ("min" : Str) = some NameKind.globalImplicit := by decide +kernel
theorem k_law_sum_range : sc_law_sum.names.lookup ("range" : Str) = some NameKind.globalImplicit := by decide +kernel
abbrev cs_law_sum_0 : Scope := { kind := .function, names := [(".0", .«local»), ("_law_k", .«local»), ("_law_plus", .globalImplicit), ("_law_at", .globalImplicit), ("_law_x", .free), ("_law_y", .free)], isGenerator := false, isCoroutine := false, more := [] }
theorem bo_law_sum_0 : BlkOk N_law_sum sc_law_sum cs_law_sum_0 [("_law_k", 4)] := blkOk_by (by decide +kernel)
theorem kc_law_sum_0_law_at : (relS cs_law_sum_0 sc_law_sum).names.lookup ("_law_at" : Str) = some NameKind.globalImplicit := by decide +kernel
theorem kc_law_sum_0_law_k : (relS cs_law_sum_0 sc_law_sum).names.lookup ("_law_k" : Str) = some NameKind.«local» := by decide +kernel
theorem kc_law_sum_0_law_plus : (relS cs_law_sum_0 sc_law_sum).names.lookup ("_law_plus" : Str) = some NameKind.globalImplicit := by decide +kernel
theorem kc_law_sum_0_law_x : (relS cs_law_sum_0 sc_law_sum).names.lookup ("_law_x" : Str) = some NameKind.cell := by decide +kernel
theorem kc_law_sum_0_law_y : (relS cs_law_sum_0 sc_law_sum).names.lookup ("_law_y" : Str) = some NameKind.cell := by decide +kernel
theorem ok_law_sum {P : Program} {w : World} {K : PySem.W.Frag} {mg : Str → Option Value} {base : Heap} (B : Bx K mg) : OkFn P w K mg base "_law_sum" ["_law_x", "_law_y"] 4 F_law_sum :=
  okfn N_law_sum (n := 5) rfl g_law_sum B.at_law_sum hs_law_sum S_law_sum fun f cdv A outer s H E hr => jss_cons (js_if (jw_t (jw_or (jt_cmp (op_eqP hr.units) r2_eq (je_ix ix_seq r2_idx (je_var (i := 0) (hN := n_law_sum_0) (hv := Or.inr (Or.inl k_law_sum_law_x)) (hd := d_law_x) (hcd := dc_law_x)) (je_int)) (je_tup (jd_nil)) (nomark _)) (jw_or1 (jt_cmp (op_eqP hr.units) r2_eq (je_ix ix_seq r2_idx (je_var (i := 1) (hN := n_law_sum_1) (hv := Or.inr (Or.inl k_law_sum_law_y)) (hd := d_law_y) (hcd := dc_law_y)) (je_int)) (je_tup (jd_nil)) (nomark _))))) (jss_one (js_ret (je_ite (jt_cmp (op_eqP hr.units) r2_eq (je_ix ix_seq r2_idx (je_var (i := 1) (hN := n_law_sum_1) (hv := Or.inr (Or.inl k_law_sum_law_y)) (hd := d_law_y) (hcd := dc_law_y)) (je_int)) (je_tup (jd_nil)) (nomark _)) (je_var (i := 0) (hN := n_law_sum_0) (hv := Or.inr (Or.inl k_law_sum_law_x)) (hd := d_law_x) (hcd := dc_law_x)) (je_var (i := 1) (hN := n_law_sum_1) (hv := Or.inr (Or.inl k_law_sum_law_y)) (hd := d_law_y) (hcd := dc_law_y))))) (jss_nil))
      (jss_cons (js_par (i := 2) (j := 3) S_law_sum.nd (je_b2 (call_min2 rfl) c2_min (je_ix ix_seq r2_idx (je_var (i := 0) (hN := n_law_sum_0) (hv := Or.inr (Or.inl k_law_sum_law_x)) (hd := d_law_x) (hcd := dc_law_x)) (je_int)) (je_ix ix_seq r2_idx (je_var (i := 1) (hN := n_law_sum_1) (hv := Or.inr (Or.inl k_law_sum_law_y)) (hd := d_law_y) (hcd := dc_law_y)) (je_int)) B.b_min (hg := k_law_sum_min) (hv := bb_min) (hn := nn_min) (hdb := d_min)) (je_b2 (call_max2 rfl) c2_max (je_op op_addL r2_add (je_ix ix_seq r2_idx (je_var (i := 0) (hN := n_law_sum_0) (hv := Or.inr (Or.inl k_law_sum_law_x)) (hd := d_law_x) (hcd := dc_law_x)) (je_int)) (je_b1 call_len_seq c1_len (je_ix ix_seq r2_idx (je_var (i := 0) (hN := n_law_sum_0) (hv := Or.inr (Or.inl k_law_sum_law_x)) (hd := d_law_x) (hcd := dc_law_x)) (je_int)) B.b_len (hg := k_law_sum_len) (hv := bb_len) (hn := nn_len) (hdb := d_len))) (je_op op_addL r2_add (je_ix ix_seq r2_idx (je_var (i := 1) (hN := n_law_sum_1) (hv := Or.inr (Or.inl k_law_sum_law_y)) (hd := d_law_y) (hcd := dc_law_y)) (je_int)) (je_b1 call_len_seq c1_len (je_ix ix_seq r2_idx (je_var (i := 1) (hN := n_law_sum_1) (hv := Or.inr (Or.inl k_law_sum_law_y)) (hd := d_law_y) (hcd := dc_law_y)) (je_int)) B.b_len (hg := k_law_sum_len) (hv := bb_len) (hn := nn_len) (hdb := d_len))) B.b_max (hg := k_law_sum_max) (hv := bb_max) (hn := nn_max) (hdb := d_max)) (hi := n_law_sum_2) (hj := n_law_sum_3) (hx := k_law_sum_law_at_here) (hy := k_law_sum_law_far))
      (jss_one (js_ret (je_call (ok_law_trim B) (hr.mono (by decide)) (ja_cons (je_var (i := 2) (hN := n_law_sum_2) (hv := Or.inl k_law_sum_law_at_here) (hd := d_law_at_here) (hcd := dc_law_at_here)) (ja_cons (je_list (jl_lc (j := 4) (x := "_law_k") S_law_sum.nd (jx_r2 (je_var (i := 2) (hN := n_law_sum_2) (hv := Or.inl k_law_sum_law_at_here) (hd := d_law_at_here) (hcd := dc_law_at_here)) (je_var (i := 3) (hN := n_law_sum_3) (hv := Or.inl k_law_sum_law_far) (hd := d_law_far) (hcd := dc_law_far)) B.b_range (hg := k_law_sum_range)) bo_law_sum_0 (fun _ _ _ _ _ => ji_nil) (fun _ _ _ _ _ => je_call (ok_law_plus B) (hr.mono (by decide)) (ja_cons (je_call (ok_law_at B) (hr.mono (by decide)) (ja_cons (je_var (i := 0) (hN := n_law_sum_0) (hv := Or.inr (Or.inl kc_law_sum_0_law_x)) (hd := d_law_x) (hcd := dc_law_x)) (ja_cons (je_var (i := 4) (hN := n_law_sum_4) (hv := Or.inl kc_law_sum_0_law_k) (hd := d_law_k) (hcd := dc_law_k)) (ja_nil))) (hg := kc_law_sum_0_law_at) (hdb := d_law_at)) (ja_cons (je_call (ok_law_at B) (hr.mono (by decide)) (ja_cons (je_var (i := 1) (hN := n_law_sum_1) (hv := Or.inr (Or.inl kc_law_sum_0_law_y)) (hd := d_law_y) (hcd := dc_law_y)) (ja_cons (je_var (i := 4) (hN := n_law_sum_4) (hv := Or.inl kc_law_sum_0_law_k) (hd := d_law_k) (hcd := dc_law_k)) (ja_nil))) (hg := kc_law_sum_0_law_at) (hdb := d_law_at)) (ja_nil))) (hg := kc_law_sum_0_law_plus) (hdb := d_law_plus)) (hg := fun _ _ _ _ _ => pg_name S_law_sum.nd n_law_sum_4 (Or.inl kc_law_sum_0_law_k) (Or.inr kc_law_sum_0_law_k)))) (ja_nil))) (hg := k_law_sum_law_trim) (hdb := d_law_trim)))))
def sc_law_scaled : Scope := { kind := .function, names := [("_law_x", .«local»), ("_law_by", .cell), ("_law_trim", .globalImplicit)], isGenerator := false, isCoroutine := false, more := [("fast", .str "_law_x"), ("fast", .str "_law_by"), ("fast", .str "_law_each")] }
def N_law_scaled : List Str := ["_law_x", "_law_by", "_law_each"]
theorem hs_law_scaled : defScope S63 = sc_law_scaled := by rfl
theorem S_law_scaled : FnScope N_law_scaled ["_law_x", "_law_by"] sc_law_scaled := ⟨rfl, rfl, rfl, by decide +kernel, rfl, by decide +kernel, by decide +kernel⟩
theorem n_law_scaled_0 : N_law_scaled[0]? = some ("_law_x" : Str) := rfl
theorem n_law_scaled_1 : N_law_scaled[1]? = some ("_law_by" : Str) := rfl
theorem n_law_scaled_2 : N_law_scaled[2]? = some ("_law_each" : Str) := rfl
theorem k_law_scaled_law_trim : sc_law_scaled.names.lookup ("_law_trim" : Str) = some NameKind.globalImplicit := by decide +kernel
theorem k_law_scaled_law_x : sc_law_scaled.names.lookup ("_law_x" : Str) = some NameKind.«local» := by decide +kernel
abbrev cs_law_scaled_0 : Scope := { kind := .function, names := [(".0", .«local»), ("_law_each", .«local»), ("_law_prod", .globalImplicit), ("_law_by", .free)], isGenerator := false, isCoroutine := false, more := [] }
theorem bo_law_scaled_0 : BlkOk N_law_scaled sc_law_scaled cs_law_scaled_0 [("_law_each", 2)] := blkOk_by (by decide +kernel)
theorem kc_law_scaled_0_law_by : (relS cs_law_scaled_0 sc_law_scaled).names.lookup ("_law_by" : Str) = some NameKind.cell := by decide +kernel
theorem kc_law_scaled_0_law_each : (relS cs_law_scaled_0 sc_law_scaled).names.lookup ("_law_each" : Str) = some NameKind.«local» := by decide +kernel
theorem kc_law_scaled_0_law_prod : (relS cs_law_scaled_0 sc_law_scaled).names.lookup ("_law_prod" : Str) = some NameKind.globalImplicit := by decide +kernel
theorem ok_law_scaled {P : Program} {w : World} {K : PySem.W.Frag} {mg : Str → Option Value} {base : Heap} (B : Bx K mg) : OkFn P w K mg base "_law_scaled" ["_law_x", "_law_by"] 4 F_law_scaled :=
  okfn N_law_scaled (n := 3) rfl g_law_scaled B.at_law_scaled hs_law_scaled S_law_scaled fun f cdv A outer s H E hr => jss_one (js_ret (je_call (ok_law_trim B) (hr.mono (by decide)) (ja_cons (je_ix ix_seq r2_idx (je_var (i := 0) (hN := n_law_scaled_0) (hv := Or.inl k_law_scaled_law_x) (hd := d_law_x) (hcd := dc_law_x)) (je_int)) (ja_cons (je_list (jl_lc (j := 2) (x := "_law_each") S_law_scaled.nd (jx_tup (je_ix ix_seq r2_idx (je_var (i := 0) (hN := n_law_scaled_0) (hv := Or.inl k_law_scaled_law_x) (hd := d_law_x) (hcd := dc_law_x)) (je_int))) bo_law_scaled_0 (fun _ _ _ _ _ => ji_nil) (fun _ _ _ _ _ => je_call (ok_law_prod B) (hr.mono (by decide)) (ja_cons (je_var (i := 2) (hN := n_law_scaled_2) (hv := Or.inl kc_law_scaled_0_law_each) (hd := d_law_each) (hcd := dc_law_each)) (ja_cons (je_var (i := 1) (hN := n_law_scaled_1) (hv := Or.inr (Or.inl kc_law_scaled_0_law_by)) (hd := d_law_by) (hcd := dc_law_by)) (ja_nil))) (hg := kc_law_scaled_0_law_prod) (hdb := d_law_prod)) (hg := fun _ _ _ _ _ => pg_name S_law_scaled.nd n_law_scaled_2 (Or.inl kc_law_scaled_0_law_each) (Or.inr kc_law_scaled_0_law_each)))) (ja_nil))) (hg := k_law_scaled_law_trim) (hdb := d_law_trim)))
def sc_law_less : Scope := { kind := .function, names := [("_law_x", .«local»), ("_law_y", .«local»), ("_law_sum", .globalImplicit), ("_law_scaled", .globalImplicit)], isGenerator := false, isCoroutine := false, more := [] }
def N_law_less : List Str := ["_law_x", "_law_y"]
theorem hs_law_less : defScope S64 = sc_law_less := by rfl
theorem S_law_less : FnScope N_law_less ["_law_x", "_law_y"] sc_law_less := ⟨rfl, rfl, rfl, by decide +kernel, rfl, by decide +kernel, by decide +kernel⟩
theorem n_law_less_0 : N_law_less[0]? = some ("_law_x" : Str) := rfl
theorem n_law_less_1 : N_law_less[1]? = some ("_law_y" : Str) := rfl
theorem k_law_less_law_scaled : sc_law_less.names.lookup ("_law_scaled" : Str) = some NameKind.globalImplicit := by decide +kernel
theorem k_law_less_law_sum : sc_law_less.names.lookup ("_law_sum" : Str) = some NameKind.globalImplicit := by decide +kernel
theorem k_law_less_law_x : sc_law_less.names.lookup ("_law_x" : Str) = some NameKind.«local» := by decide +kernel
theorem k_law_less_law_y : sc_law_less.names.lookup ("_law_y" : Str) = some NameKind.«local» := by decide +kernel
theorem ok_law_less {P : Program} {w : World} {K : PySem.W.Frag} {mg : Str → Option Value} {base : Heap} (B : Bx K mg) : OkFn P w K mg base "_law_less" ["_law_x", "_law_y"] 5 F_law_less :=
  okfn N_law_less (n := 2) rfl g_law_less B.at_law_less hs_law_less S_law_less fun f cdv A outer s H E hr => jss_one (js_ret (je_call (ok_law_sum B) (hr.mono (by decide)) (ja_cons (je_var (i := 0) (hN := n_law_less_0) (hv := Or.inl k_law_less_law_x) (hd := d_law_x) (hcd := dc_law_x)) (ja_cons (je_call (ok_law_scaled B) (hr.mono (by decide)) (ja_cons (je_var (i := 1) (hN := n_law_less_1) (hv := Or.inl k_law_less_law_y) (hd := d_law_y) (hcd := dc_law_y)) (ja_cons (je_tup (jd_cons (je_un un_neg r1_neg (je_int)) (jd_cons (je_int) (jd_nil)))) (ja_nil))) (hg := k_law_less_law_scaled) (hdb := d_law_scaled)) (ja_nil))) (hg := k_law_less_law_sum) (hdb := d_law_sum)))
end Bs
namespace Bs
open PySem PySem.Spec PyProof.Rows L2
def sc_law_moved : Scope := { kind := .function, names := [("_law_x", .«local»), ("_law_far", .«local»)], isGenerator := false, isCoroutine := false, more := [] }
def N_law_moved : List Str := ["_law_x", "_law_far"]
theorem hs_law_moved : defScope S65 = sc_law_moved := by rfl
theorem S_law_moved : FnScope N_law_moved ["_law_x", "_law_far"] sc_law_moved := ⟨rfl, rfl, rfl, by decide +kernel, rfl, by decide +kernel, by decide +kernel⟩
theorem n_law_moved_0 : N_law_moved[0]? = some ("_law_x" : Str) := rfl
theorem n_law_moved_1 : N_law_moved[1]? = some ("_law_far" : Str) := rfl
theorem k_law_moved_law_far : sc_law_moved.names.lookup ("_law_far" : Str) = some NameKind.«local» := by decide +kernel
theorem k_law_moved_law_x : sc_law_moved.names.lookup ("_law_x" : Str) = some NameKind.«local» := by decide +kernel
theorem ok_law_moved {P : Program} {w : World} {K : PySem.W.Frag} {mg : Str → Option Value} {base : Heap} (B : Bx K mg) : OkFn P w K mg base "_law_moved" ["_law_x", "_law_far"] 1 F_law_moved :=
  okfn N_law_moved (n := 2) rfl g_law_moved B.at_law_moved hs_law_moved S_law_moved fun f cdv A outer s H E hr => jss_one (js_ret (je_ite (jt_cmp (op_neP hr.units) r2_ne (je_ix ix_seq r2_idx (je_var (i := 0) (hN := n_law_moved_0) (hv := Or.inl k_law_moved_law_x) (hd := d_law_x) (hcd := dc_law_x)) (je_int)) (je_tup (jd_nil)) (nomark _)) (je_tup (jd_cons (je_op op_addL r2_add (je_ix ix_seq r2_idx (je_var (i := 0) (hN := n_law_moved_0) (hv := Or.inl k_law_moved_law_x) (hd := d_law_x) (hcd := dc_law_x)) (je_int)) (je_var (i := 1) (hN := n_law_moved_1) (hv := Or.inl k_law_moved_law_far) (hd := d_law_far) (hcd := dc_law_far))) (jd_cons (je_ix ix_seq r2_idx (je_var (i := 0) (hN := n_law_moved_0) (hv := Or.inl k_law_moved_law_x) (hd := d_law_x) (hcd := dc_law_x)) (je_int)) (jd_nil)))) (je_var (i := 0) (hN := n_law_moved_0) (hv := Or.inl k_law_moved_law_x) (hd := d_law_x) (hcd := dc_law_x))))
def sc_law_half : Scope := { kind := .function, names := [("_law_x", .«local»), ("_law_odd", .«local»), ("_law_first", .«local»), ("int", .globalImplicit), ("_law_trim", .globalImplicit), ("list", .globalImplicit)], isGenerator := false, isCoroutine := false, more := [] }
def N_law_half : List Str := ["_law_x", "_law_odd", "_law_first"]
theorem hs_law_half : defScope S66 = sc_law_half := by rfl
theorem S_law_half : FnScope N_law_half ["_law_x", "_law_odd"] sc_law_half := ⟨rfl, rfl, rfl, by decide +kernel, rfl, by decide +kernel, by decide +kernel⟩
theorem n_law_half_0 : N_law_half[0]? = some ("_law_x" : Str) := rfl
theorem n_law_half_1 : N_law_half[1]? = some ("_law_odd" : Str) := rfl
theorem n_law_half_2 : N_law_half[2]? = some ("_law_first" : Str) := rfl
theorem k_law_half_law_first : sc_law_half.names.lookup ("_law_first" : Str) = some NameKind.«local» := by decide +kernel
theorem k_law_half_law_odd : sc_law_half.names.lookup ("_law_odd" : Str) = some NameKind.«local» := by decide +kernel
theorem k_law_half_law_trim : sc_law_half.names.lookup ("_law_trim" : Str) = some NameKind.globalImplicit := by decide +kernel
theorem k_law_half_law_x : sc_law_half.names.lookup ("_law_x" : Str) = some NameKind.«local» := by decide +kernel
theorem k_law_half_int : sc_law_half.names.lookup ("int" : Str) = some NameKind.globalImplicit := by decide +kernel
theorem k_law_half_list : sc_law_half.names.lookup ("list" : Str) = some NameKind.globalImplicit := by decide +kernel
theorem ok_law_half {P : Program} {w : World} {K : PySem.W.Frag} {mg : Str → Option Value} {base : Heap} (B : Bx K mg) : OkFn P w K mg base "_law_half" ["_law_x", "_law_odd"] 2 F_law_half :=
  okfn N_law_half (n := 3) rfl g_law_half B.at_law_half hs_law_half S_law_half fun f cdv A outer s H E hr => jss_cons (js_set (i := 2) S_law_half.nd (je_op op_addL r2_add (je_ix ix_seq r2_idx (je_var (i := 0) (hN := n_law_half_0) (hv := Or.inl k_law_half_law_x) (hd := d_law_x) (hcd := dc_law_x)) (je_int)) (je_op op_mod r2_mod (je_b1f call_int1 c1_int (je_op op_addL r2_add (je_ix ix_seq r2_idx (je_var (i := 0) (hN := n_law_half_0) (hv := Or.inl k_law_half_law_x) (hd := d_law_x) (hcd := dc_law_x)) (je_int)) (je_var (i := 1) (hN := n_law_half_1) (hv := Or.inl k_law_half_law_odd) (hd := d_law_odd) (hcd := dc_law_odd))) B.b_int (hg := k_law_half_int) (hv := bb_int) (hn := nn_int) (hdb := d_int)) (je_int))) (hi := n_law_half_2) (hx := Or.inl k_law_half_law_first) (hf := Or.inl rfl))
      (jss_one (js_ret (je_call (ok_law_trim B) (hr.mono (by decide)) (ja_cons (je_op op_divNW r2_divN (je_op op_sub r2_sub (je_var (i := 2) (hN := n_law_half_2) (hv := Or.inl k_law_half_law_first) (hd := d_law_first) (hcd := dc_law_first)) (je_var (i := 1) (hN := n_law_half_1) (hv := Or.inl k_law_half_law_odd) (hd := d_law_odd) (hcd := dc_law_odd))) (je_int)) (ja_cons (je_list (jl_of (je_sl2 (je_ix ix_seq r2_idx (je_var (i := 0) (hN := n_law_half_0) (hv := Or.inl k_law_half_law_x) (hd := d_law_x) (hcd := dc_law_x)) (je_int)) (je_op op_sub r2_sub (je_var (i := 2) (hN := n_law_half_2) (hv := Or.inl k_law_half_law_first) (hd := d_law_first) (hcd := dc_law_first)) (je_ix ix_seq r2_idx (je_var (i := 0) (hN := n_law_half_0) (hv := Or.inl k_law_half_law_x) (hd := d_law_x) (hcd := dc_law_x)) (je_int)))) B.b_list (hg := k_law_half_list) (hv := bb_list))) (ja_nil))) (hg := k_law_half_law_trim) (hdb := d_law_trim))))
def sc_law_wide : Scope := { kind := .function, names := [("_law_x", .«local»), ("_law_some_here", .«local»), ("_law_each", .«local»), ("tuple", .globalImplicit)], isGenerator := false, isCoroutine := false, more := [] }
def N_law_wide : List Str := ["_law_x", "_law_some_here", "_law_each"]
theorem hs_law_wide : defScope S67 = sc_law_wide := by rfl
theorem S_law_wide : FnScope N_law_wide ["_law_x"] sc_law_wide := ⟨rfl, rfl, rfl, by decide +kernel, rfl, by decide +kernel, by decide +kernel⟩
theorem n_law_wide_0 : N_law_wide[0]? = some ("_law_x" : Str) := rfl
theorem n_law_wide_1 : N_law_wide[1]? = some ("_law_some_here" : Str) := rfl
theorem n_law_wide_2 : N_law_wide[2]? = some ("_law_each" : Str) := rfl
theorem k_law_wide_law_each : sc_law_wide.names.lookup ("_law_each" : Str) = some NameKind.«local» := by decide +kernel
theorem k_law_wide_law_some_here : sc_law_wide.names.lookup ("_law_some_here" : Str) = some NameKind.«local» := by decide +kernel
theorem k_law_wide_law_x : sc_law_wide.names.lookup ("_law_x" : Str) = some NameKind.«local» := by decide +kernel
theorem k_law_wide_tuple : sc_law_wide.names.lookup ("tuple" : Str) = some NameKind.globalImplicit := by decide +kernel
theorem ok_law_wide {P : Program} {w : World} {K : PySem.W.Frag} {mg : Str → Option Value} {base : Heap} (B : Bx K mg) : OkFn P w K mg base "_law_wide" ["_law_x"] 1 F_law_wide :=
  okfn N_law_wide (n := 3) rfl g_law_wide B.at_law_wide hs_law_wide S_law_wide fun f cdv A outer s H E hr => jss_cons (js_set (i := 1) S_law_wide.nd (je_list (jl_disp (jd_nil))) (hi := n_law_wide_1) (hx := Or.inl k_law_wide_law_some_here) (hf := Or.inl rfl))
      (jss_cons (js_for PassesOwn.never (jx_tup (je_ix ix_seq r2_idx (je_var (i := 0) (hN := n_law_wide_0) (hv := Or.inl k_law_wide_law_x) (hd := d_law_x) (hcd := dc_law_x)) (je_int))) (jg_name (i := 2) S_law_wide.nd (hi := n_law_wide_2) (hx := Or.inl k_law_wide_law_each) (hf := Or.inl rfl)) (jss_one (js_set (i := 1) S_law_wide.nd (je_op op_addL r2_add (je_var (i := 1) (hN := n_law_wide_1) (hv := Or.inl k_law_wide_law_some_here) (hd := d_law_some_here) (hcd := dc_law_some_here)) (je_list (jl_disp (jd_cons (je_var (i := 2) (hN := n_law_wide_2) (hv := Or.inl k_law_wide_law_each) (hd := d_law_each) (hcd := dc_law_each)) (jd_cons (je_tup (jd_cons (je_int) (jd_cons (je_int) (jd_nil)))) (jd_nil)))))) (hi := n_law_wide_1) (hx := Or.inl k_law_wide_law_some_here) (hf := Or.inl rfl))))
      (jss_one (js_ret (je_tup (jd_cons (je_op op_mulW r2_mul (je_int) (je_ix ix_seq r2_idx (je_var (i := 0) (hN := n_law_wide_0) (hv := Or.inl k_law_wide_law_x) (hd := d_law_x) (hcd := dc_law_x)) (je_int))) (jd_cons (je_b1f call_tuple_of c1_tup (je_list (jl_sl (je_var (i := 1) (hN := n_law_wide_1) (hv := Or.inl k_law_wide_law_some_here) (hd := d_law_some_here) (hcd := dc_law_some_here)) (jo_none) (jo_some (je_un un_neg r1_neg (je_int))))) B.b_tuple (hg := k_law_wide_tuple) (hv := bb_tuple) (hn := nn_tuple) (hdb := d_tuple)) (jd_nil)))))))
def sc_law_parted : Scope := { kind := .function, names := [("_law_pair", .«local»), ("_law_x", .«local»), ("_law_half", .globalImplicit), ("_law_times", .globalImplicit)], isGenerator := false, isCoroutine := false, more := [] }
def N_law_parted : List Str := ["_law_pair", "_law_x"]
theorem hs_law_parted : defScope S68 = sc_law_parted := by rfl
theorem S_law_parted : FnScope N_law_parted ["_law_pair", "_law_x"] sc_law_parted := ⟨rfl, rfl, rfl, by decide +kernel, rfl, by decide +kernel, by decide +kernel⟩
theorem n_law_parted_0 : N_law_parted[0]? = some ("_law_pair" : Str) := rfl
theorem n_law_parted_1 : N_law_parted[1]? = some ("_law_x" : Str) := rfl
theorem k_law_parted_law_half : sc_law_parted.names.lookup ("_law_half" : Str) = some NameKind.globalImplicit := by decide +kernel
theorem k_law_parted_law_pair : sc_law_parted.names.lookup ("_law_pair" : Str) = some NameKind.«local» := by decide +kernel
theorem k_law_parted_law_times : sc_law_parted.names.lookup ("_law_times" : Str) = some NameKind.globalImplicit := by decide +kernel
theorem k_law_parted_law_x : sc_law_parted.names.lookup ("_law_x" : Str) = some NameKind.«local» := by decide +kernel
theorem ok_law_parted {P : Program} {w : World} {K : PySem.W.Frag} {mg : Str → Option Value} {base : Heap} (B : Bx K mg) : OkFn P w K mg base "_law_parted" ["_law_pair", "_law_x"] 4 F_law_parted :=
  okfn N_law_parted (n := 2) rfl g_law_parted B.at_law_parted hs_law_parted S_law_parted fun f cdv A outer s H E hr => jss_one (js_ret (je_tup (jd_cons (je_call (ok_law_half B) (hr.mono (by decide)) (ja_cons (je_call (ok_law_times B) (hr.mono (by decide)) (ja_cons (je_ix ix_seq r2_idx (je_var (i := 0) (hN := n_law_parted_0) (hv := Or.inl k_law_parted_law_pair) (hd := d_law_pair) (hcd := dc_law_pair)) (je_int)) (ja_cons (je_var (i := 1) (hN := n_law_parted_1) (hv := Or.inl k_law_parted_law_x) (hd := d_law_x) (hcd := dc_law_x)) (ja_nil))) (hg := k_law_parted_law_times) (hdb := d_law_times)) (ja_cons (je_int) (ja_nil))) (hg := k_law_parted_law_half) (hdb := d_law_half)) (jd_cons (je_call (ok_law_half B) (hr.mono (by decide)) (ja_cons (je_call (ok_law_times B) (hr.mono (by decide)) (ja_cons (je_ix ix_seq r2_idx (je_var (i := 0) (hN := n_law_parted_0) (hv := Or.inl k_law_parted_law_pair) (hd := d_law_pair) (hcd := dc_law_pair)) (je_int)) (ja_cons (je_var (i := 1) (hN := n_law_parted_1) (hv := Or.inl k_law_parted_law_x) (hd := d_law_x) (hcd := dc_law_x)) (ja_nil))) (hg := k_law_parted_law_times) (hdb := d_law_times)) (ja_cons (je_int) (ja_nil))) (hg := k_law_parted_law_half) (hdb := d_law_half)) (jd_nil)))))
def sc_law_united : Scope := { kind := .function, names := [("_law_pair", .«local»), ("_law_two", .«local»), ("_law_sum", .globalImplicit), ("_law_times", .globalImplicit), ("_law_wide", .globalImplicit)], isGenerator := false, isCoroutine := false, more := [] }
def N_law_united : List Str := ["_law_pair", "_law_two"]
theorem hs_law_united : defScope S69 = sc_law_united := by rfl
theorem S_law_united : FnScope N_law_united ["_law_pair", "_law_two"] sc_law_united := ⟨rfl, rfl, rfl, by decide +kernel, rfl, by decide +kernel, by decide +kernel⟩
theorem n_law_united_0 : N_law_united[0]? = some ("_law_pair" : Str) := rfl
theorem n_law_united_1 : N_law_united[1]? = some ("_law_two" : Str) := rfl
theorem k_law_united_law_pair : sc_law_united.names.lookup ("_law_pair" : Str) = some NameKind.«local» := by decide +kernel
theorem k_law_united_law_sum : sc_law_united.names.lookup ("_law_sum" : Str) = some NameKind.globalImplicit := by decide +kernel
theorem k_law_united_law_times : sc_law_united.names.lookup ("_law_times" : Str) = some NameKind.globalImplicit := by decide +kernel
theorem k_law_united_law_two : sc_law_united.names.lookup ("_law_two" : Str) = some NameKind.«local» := by decide +kernel
theorem k_law_united_law_wide : sc_law_united.names.lookup ("_law_wide" : Str) = some NameKind.globalImplicit := by decide +kernel
theorem ok_law_united {P : Program} {w : World} {K : PySem.W.Frag} {mg : Str → Option Value} {base : Heap} (B : Bx K mg) : OkFn P w K mg base "_law_united" ["_law_pair", "_law_two"] 5 F_law_united :=
  okfn N_law_united (n := 2) rfl g_law_united B.at_law_united hs_law_united S_law_united fun f cdv A outer s H E hr => jss_one (js_ret (je_call (ok_law_sum B) (hr.mono (by decide)) (ja_cons (je_call (ok_law_times B) (hr.mono (by decide)) (ja_cons (je_ix ix_seq r2_idx (je_var (i := 0) (hN := n_law_united_0) (hv := Or.inl k_law_united_law_pair) (hd := d_law_pair) (hcd := dc_law_pair)) (je_int)) (ja_cons (je_call (ok_law_wide B) (hr.mono (by decide)) (ja_cons (je_ix ix_seq r2_idx (je_var (i := 1) (hN := n_law_united_1) (hv := Or.inl k_law_united_law_two) (hd := d_law_two) (hcd := dc_law_two)) (je_int)) (ja_nil)) (hg := k_law_united_law_wide) (hdb := d_law_wide)) (ja_nil))) (hg := k_law_united_law_times) (hdb := d_law_times)) (ja_cons (je_call (ok_law_times B) (hr.mono (by decide)) (ja_cons (je_ix ix_seq r2_idx (je_var (i := 0) (hN := n_law_united_0) (hv := Or.inl k_law_united_law_pair) (hd := d_law_pair) (hcd := dc_law_pair)) (je_int)) (ja_cons (je_call (ok_law_wide B) (hr.mono (by decide)) (ja_cons (je_ix ix_seq r2_idx (je_var (i := 1) (hN := n_law_united_1) (hv := Or.inl k_law_united_law_two) (hd := d_law_two) (hcd := dc_law_two)) (je_int)) (ja_nil)) (hg := k_law_united_law_wide) (hdb := d_law_wide)) (ja_nil))) (hg := k_law_united_law_times) (hdb := d_law_times)) (ja_nil))) (hg := k_law_united_law_sum) (hdb := d_law_sum)))
def sc_law_parts : Scope := { kind := .function, names := [("_law_pair", .«local»)], isGenerator := false, isCoroutine := false, more := [("fast", .str "_law_pair"), ("fast", .str "_law_x")] }
def N_law_parts : List Str := ["_law_pair", "_law_x"]
theorem hs_law_parts : defScope S70 = sc_law_parts := by rfl
theorem S_law_parts : FnScope N_law_parts ["_law_pair"] sc_law_parts := ⟨rfl, rfl, rfl, by decide +kernel, rfl, by decide +kernel, by decide +kernel⟩
theorem n_law_parts_0 : N_law_parts[0]? = some ("_law_pair" : Str) := rfl
theorem n_law_parts_1 : N_law_parts[1]? = some ("_law_x" : Str) := rfl
theorem k_law_parts_law_pair : sc_law_parts.names.lookup ("_law_pair" : Str) = some NameKind.«local» := by decide +kernel
abbrev cs_law_parts_0 : Scope := { kind := .function, names := [(".0", .«local»), ("_law_x", .«local»), ("_law_half", .globalImplicit), ("_law_moved", .globalImplicit)], isGenerator := false, isCoroutine := false, more := [] }
theorem bo_law_parts_0 : BlkOk N_law_parts sc_law_parts cs_law_parts_0 [("_law_x", 1)] := blkOk_by (by decide +kernel)
theorem kc_law_parts_0_law_half : (relS cs_law_parts_0 sc_law_parts).names.lookup ("_law_half" : Str) = some NameKind.globalImplicit := by decide +kernel
theorem kc_law_parts_0_law_moved : (relS cs_law_parts_0 sc_law_parts).names.lookup ("_law_moved" : Str) = some NameKind.globalImplicit := by decide +kernel
theorem kc_law_parts_0_law_x : (relS cs_law_parts_0 sc_law_parts).names.lookup ("_law_x" : Str) = some NameKind.«local» := by decide +kernel
theorem ok_law_parts {P : Program} {w : World} {K : PySem.W.Frag} {mg : Str → Option Value} {base : Heap} (B : Bx K mg) : OkFn P w K mg base "_law_parts" ["_law_pair"] 3 F_law_parts :=
  okfn N_law_parts (n := 2) rfl g_law_parts B.at_law_parts hs_law_parts S_law_parts fun f cdv A outer s H E hr => jss_one (js_ret (je_list (jl_lc (j := 1) (x := "_law_x") S_law_parts.nd (jx_tup (je_var (i := 0) (hN := n_law_parts_0) (hv := Or.inl k_law_parts_law_pair) (hd := d_law_pair) (hcd := dc_law_pair))) bo_law_parts_0 (fun _ _ _ _ _ => ji_nil) (fun _ _ _ _ _ => je_list (jl_disp (jd_cons (je_call (ok_law_half B) (hr.mono (by decide)) (ja_cons (je_var (i := 1) (hN := n_law_parts_1) (hv := Or.inl kc_law_parts_0_law_x) (hd := d_law_x) (hcd := dc_law_x)) (ja_cons (je_int) (ja_nil))) (hg := kc_law_parts_0_law_half) (hdb := d_law_half)) (jd_cons (je_call (ok_law_moved B) (hr.mono (by decide)) (ja_cons (je_call (ok_law_half B) (hr.mono (by decide)) (ja_cons (je_var (i := 1) (hN := n_law_parts_1) (hv := Or.inl kc_law_parts_0_law_x) (hd := d_law_x) (hcd := dc_law_x)) (ja_cons (je_int) (ja_nil))) (hg := kc_law_parts_0_law_half) (hdb := d_law_half)) (ja_cons (je_int) (ja_nil))) (hg := kc_law_parts_0_law_moved) (hdb := d_law_moved)) (jd_nil))))) (hg := fun _ _ _ _ _ => pg_name S_law_parts.nd n_law_parts_1 (Or.inl kc_law_parts_0_law_x) (Or.inr kc_law_parts_0_law_x)))))
def sc_law_det : Scope := { kind := .function, names := [("_law_pair", .«local»), ("_law_a", .«local»), ("_law_b", .«local»), ("_law_c", .«local»), ("_law_d", .«local»), ("_law_parts", .globalImplicit), ("_law_less", .globalImplicit), ("_law_times", .globalImplicit)], isGenerator := false, isCoroutine := false, more := [] }
def N_law_det : List Str := ["_law_pair", "_law_a", "_law_b", "_law_c", "_law_d"]
theorem hs_law_det : defScope S71 = sc_law_det := by rfl
theorem S_law_det : FnScope N_law_det ["_law_pair"] sc_law_det := ⟨rfl, rfl, rfl, by decide +kernel, rfl, by decide +kernel, by decide +kernel⟩
theorem n_law_det_0 : N_law_det[0]? = some ("_law_pair" : Str) := rfl
theorem n_law_det_1 : N_law_det[1]? = some ("_law_a" : Str) := rfl
theorem n_law_det_2 : N_law_det[2]? = some ("_law_b" : Str) := rfl
theorem n_law_det_3 : N_law_det[3]? = some ("_law_c" : Str) := rfl
theorem n_law_det_4 : N_law_det[4]? = some ("_law_d" : Str) := rfl
theorem k_law_det_law_a : sc_law_det.names.lookup ("_law_a" : Str) = some NameKind.«local» := by decide +kernel
theorem k_law_det_law_b : sc_law_det.names.lookup ("_law_b" : Str) = some NameKind.«local» := by decide +kernel
theorem k_law_det_law_c : sc_law_det.names.lookup ("_law_c" : Str) = some NameKind.«local» := by decide +kernel
theorem k_law_det_law_d : sc_law_det.names.lookup ("_law_d" : Str) = some NameKind.«local» := by decide +kernel
theorem k_law_det_law_less : sc_law_det.names.lookup ("_law_less" : Str) = some NameKind.globalImplicit := by decide +kernel
theorem k_law_det_law_pair : sc_law_det.names.lookup ("_law_pair" : Str) = some NameKind.«local» := by decide +kernel
theorem k_law_det_law_parts : sc_law_det.names.lookup ("_law_parts" : Str) = some NameKind.globalImplicit := by decide +kernel
theorem k_law_det_law_times : sc_law_det.names.lookup ("_law_times" : Str) = some NameKind.globalImplicit := by decide +kernel
theorem ok_law_det {P : Program} {w : World} {K : PySem.W.Frag} {mg : Str → Option Value} {base : Heap} (B : Bx K mg) : OkFn P w K mg base "_law_det" ["_law_pair"] 6 F_law_det :=
  okfn N_law_det (n := 5) rfl g_law_det B.at_law_det hs_law_det S_law_det fun f cdv A outer s H E hr => jss_cons (js_asg (je_call (ok_law_parts B) (hr.mono (by decide)) (ja_cons (je_var (i := 0) (hN := n_law_det_0) (hv := Or.inl k_law_det_law_pair) (hd := d_law_pair) (hcd := dc_law_pair)) (ja_nil)) (hg := k_law_det_law_parts) (hdb := d_law_parts)) (jg_unl (jgs_cons (jg_unl (jgs_cons (jg_name (i := 1) S_law_det.nd (hi := n_law_det_1) (hx := Or.inl k_law_det_law_a) (hf := Or.inl rfl)) (jgs_cons (jg_name (i := 2) S_law_det.nd (hi := n_law_det_2) (hx := Or.inl k_law_det_law_b) (hf := Or.inl rfl)) (jgs_nil)))) (jgs_cons (jg_unl (jgs_cons (jg_name (i := 3) S_law_det.nd (hi := n_law_det_3) (hx := Or.inl k_law_det_law_c) (hf := Or.inl rfl)) (jgs_cons (jg_name (i := 4) S_law_det.nd (hi := n_law_det_4) (hx := Or.inl k_law_det_law_d) (hf := Or.inl rfl)) (jgs_nil)))) (jgs_nil)))))
      (jss_one (js_ret (je_call (ok_law_less B) (hr.mono (by decide)) (ja_cons (je_call (ok_law_times B) (hr.mono (by decide)) (ja_cons (je_var (i := 1) (hN := n_law_det_1) (hv := Or.inl k_law_det_law_a) (hd := d_law_a) (hcd := dc_law_a)) (ja_cons (je_var (i := 4) (hN := n_law_det_4) (hv := Or.inl k_law_det_law_d) (hd := d_law_d) (hcd := dc_law_d)) (ja_nil))) (hg := k_law_det_law_times) (hdb := d_law_times)) (ja_cons (je_call (ok_law_times B) (hr.mono (by decide)) (ja_cons (je_var (i := 2) (hN := n_law_det_2) (hv := Or.inl k_law_det_law_b) (hd := d_law_b) (hcd := dc_law_b)) (ja_cons (je_var (i := 3) (hN := n_law_det_3) (hv := Or.inl k_law_det_law_c) (hd := d_law_c) (hcd := dc_law_c)) (ja_nil))) (hg := k_law_det_law_times) (hdb := d_law_times)) (ja_nil))) (hg := k_law_det_law_less) (hdb := d_law_less))))
def sc_law_undone : Scope := { kind := .function, names := [("_law_pair", .«local»), ("_law_a", .«local»), ("_law_b", .«local»), ("_law_c", .«local»), ("_law_d", .«local»), ("_law_deep_here", .«local»), ("_law_by", .«local»), ("_law_less_here", .«local»), ("_law_one", .«local»), ("_law_parts", .globalImplicit), ("_law_det", .globalImplicit), ("_law_per", .globalImplicit), ("_law_prod", .globalImplicit), ("_law_sum", .globalImplicit), ("_law_wide", .globalImplicit), ("_law_times", .globalImplicit), ("_law_moved", .globalImplicit)], isGenerator := false, isCoroutine := false, more := [] }
def N_law_undone : List Str := ["_law_pair", "_law_a", "_law_b", "_law_c", "_law_d", "_law_deep_here", "_law_by", "_law_less_here", "_law_one"]
theorem hs_law_undone : defScope S72 = sc_law_undone := by rfl
theorem S_law_undone : FnScope N_law_undone ["_law_pair"] sc_law_undone := ⟨rfl, rfl, rfl, by decide +kernel, rfl, by decide +kernel, by decide +kernel⟩
theorem n_law_undone_0 : N_law_undone[0]? = some ("_law_pair" : Str) := rfl
theorem n_law_undone_1 : N_law_undone[1]? = some ("_law_a" : Str) := rfl
theorem n_law_undone_2 : N_law_undone[2]? = some ("_law_b" : Str) := rfl
theorem n_law_undone_3 : N_law_undone[3]? = some ("_law_c" : Str) := rfl
theorem n_law_undone_4 : N_law_undone[4]? = some ("_law_d" : Str) := rfl
theorem n_law_undone_5 : N_law_undone[5]? = some ("_law_deep_here" : Str) := rfl
theorem n_law_undone_6 : N_law_undone[6]? = some ("_law_by" : Str) := rfl
theorem n_law_undone_7 : N_law_undone[7]? = some ("_law_less_here" : Str) := rfl
theorem n_law_undone_8 : N_law_undone[8]? = some ("_law_one" : Str) := rfl
theorem k_law_undone_law_a : sc_law_undone.names.lookup ("_law_a" : Str) = some NameKind.«local» := by decide +kernel
theorem k_law_undone_law_b : sc_law_undone.names.lookup ("_law_b" : Str) = some NameKind.«local» := by decide +kernel
theorem k_law_undone_law_by : sc_law_undone.names.lookup ("_law_by" : Str) = some NameKind.«local» := by decide +kernel
theorem k_law_undone_law_c : sc_law_undone.names.lookup ("_law_c" : Str) = some NameKind.«local» := by decide +kernel
theorem k_law_undone_law_d : sc_law_undone.names.lookup ("_law_d" : Str) = some NameKind.«local» := by decide +kernel
theorem k_law_undone_law_deep_here : sc_law_undone.names.lookup ("_law_deep_here" : Str) = some NameKind.«local» := by decide +kernel
theorem k_law_undone_law_det : sc_law_undone.names.lookup ("_law_det" : Str) = some NameKind.globalImplicit := by decide +kernel
theorem k_law_undone_law_less_here : sc_law_undone.names.lookup ("_law_less_here" : Str) = some NameKind.«local» := by decide +kernel
theorem k_law_undone_law_moved : sc_law_undone.names.lookup ("_law_moved" : Str) = some NameKind.globalImplicit := by decide +kernel
theorem k_law_undone_law_one : sc_law_undone.names.lookup ("_law_one" : Str) = some NameKind.«local» := by decide +kernel
theorem k_law_undone_law_pair : sc_law_undone.names.lookup ("_law_pair" : Str) = some NameKind.«local» := by decide +kernel
theorem k_law_undone_law_parts : sc_law_undone.names.lookup ("_law_parts" : Str) = some NameKind.globalImplicit := by decide +kernel
theorem k_law_undone_law_per : sc_law_undone.names.lookup ("_law_per" : Str) = some NameKind.globalImplicit := by decide +kernel
theorem k_law_undone_law_prod : sc_law_undone.names.lookup ("_law_prod" : Str) = some NameKind.globalImplicit := by decide +kernel
theorem k_law_undone_law_sum : sc_law_undone.names.lookup ("_law_sum" : Str) = some NameKind.globalImplicit := by decide +kernel
theorem k_law_undone_law_times : sc_law_undone.names.lookup ("_law_times" : Str) = some NameKind.globalImplicit := by decide +kernel
theorem k_law_undone_law_wide : sc_law_undone.names.lookup ("_law_wide" : Str) = some NameKind.globalImplicit := by decide +kernel
theorem ok_law_undone {P : Program} {w : World} {K : PySem.W.Frag} {mg : Str → Option Value} {base : Heap} (B : Bx K mg) : OkFn P w K mg base "_law_undone" ["_law_pair"] 7 F_law_undone :=
  okfn N_law_undone (n := 9) rfl g_law_undone B.at_law_undone hs_law_undone S_law_undone fun f cdv A outer s H E hr => jss_cons (js_asg (je_call (ok_law_parts B) (hr.mono (by decide)) (ja_cons (je_var (i := 0) (hN := n_law_undone_0) (hv := Or.inl k_law_undone_law_pair) (hd := d_law_pair) (hcd := dc_law_pair)) (ja_nil)) (hg := k_law_undone_law_parts) (hdb := d_law_parts)) (jg_unl (jgs_cons (jg_unl (jgs_cons (jg_name (i := 1) S_law_undone.nd (hi := n_law_undone_1) (hx := Or.inl k_law_undone_law_a) (hf := Or.inl rfl)) (jgs_cons (jg_name (i := 2) S_law_undone.nd (hi := n_law_undone_2) (hx := Or.inl k_law_undone_law_b) (hf := Or.inl rfl)) (jgs_nil)))) (jgs_cons (jg_unl (jgs_cons (jg_name (i := 3) S_law_undone.nd (hi := n_law_undone_3) (hx := Or.inl k_law_undone_law_c) (hf := Or.inl rfl)) (jgs_cons (jg_name (i := 4) S_law_undone.nd (hi := n_law_undone_4) (hx := Or.inl k_law_undone_law_d) (hf := Or.inl rfl)) (jgs_nil)))) (jgs_nil)))))
      (jss_cons (js_set (i := 5) S_law_undone.nd (je_call (ok_law_det B) (hr.mono (by decide)) (ja_cons (je_var (i := 0) (hN := n_law_undone_0) (hv := Or.inl k_law_undone_law_pair) (hd := d_law_pair) (hcd := dc_law_pair)) (ja_nil)) (hg := k_law_undone_law_det) (hdb := d_law_det)) (hi := n_law_undone_5) (hx := Or.inl k_law_undone_law_deep_here) (hf := Or.inl rfl))
      (jss_cons (js_set (i := 6) S_law_undone.nd (je_tup (jd_cons (je_op op_sub r2_sub (je_int) (je_ix ix_seq r2_idx (je_var (i := 5) (hN := n_law_undone_5) (hv := Or.inl k_law_undone_law_deep_here) (hd := d_law_deep_here) (hcd := dc_law_deep_here)) (je_int))) (jd_cons (je_tup (jd_cons (je_call (ok_law_per B) (hr.mono (by decide)) (ja_cons (je_tup (jd_cons (je_int) (jd_cons (je_int) (jd_nil)))) (ja_cons (je_ix ix_seq r2_idx (je_ix ix_seq r2_idx (je_var (i := 5) (hN := n_law_undone_5) (hv := Or.inl k_law_undone_law_deep_here) (hd := d_law_deep_here) (hcd := dc_law_deep_here)) (je_int)) (je_int)) (ja_nil))) (hg := k_law_undone_law_per) (hdb := d_law_per)) (jd_nil))) (jd_nil)))) (hi := n_law_undone_6) (hx := Or.inl k_law_undone_law_by) (hf := Or.inl rfl))
      (jss_cons (js_set (i := 7) S_law_undone.nd (je_tup (jd_cons (je_ix ix_seq r2_idx (je_var (i := 6) (hN := n_law_undone_6) (hv := Or.inl k_law_undone_law_by) (hd := d_law_by) (hcd := dc_law_by)) (je_int)) (jd_cons (je_tup (jd_cons (je_call (ok_law_prod B) (hr.mono (by decide)) (ja_cons (je_ix ix_seq r2_idx (je_ix ix_seq r2_idx (je_var (i := 6) (hN := n_law_undone_6) (hv := Or.inl k_law_undone_law_by) (hd := d_law_by) (hcd := dc_law_by)) (je_int)) (je_int)) (ja_cons (je_tup (jd_cons (je_un un_neg r1_neg (je_int)) (jd_cons (je_int) (jd_nil)))) (ja_nil))) (hg := k_law_undone_law_prod) (hdb := d_law_prod)) (jd_nil))) (jd_nil)))) (hi := n_law_undone_7) (hx := Or.inl k_law_undone_law_less_here) (hf := Or.inl rfl))
      (jss_cons (js_set (i := 8) S_law_undone.nd (je_call (ok_law_sum B) (hr.mono (by decide)) (ja_cons (je_call (ok_law_wide B) (hr.mono (by decide)) (ja_cons (je_call (ok_law_times B) (hr.mono (by decide)) (ja_cons (je_var (i := 4) (hN := n_law_undone_4) (hv := Or.inl k_law_undone_law_d) (hd := d_law_d) (hcd := dc_law_d)) (ja_cons (je_var (i := 6) (hN := n_law_undone_6) (hv := Or.inl k_law_undone_law_by) (hd := d_law_by) (hcd := dc_law_by)) (ja_nil))) (hg := k_law_undone_law_times) (hdb := d_law_times)) (ja_nil)) (hg := k_law_undone_law_wide) (hdb := d_law_wide)) (ja_cons (je_call (ok_law_moved B) (hr.mono (by decide)) (ja_cons (je_call (ok_law_wide B) (hr.mono (by decide)) (ja_cons (je_call (ok_law_times B) (hr.mono (by decide)) (ja_cons (je_var (i := 3) (hN := n_law_undone_3) (hv := Or.inl k_law_undone_law_c) (hd := d_law_c) (hcd := dc_law_c)) (ja_cons (je_var (i := 7) (hN := n_law_undone_7) (hv := Or.inl k_law_undone_law_less_here) (hd := d_law_less_here) (hcd := dc_law_less_here)) (ja_nil))) (hg := k_law_undone_law_times) (hdb := d_law_times)) (ja_nil)) (hg := k_law_undone_law_wide) (hdb := d_law_wide)) (ja_cons (je_int) (ja_nil))) (hg := k_law_undone_law_moved) (hdb := d_law_moved)) (ja_nil))) (hg := k_law_undone_law_sum) (hdb := d_law_sum)) (hi := n_law_undone_8) (hx := Or.inl k_law_undone_law_one) (hf := Or.inl rfl))
      (jss_one (js_ret (je_tup (jd_cons (je_var (i := 8) (hN := n_law_undone_8) (hv := Or.inl k_law_undone_law_one) (hd := d_law_one) (hcd := dc_law_one)) (jd_cons (je_call (ok_law_sum B) (hr.mono (by decide)) (ja_cons (je_call (ok_law_wide B) (hr.mono (by decide)) (ja_cons (je_call (ok_law_times B) (hr.mono (by decide)) (ja_cons (je_var (i := 2) (hN := n_law_undone_2) (hv := Or.inl k_law_undone_law_b) (hd := d_law_b) (hcd := dc_law_b)) (ja_cons (je_var (i := 7) (hN := n_law_undone_7) (hv := Or.inl k_law_undone_law_less_here) (hd := d_law_less_here) (hcd := dc_law_less_here)) (ja_nil))) (hg := k_law_undone_law_times) (hdb := d_law_times)) (ja_nil)) (hg := k_law_undone_law_wide) (hdb := d_law_wide)) (ja_cons (je_call (ok_law_moved B) (hr.mono (by decide)) (ja_cons (je_call (ok_law_wide B) (hr.mono (by decide)) (ja_cons (je_call (ok_law_times B) (hr.mono (by decide)) (ja_cons (je_var (i := 1) (hN := n_law_undone_1) (hv := Or.inl k_law_undone_law_a) (hd := d_law_a) (hcd := dc_law_a)) (ja_cons (je_var (i := 6) (hN := n_law_undone_6) (hv := Or.inl k_law_undone_law_by) (hd := d_law_by) (hcd := dc_law_by)) (ja_nil))) (hg := k_law_undone_law_times) (hdb := d_law_times)) (ja_nil)) (hg := k_law_undone_law_wide) (hdb := d_law_wide)) (ja_cons (je_int) (ja_nil))) (hg := k_law_undone_law_moved) (hdb := d_law_moved)) (ja_nil))) (hg := k_law_undone_law_sum) (hdb := d_law_sum)) (jd_nil))))))))))
def sc_law_rungs : Scope := { kind := .function, names := [("_law_spring_here", .«local»), ("_law_most", .«local»), ("_law_wide_here", .«local»), ("_law_some_here", .«local»), ("_law_lap", .«local»), ("_law_x", .«local»), ("range", .globalImplicit), ("_law_sip", .globalImplicit), ("_law_mild_row", .globalImplicit), ("_law_pick", .globalImplicit), ("tuple", .globalImplicit), ("_law_some", .globalImplicit)], isGenerator := false, isCoroutine := false, more := [] }
def N_law_rungs : List Str := ["_law_spring_here", "_law_most", "_law_wide_here", "_law_some_here", "_law_lap", "_law_x"]
theorem hs_law_rungs : defScope S73 = sc_law_rungs := by rfl
theorem S_law_rungs : FnScope N_law_rungs ["_law_spring_here", "_law_most", "_law_wide_here"] sc_law_rungs := ⟨rfl, rfl, rfl, by decide +kernel, rfl, by decide +kernel, by decide +kernel⟩
theorem n_law_rungs_0 : N_law_rungs[0]? = some ("_law_spring_here" : Str) := rfl
theorem n_law_rungs_1 : N_law_rungs[1]? = some ("_law_most" : Str) := rfl
theorem n_law_rungs_2 : N_law_rungs[2]? = some ("_law_wide_here" : Str) := rfl
theorem n_law_rungs_3 : N_law_rungs[3]? = some ("_law_some_here" : Str) := rfl
theorem n_law_rungs_4 : N_law_rungs[4]? = some ("_law_lap" : Str) := rfl
theorem n_law_rungs_5 : N_law_rungs[5]? = some ("_law_x" : Str) := rfl
theorem k_law_rungs_law_lap : sc_law_rungs.names.lookup ("_law_lap" : Str) = some NameKind.«local» := by decide +kernel
theorem k_law_rungs_law_mild_row : sc_law_rungs.names.lookup ("_law_mild_row" : Str) = some NameKind.globalImplicit := by decide +kernel
theorem k_law_rungs_law_most : sc_law_rungs.names.lookup ("_law_most" : Str) = some NameKind.«local» := by decide +kernel
theorem k_law_rungs_law_pick : sc_law_rungs.names.lookup ("_law_pick" : Str) = some NameKind.globalImplicit := by decide +kernel
theorem k_law_rungs_law_sip : sc_law_rungs.names.lookup ("_law_sip" : Str) = some NameKind.globalImplicit := by decide +kernel
theorem k_law_rungs_law_some : sc_law_rungs.names.lookup ("_law_some" : Str) = some NameKind.globalImplicit := by decide +kernel
theorem k_law_rungs_law_some_here : sc_law_rungs.names.lookup ("_law_some_here" : Str) = some NameKind.«local» := by decide +kernel
theorem k_law_rungs_law_spring_here : sc_law_rungs.names.lookup ("_law_spring_here" : Str) = some NameKind.«local» := by decide +kernel
theorem k_law_rungs_law_wide_here : sc_law_rungs.names.lookup ("_law_wide_here" : Str) = some NameKind.«local» := by decide +kernel
theorem k_law_rungs_law_x : sc_law_rungs.names.lookup ("_law_x" : Str) = some NameKind.«local» := by decide +kernel
theorem k_law_rungs_range : sc_law_rungs.names.lookup ("range" : Str) = some NameKind.globalImplicit := by decide +kernel
theorem k_law_rungs_tuple : sc_law_rungs.names.lookup ("tuple" : Str) = some NameKind.globalImplicit := by decide +kernel
theorem ok_law_rungs {P : Program} {w : World} {K : PySem.W.Frag} {mg : Str → Option Value} {base : Heap} (B : Bx K mg) : OkFn P w K mg base "_law_rungs" ["_law_spring_here", "_law_most", "_law_wide_here"] 6 F_law_rungs :=
  okfn N_law_rungs (n := 6) rfl g_law_rungs B.at_law_rungs hs_law_rungs S_law_rungs fun f cdv A outer s H E hr => jss_cons (js_new (i := 3) S_law_rungs.nd (jl_disp (jd_nil)) (hi := n_law_rungs_3) (hx := Or.inl k_law_rungs_law_some_here) (hf := Or.inl rfl))
      (jss_cons (js_for PassesOwn.never (jx_r1 (je_call (ok_law_sip B) (hr.mono (by decide)) (ja_mut (i := 0) (ja_cons (je_op op_addL r2_add (je_var (i := 1) (hN := n_law_rungs_1) (hv := Or.inl k_law_rungs_law_most) (hd := d_law_most) (hcd := dc_law_most)) (je_int)) (ja_nil)) (hN := n_law_rungs_0) (hv := Or.inl k_law_rungs_law_spring_here) (hd := d_law_spring_here) (hcd := dc_law_spring_here)) (hg := k_law_rungs_law_sip) (hdb := d_law_sip)) B.b_range (hg := k_law_rungs_range)) (jg_name (i := 4) S_law_rungs.nd (hi := n_law_rungs_4) (hx := Or.inl k_law_rungs_law_lap) (hf := Or.inl rfl)) (jss_cons (js_set (i := 5) S_law_rungs.nd (je_call (ok_law_mild_row B) (hr.mono (by decide)) (ja_mut (i := 0) (ja_cons (je_var (i := 2) (hN := n_law_rungs_2) (hv := Or.inl k_law_rungs_law_wide_here) (hd := d_law_wide_here) (hcd := dc_law_wide_here)) (ja_nil)) (hN := n_law_rungs_0) (hv := Or.inl k_law_rungs_law_spring_here) (hd := d_law_spring_here) (hcd := dc_law_spring_here)) (hg := k_law_rungs_law_mild_row) (hdb := d_law_mild_row)) (hi := n_law_rungs_5) (hx := Or.inl k_law_rungs_law_x) (hf := Or.inl rfl))
      (jss_one (js_app (i := 3) (je_tup (jd_cons (je_call (ok_law_pick B) (hr.mono (by decide)) (ja_mut (i := 0) (ja_cons (je_list (jl_disp (jd_cons (je_str) (jd_cons (je_str) (jd_nil))))) (ja_nil)) (hN := n_law_rungs_0) (hv := Or.inl k_law_rungs_law_spring_here) (hd := d_law_spring_here) (hcd := dc_law_spring_here)) (hg := k_law_rungs_law_pick) (hdb := d_law_pick)) (jd_cons (je_ite (jt_cmp (op_neP hr.units) r2_ne (je_ix ix_seq r2_idx (je_var (i := 5) (hN := n_law_rungs_5) (hv := Or.inl k_law_rungs_law_x) (hd := d_law_x) (hcd := dc_law_x)) (je_int)) (je_tup (jd_nil)) (nomark _)) (je_tup (jd_cons (je_op op_sub r2_sub (je_call (ok_law_sip B) (hr.mono (by decide)) (ja_mut (i := 0) (ja_cons (je_int) (ja_nil)) (hN := n_law_rungs_0) (hv := Or.inl k_law_rungs_law_spring_here) (hd := d_law_spring_here) (hcd := dc_law_spring_here)) (hg := k_law_rungs_law_sip) (hdb := d_law_sip)) (je_int)) (jd_cons (je_ix ix_seq r2_idx (je_var (i := 5) (hN := n_law_rungs_5) (hv := Or.inl k_law_rungs_law_x) (hd := d_law_x) (hcd := dc_law_x)) (je_int)) (jd_nil)))) (je_var (i := 5) (hN := n_law_rungs_5) (hv := Or.inl k_law_rungs_law_x) (hd := d_law_x) (hcd := dc_law_x))) (jd_nil)))) (hN := n_law_rungs_3) (hv := Or.inl k_law_rungs_law_some_here) (hd := d_law_some_here) (hcd := dc_law_some_here)))))
      (jss_one (js_ret (je_tup (jd_cons (je_b1f call_tuple_of c1_tup (je_frz (i := 3) (hN := n_law_rungs_3) (hv := Or.inl k_law_rungs_law_some_here) (hd := d_law_some_here) (hcd := dc_law_some_here)) B.b_tuple (hg := k_law_rungs_tuple) (hv := bb_tuple) (hn := nn_tuple) (hdb := d_tuple)) (jd_cons (je_tup (jd_cons (je_tup (jd_cons (je_call (ok_law_some B) (hr.mono (by decide)) (ja_mut (i := 0) (ja_nil) (hN := n_law_rungs_0) (hv := Or.inl k_law_rungs_law_spring_here) (hd := d_law_spring_here) (hcd := dc_law_spring_here)) (hg := k_law_rungs_law_some) (hdb := d_law_some)) (jd_cons (je_op op_sub r2_sub (je_call (ok_law_sip B) (hr.mono (by decide)) (ja_mut (i := 0) (ja_cons (je_int) (ja_nil)) (hN := n_law_rungs_0) (hv := Or.inl k_law_rungs_law_spring_here) (hd := d_law_spring_here) (hcd := dc_law_spring_here)) (hg := k_law_rungs_law_sip) (hdb := d_law_sip)) (je_int)) (jd_nil)))) (jd_cons (je_tup (jd_cons (je_call (ok_law_some B) (hr.mono (by decide)) (ja_mut (i := 0) (ja_nil) (hN := n_law_rungs_0) (hv := Or.inl k_law_rungs_law_spring_here) (hd := d_law_spring_here) (hcd := dc_law_spring_here)) (hg := k_law_rungs_law_some) (hdb := d_law_some)) (jd_cons (je_op op_sub r2_sub (je_call (ok_law_sip B) (hr.mono (by decide)) (ja_mut (i := 0) (ja_cons (je_int) (ja_nil)) (hN := n_law_rungs_0) (hv := Or.inl k_law_rungs_law_spring_here) (hd := d_law_spring_here) (hcd := dc_law_spring_here)) (hg := k_law_rungs_law_sip) (hdb := d_law_sip)) (je_int)) (jd_nil)))) (jd_nil)))) (jd_nil)))))))
def sc_law_laddered : Scope := { kind := .function, names := [("_law_rungs_here", .«local»), ("_law_k0", .«local»), ("_law_a", .«local»), ("_law_k1", .«local»), ("_law_b", .«local»), ("_law_one", .«local»), ("_law_two", .«local»), ("_law_way", .«local»), ("_law_x", .«local»), ("_law_sum", .globalImplicit), ("_law_times", .globalImplicit), ("_law_wide", .globalImplicit)], isGenerator := false, isCoroutine := false, more := [] }
def N_law_laddered : List Str := ["_law_rungs_here", "_law_k0", "_law_a", "_law_k1", "_law_b", "_law_one", "_law_two", "_law_way", "_law_x"]
theorem hs_law_laddered : defScope S74 = sc_law_laddered := by rfl
theorem S_law_laddered : FnScope N_law_laddered ["_law_rungs_here"] sc_law_laddered := ⟨rfl, rfl, rfl, by decide +kernel, rfl, by decide +kernel, by decide +kernel⟩
theorem n_law_laddered_0 : N_law_laddered[0]? = some ("_law_rungs_here" : Str) := rfl
theorem n_law_laddered_1 : N_law_laddered[1]? = some ("_law_k0" : Str) := rfl
theorem n_law_laddered_2 : N_law_laddered[2]? = some ("_law_a" : Str) := rfl
theorem n_law_laddered_3 : N_law_laddered[3]? = some ("_law_k1" : Str) := rfl
theorem n_law_laddered_4 : N_law_laddered[4]? = some ("_law_b" : Str) := rfl
theorem n_law_laddered_5 : N_law_laddered[5]? = some ("_law_one" : Str) := rfl
theorem n_law_laddered_6 : N_law_laddered[6]? = some ("_law_two" : Str) := rfl
theorem n_law_laddered_7 : N_law_laddered[7]? = some ("_law_way" : Str) := rfl
theorem n_law_laddered_8 : N_law_laddered[8]? = some ("_law_x" : Str) := rfl
theorem k_law_laddered_law_a : sc_law_laddered.names.lookup ("_law_a" : Str) = some NameKind.«local» := by decide +kernel
theorem k_law_laddered_law_b : sc_law_laddered.names.lookup ("_law_b" : Str) = some NameKind.«local» := by decide +kernel
theorem k_law_laddered_law_k0 : sc_law_laddered.names.lookup ("_law_k0" : Str) = some NameKind.«local» := by decide +kernel
theorem k_law_laddered_law_k1 : sc_law_laddered.names.lookup ("_law_k1" : Str) = some NameKind.«local» := by decide +kernel
theorem k_law_laddered_law_one : sc_law_laddered.names.lookup ("_law_one" : Str) = some NameKind.«local» := by decide +kernel
theorem k_law_laddered_law_rungs_here : sc_law_laddered.names.lookup ("_law_rungs_here" : Str) = some NameKind.«local» := by decide +kernel
theorem k_law_laddered_law_sum : sc_law_laddered.names.lookup ("_law_sum" : Str) = some NameKind.globalImplicit := by decide +kernel
theorem k_law_laddered_law_times : sc_law_laddered.names.lookup ("_law_times" : Str) = some NameKind.globalImplicit := by decide +kernel
theorem k_law_laddered_law_two : sc_law_laddered.names.lookup ("_law_two" : Str) = some NameKind.«local» := by decide +kernel
theorem k_law_laddered_law_way : sc_law_laddered.names.lookup ("_law_way" : Str) = some NameKind.«local» := by decide +kernel
theorem k_law_laddered_law_wide : sc_law_laddered.names.lookup ("_law_wide" : Str) = some NameKind.globalImplicit := by decide +kernel
theorem k_law_laddered_law_x : sc_law_laddered.names.lookup ("_law_x" : Str) = some NameKind.«local» := by decide +kernel
theorem ok_law_laddered {P : Program} {w : World} {K : PySem.W.Frag} {mg : Str → Option Value} {base : Heap} (B : Bx K mg) : OkFn P w K mg base "_law_laddered" ["_law_rungs_here"] 5 F_law_laddered :=
  okfn N_law_laddered (n := 9) rfl g_law_laddered B.at_law_laddered hs_law_laddered S_law_laddered fun f cdv A outer s H E hr => jss_cons (js_asg (je_ix ix_seq r2_idx (je_var (i := 0) (hN := n_law_laddered_0) (hv := Or.inl k_law_laddered_law_rungs_here) (hd := d_law_rungs_here) (hcd := dc_law_rungs_here)) (je_int)) (jg_tup (jgs_cons (jg_tup (jgs_cons (jg_name (i := 1) S_law_laddered.nd (hi := n_law_laddered_1) (hx := Or.inl k_law_laddered_law_k0) (hf := Or.inl rfl)) (jgs_cons (jg_name (i := 2) S_law_laddered.nd (hi := n_law_laddered_2) (hx := Or.inl k_law_laddered_law_a) (hf := Or.inl rfl)) (jgs_nil)))) (jgs_cons (jg_tup (jgs_cons (jg_name (i := 3) S_law_laddered.nd (hi := n_law_laddered_3) (hx := Or.inl k_law_laddered_law_k1) (hf := Or.inl rfl)) (jgs_cons (jg_name (i := 4) S_law_laddered.nd (hi := n_law_laddered_4) (hx := Or.inl k_law_laddered_law_b) (hf := Or.inl rfl)) (jgs_nil)))) (jgs_nil)))))
      (jss_cons (js_par (i := 5) (j := 6) S_law_laddered.nd (je_tup (jd_cons (je_op op_mulW r2_mul (je_int) (je_var (i := 2) (hN := n_law_laddered_2) (hv := Or.inl k_law_laddered_law_a) (hd := d_law_a) (hcd := dc_law_a))) (jd_cons (je_tup (jd_cons (je_var (i := 1) (hN := n_law_laddered_1) (hv := Or.inl k_law_laddered_law_k0) (hd := d_law_k0) (hcd := dc_law_k0)) (jd_nil))) (jd_nil)))) (je_tup (jd_cons (je_op op_addL r2_add (je_op op_mulW r2_mul (je_int) (je_var (i := 4) (hN := n_law_laddered_4) (hv := Or.inl k_law_laddered_law_b) (hd := d_law_b) (hcd := dc_law_b))) (je_int)) (jd_cons (je_tup (jd_cons (je_var (i := 3) (hN := n_law_laddered_3) (hv := Or.inl k_law_laddered_law_k1) (hd := d_law_k1) (hcd := dc_law_k1)) (jd_nil))) (jd_nil)))) (hi := n_law_laddered_5) (hj := n_law_laddered_6) (hx := k_law_laddered_law_one) (hy := k_law_laddered_law_two))
      (jss_cons (js_for PassesOwn.never (jx_tup (je_ix ix_seq r2_idx (je_var (i := 0) (hN := n_law_laddered_0) (hv := Or.inl k_law_laddered_law_rungs_here) (hd := d_law_rungs_here) (hcd := dc_law_rungs_here)) (je_int))) (jg_tup (jgs_cons (jg_name (i := 7) S_law_laddered.nd (hi := n_law_laddered_7) (hx := Or.inl k_law_laddered_law_way) (hf := Or.inl rfl)) (jgs_cons (jg_name (i := 8) S_law_laddered.nd (hi := n_law_laddered_8) (hx := Or.inl k_law_laddered_law_x) (hf := Or.inl rfl)) (jgs_nil)))) (jss_one (js_if (jt_cmp (op_eqP hr.units) r2_eq (je_var (i := 7) (hN := n_law_laddered_7) (hv := Or.inl k_law_laddered_law_way) (hd := d_law_way) (hcd := dc_law_way)) (je_str) (nomark _)) (jss_one (js_set (i := 5) S_law_laddered.nd (je_call (ok_law_sum B) (hr.mono (by decide)) (ja_cons (je_var (i := 5) (hN := n_law_laddered_5) (hv := Or.inl k_law_laddered_law_one) (hd := d_law_one) (hcd := dc_law_one)) (ja_cons (je_call (ok_law_times B) (hr.mono (by decide)) (ja_cons (je_call (ok_law_wide B) (hr.mono (by decide)) (ja_cons (je_var (i := 8) (hN := n_law_laddered_8) (hv := Or.inl k_law_laddered_law_x) (hd := d_law_x) (hcd := dc_law_x)) (ja_nil)) (hg := k_law_laddered_law_wide) (hdb := d_law_wide)) (ja_cons (je_var (i := 6) (hN := n_law_laddered_6) (hv := Or.inl k_law_laddered_law_two) (hd := d_law_two) (hcd := dc_law_two)) (ja_nil))) (hg := k_law_laddered_law_times) (hdb := d_law_times)) (ja_nil))) (hg := k_law_laddered_law_sum) (hdb := d_law_sum)) (hi := n_law_laddered_5) (hx := Or.inl k_law_laddered_law_one) (hf := Or.inl rfl))) (jss_one (js_set (i := 6) S_law_laddered.nd (je_call (ok_law_sum B) (hr.mono (by decide)) (ja_cons (je_var (i := 6) (hN := n_law_laddered_6) (hv := Or.inl k_law_laddered_law_two) (hd := d_law_two) (hcd := dc_law_two)) (ja_cons (je_call (ok_law_times B) (hr.mono (by decide)) (ja_cons (je_call (ok_law_wide B) (hr.mono (by decide)) (ja_cons (je_var (i := 8) (hN := n_law_laddered_8) (hv := Or.inl k_law_laddered_law_x) (hd := d_law_x) (hcd := dc_law_x)) (ja_nil)) (hg := k_law_laddered_law_wide) (hdb := d_law_wide)) (ja_cons (je_var (i := 5) (hN := n_law_laddered_5) (hv := Or.inl k_law_laddered_law_one) (hd := d_law_one) (hcd := dc_law_one)) (ja_nil))) (hg := k_law_laddered_law_times) (hdb := d_law_times)) (ja_nil))) (hg := k_law_laddered_law_sum) (hdb := d_law_sum)) (hi := n_law_laddered_6) (hx := Or.inl k_law_laddered_law_two) (hf := Or.inl rfl))))))
      (jss_one (js_ret (je_tup (jd_cons (je_var (i := 5) (hN := n_law_laddered_5) (hv := Or.inl k_law_laddered_law_one) (hd := d_law_one) (hcd := dc_law_one)) (jd_cons (je_var (i := 6) (hN := n_law_laddered_6) (hv := Or.inl k_law_laddered_law_two) (hd := d_law_two) (hcd := dc_law_two)) (jd_nil))))))))
def sc_law_safe : Scope := { kind := .function, names := [("_law_spring_here", .«local»), ("_law_most", .«local»), ("_law_laddered", .globalImplicit), ("_law_rungs", .globalImplicit)], isGenerator := false, isCoroutine := false, more := [] }
def N_law_safe : List Str := ["_law_spring_here", "_law_most"]
theorem hs_law_safe : defScope S75 = sc_law_safe := by rfl
theorem S_law_safe : FnScope N_law_safe ["_law_spring_here", "_law_most"] sc_law_safe := ⟨rfl, rfl, rfl, by decide +kernel, rfl, by decide +kernel, by decide +kernel⟩
theorem n_law_safe_0 : N_law_safe[0]? = some ("_law_spring_here" : Str) := rfl
theorem n_law_safe_1 : N_law_safe[1]? = some ("_law_most" : Str) := rfl
theorem k_law_safe_law_laddered : sc_law_safe.names.lookup ("_law_laddered" : Str) = some NameKind.globalImplicit := by decide +kernel
theorem k_law_safe_law_most : sc_law_safe.names.lookup ("_law_most" : Str) = some NameKind.«local» := by decide +kernel
theorem k_law_safe_law_rungs : sc_law_safe.names.lookup ("_law_rungs" : Str) = some NameKind.globalImplicit := by decide +kernel
theorem k_law_safe_law_spring_here : sc_law_safe.names.lookup ("_law_spring_here" : Str) = some NameKind.«local» := by decide +kernel
theorem ok_law_safe {P : Program} {w : World} {K : PySem.W.Frag} {mg : Str → Option Value} {base : Heap} (B : Bx K mg) : OkFn P w K mg base "_law_safe" ["_law_spring_here", "_law_most"] 7 F_law_safe :=
  okfn N_law_safe (n := 2) rfl g_law_safe B.at_law_safe hs_law_safe S_law_safe fun f cdv A outer s H E hr => jss_one (js_ret (je_call (ok_law_laddered B) (hr.mono (by decide)) (ja_cons (je_call (ok_law_rungs B) (hr.mono (by decide)) (ja_mut (i := 0) (ja_cons (je_var (i := 1) (hN := n_law_safe_1) (hv := Or.inl k_law_safe_law_most) (hd := d_law_most) (hcd := dc_law_most)) (ja_cons (je_int) (ja_nil))) (hN := n_law_safe_0) (hv := Or.inl k_law_safe_law_spring_here) (hd := d_law_spring_here) (hcd := dc_law_spring_here)) (hg := k_law_safe_law_rungs) (hdb := d_law_rungs)) (ja_nil)) (hg := k_law_safe_law_laddered) (hdb := d_law_laddered)))
def sc_law_count : Scope := { kind := .function, names := [("_law_x", .«local»), ("len", .globalImplicit)], isGenerator := false, isCoroutine := false, more := [("fast", .str "_law_x"), ("fast", .str "_law_each")] }
def N_law_count : List Str := ["_law_x", "_law_each"]
theorem hs_law_count : defScope S76 = sc_law_count := by rfl
theorem S_law_count : FnScope N_law_count ["_law_x"] sc_law_count := ⟨rfl, rfl, rfl, by decide +kernel, rfl, by decide +kernel, by decide +kernel⟩
theorem n_law_count_0 : N_law_count[0]? = some ("_law_x" : Str) := rfl
theorem n_law_count_1 : N_law_count[1]? = some ("_law_each" : Str) := rfl
theorem k_law_count_law_x : sc_law_count.names.lookup ("_law_x" : Str) = some NameKind.«local» := by decide +kernel
theorem k_law_count_len : sc_law_count.names.lookup ("len" : Str) = some NameKind.globalImplicit := by decide +kernel
abbrev cs_law_count_0 : Scope := { kind := .function, names := [(".0", .«local»), ("_law_each", .«local»)], isGenerator := false, isCoroutine := false, more := [] }
theorem bo_law_count_0 : BlkOk N_law_count sc_law_count cs_law_count_0 [("_law_each", 1)] := blkOk_by (by decide +kernel)
theorem kc_law_count_0_law_each : (relS cs_law_count_0 sc_law_count).names.lookup ("_law_each" : Str) = some NameKind.«local» := by decide +kernel
theorem ok_law_count {P : Program} {w : World} {K : PySem.W.Frag} {mg : Str → Option Value} {base : Heap} (B : Bx K mg) : OkFn P w K mg base "_law_count" ["_law_x"] 1 F_law_count :=
  okfn N_law_count (n := 2) rfl g_law_count B.at_law_count hs_law_count S_law_count fun f cdv A outer s H E hr => jss_one (js_ret (je_b1 call_len_seq c1_len (je_list (jl_lc (j := 1) (x := "_law_each") S_law_count.nd (jx_tup (je_ix ix_seq r2_idx (je_var (i := 0) (hN := n_law_count_0) (hv := Or.inl k_law_count_law_x) (hd := d_law_x) (hcd := dc_law_x)) (je_int))) bo_law_count_0 (fun _ _ _ _ _ => ji_one (jt_cmp (op_neP hr.units) r2_ne (je_ix ix_seq r2_idx (je_var (i := 1) (hN := n_law_count_1) (hv := Or.inl kc_law_count_0_law_each) (hd := d_law_each) (hcd := dc_law_each)) (je_int)) (je_int) (nomark _))) (fun _ _ _ _ _ => je_var (i := 1) (hN := n_law_count_1) (hv := Or.inl kc_law_count_0_law_each) (hd := d_law_each) (hcd := dc_law_each)) (hg := fun _ _ _ _ _ => pg_name S_law_count.nd n_law_count_1 (Or.inl kc_law_count_0_law_each) (Or.inr kc_law_count_0_law_each)))) B.b_len (hg := k_law_count_len) (hv := bb_len) (hn := nn_len) (hdb := d_len)))
end Bs
namespace Bs
open PySem PySem.Spec PyProof.Rows L2
def sc_law_bush : Scope := { kind := .function, names := [("_law_spring_here", .«local»), ("_law_deep_here", .«local»), ("_law_sip", .globalImplicit), ("_law_bush", .globalImplicit)], isGenerator := false, isCoroutine := false, more := [] }
def N_law_bush : List Str := ["_law_spring_here", "_law_deep_here"]
theorem hs_law_bush : defScope S77 = sc_law_bush := by rfl
theorem S_law_bush : FnScope N_law_bush ["_law_spring_here", "_law_deep_here"] sc_law_bush := ⟨rfl, rfl, rfl, by decide +kernel, rfl, by decide +kernel, by decide +kernel⟩
theorem n_law_bush_0 : N_law_bush[0]? = some ("_law_spring_here" : Str) := rfl
theorem n_law_bush_1 : N_law_bush[1]? = some ("_law_deep_here" : Str) := rfl
theorem k_law_bush_law_bush : sc_law_bush.names.lookup ("_law_bush" : Str) = some NameKind.globalImplicit := by decide +kernel
theorem k_law_bush_law_deep_here : sc_law_bush.names.lookup ("_law_deep_here" : Str) = some NameKind.«local» := by decide +kernel
theorem k_law_bush_law_sip : sc_law_bush.names.lookup ("_law_sip" : Str) = some NameKind.globalImplicit := by decide +kernel
theorem k_law_bush_law_spring_here : sc_law_bush.names.lookup ("_law_spring_here" : Str) = some NameKind.«local» := by decide +kernel
theorem ok_law_bush {P : Program} {w : World} {K : PySem.W.Frag} {mg : Str → Option Value} {base : Heap} (B : Bx K mg) : ∀ n : Nat, OkFn P w K mg base "_law_bush" ["_law_spring_here", "_law_deep_here"] (1 + n) (F_law_bush n)
  | 0 => okfn0 B.at_law_bush
  | n + 1 => by
    have ih := ok_law_bush (P := P) (w := w) (base := base) B n
    exact okfn N_law_bush (n := 2) rfl (g_law_bush (F_law_bush n)) B.at_law_bush hs_law_bush S_law_bush fun f cdv A outer s H E hr => jss_cons (js_if (jw_t (jw_or (jt_cmp (op_eqP hr.units) r2_eq (je_var (i := 1) (hN := n_law_bush_1) (hv := Or.inl k_law_bush_law_deep_here) (hd := d_law_deep_here) (hcd := dc_law_deep_here)) (je_int) (nomark _)) (jw_or1 (jt_cmp (op_eqP hr.units) r2_eq (je_call (ok_law_sip B) (hr.mono (by (try simp only [Nat.add_eq]); omega)) (ja_mut (i := 0) (ja_cons (je_int) (ja_nil)) (hN := n_law_bush_0) (hv := Or.inl k_law_bush_law_spring_here) (hd := d_law_spring_here) (hcd := dc_law_spring_here)) (hg := k_law_bush_law_sip) (hdb := d_law_sip)) (je_int) (nomark _))))) (jss_one (js_ret (je_non))) (jss_nil))
      (jss_one (js_ret (je_tup (jd_cons (je_call ih (hr.mono (by (try simp only [Nat.add_eq]); omega)) (ja_mut (i := 0) (ja_cons (je_op op_sub r2_sub (je_var (i := 1) (hN := n_law_bush_1) (hv := Or.inl k_law_bush_law_deep_here) (hd := d_law_deep_here) (hcd := dc_law_deep_here)) (je_int)) (ja_nil)) (hN := n_law_bush_0) (hv := Or.inl k_law_bush_law_spring_here) (hd := d_law_spring_here) (hcd := dc_law_spring_here)) (hg := k_law_bush_law_bush) (hdb := d_law_bush)) (jd_cons (je_call ih (hr.mono (by (try simp only [Nat.add_eq]); omega)) (ja_mut (i := 0) (ja_cons (je_op op_sub r2_sub (je_var (i := 1) (hN := n_law_bush_1) (hv := Or.inl k_law_bush_law_deep_here) (hd := d_law_deep_here) (hcd := dc_law_deep_here)) (je_int)) (ja_nil)) (hN := n_law_bush_0) (hv := Or.inl k_law_bush_law_spring_here) (hd := d_law_spring_here) (hcd := dc_law_spring_here)) (hg := k_law_bush_law_bush) (hdb := d_law_bush)) (jd_nil))))))
def sc_law_grove : Scope := { kind := .function, names := [("_law_spring_here", .«local»), ("_law_deep_here", .«local»), ("_law_sip", .globalImplicit), ("_law_bush", .globalImplicit)], isGenerator := false, isCoroutine := false, more := [] }
def N_law_grove : List Str := ["_law_spring_here", "_law_deep_here"]
theorem hs_law_grove : defScope S78 = sc_law_grove := by rfl
theorem S_law_grove : FnScope N_law_grove ["_law_spring_here", "_law_deep_here"] sc_law_grove := ⟨rfl, rfl, rfl, by decide +kernel, rfl, by decide +kernel, by decide +kernel⟩
theorem n_law_grove_0 : N_law_grove[0]? = some ("_law_spring_here" : Str) := rfl
theorem n_law_grove_1 : N_law_grove[1]? = some ("_law_deep_here" : Str) := rfl
theorem k_law_grove_law_bush : sc_law_grove.names.lookup ("_law_bush" : Str) = some NameKind.globalImplicit := by decide +kernel
theorem k_law_grove_law_deep_here : sc_law_grove.names.lookup ("_law_deep_here" : Str) = some NameKind.«local» := by decide +kernel
theorem k_law_grove_law_sip : sc_law_grove.names.lookup ("_law_sip" : Str) = some NameKind.globalImplicit := by decide +kernel
theorem k_law_grove_law_spring_here : sc_law_grove.names.lookup ("_law_spring_here" : Str) = some NameKind.«local» := by decide +kernel
theorem ok_law_grove {P : Program} {w : World} {K : PySem.W.Frag} {mg : Str → Option Value} {base : Heap} (B : Bx K mg) : OkFn P w K mg base "_law_grove" ["_law_spring_here", "_law_deep_here"] 8 F_law_grove :=
  okfn N_law_grove (n := 2) rfl g_law_grove B.at_law_grove hs_law_grove S_law_grove fun f cdv A outer s H E hr => jss_cons (js_if (jw_t (jw_or (jt_cmp (op_eqP hr.units) r2_eq (je_var (i := 1) (hN := n_law_grove_1) (hv := Or.inl k_law_grove_law_deep_here) (hd := d_law_deep_here) (hcd := dc_law_deep_here)) (je_int) (nomark _)) (jw_or1 (jt_cmp (op_eqP hr.units) r2_eq (je_call (ok_law_sip B) (hr.mono (by decide)) (ja_mut (i := 0) (ja_cons (je_int) (ja_nil)) (hN := n_law_grove_0) (hv := Or.inl k_law_grove_law_spring_here) (hd := d_law_spring_here) (hcd := dc_law_spring_here)) (hg := k_law_grove_law_sip) (hdb := d_law_sip)) (je_int) (nomark _))))) (jss_one (js_ret (je_non))) (jss_nil))
      (jss_one (js_ret (je_tup (jd_cons (je_call (ok_law_bush B 6) (hr.mono (by decide)) (ja_mut (i := 0) (ja_cons (je_op op_sub r2_sub (je_var (i := 1) (hN := n_law_grove_1) (hv := Or.inl k_law_grove_law_deep_here) (hd := d_law_deep_here) (hcd := dc_law_deep_here)) (je_int)) (ja_nil)) (hN := n_law_grove_0) (hv := Or.inl k_law_grove_law_spring_here) (hd := d_law_spring_here) (hcd := dc_law_spring_here)) (hg := k_law_grove_law_bush) (hdb := d_law_bush)) (jd_cons (je_call (ok_law_bush B 6) (hr.mono (by decide)) (ja_mut (i := 0) (ja_cons (je_op op_sub r2_sub (je_var (i := 1) (hN := n_law_grove_1) (hv := Or.inl k_law_grove_law_deep_here) (hd := d_law_deep_here) (hcd := dc_law_deep_here)) (je_int)) (ja_nil)) (hN := n_law_grove_0) (hv := Or.inl k_law_grove_law_spring_here) (hd := d_law_spring_here) (hcd := dc_law_spring_here)) (hg := k_law_grove_law_bush) (hdb := d_law_bush)) (jd_nil))))))
def sc_law_bush_leaves : Scope := { kind := .function, names := [("_law_bush_here", .«local»), ("_law_bush_leaves", .globalImplicit)], isGenerator := false, isCoroutine := false, more := [] }
def N_law_bush_leaves : List Str := ["_law_bush_here"]
theorem hs_law_bush_leaves : defScope S79 = sc_law_bush_leaves := by rfl
theorem S_law_bush_leaves : FnScope N_law_bush_leaves ["_law_bush_here"] sc_law_bush_leaves := ⟨rfl, rfl, rfl, by decide +kernel, rfl, by decide +kernel, by decide +kernel⟩
theorem n_law_bush_leaves_0 : N_law_bush_leaves[0]? = some ("_law_bush_here" : Str) := rfl
theorem k_law_bush_leaves_law_bush_here : sc_law_bush_leaves.names.lookup ("_law_bush_here" : Str) = some NameKind.«local» := by decide +kernel
theorem k_law_bush_leaves_law_bush_leaves : sc_law_bush_leaves.names.lookup ("_law_bush_leaves" : Str) = some NameKind.globalImplicit := by decide +kernel
theorem ok_law_bush_leaves {P : Program} {w : World} {K : PySem.W.Frag} {mg : Str → Option Value} {base : Heap} (B : Bx K mg) : ∀ n : Nat, OkFn P w K mg base "_law_bush_leaves" ["_law_bush_here"] (0 + n) (F_law_bush_leaves n)
  | 0 => okfn0 B.at_law_bush_leaves
  | n + 1 => by
    have ih := ok_law_bush_leaves (P := P) (w := w) (base := base) B n
    exact okfn N_law_bush_leaves (n := 1) rfl (g_law_bush_leaves (F_law_bush_leaves n)) B.at_law_bush_leaves hs_law_bush_leaves S_law_bush_leaves fun f cdv A outer s H E hr => jss_one (js_ret (je_ite (jt_isN (je_var (i := 0) (hN := n_law_bush_leaves_0) (hv := Or.inl k_law_bush_leaves_law_bush_here) (hd := d_law_bush_here) (hcd := dc_law_bush_here))) (je_int) (je_op op_addL r2_add (je_call ih (hr.mono (by (try simp only [Nat.add_eq]); omega)) (ja_cons (je_ix ix_seq r2_idx (je_var (i := 0) (hN := n_law_bush_leaves_0) (hv := Or.inl k_law_bush_leaves_law_bush_here) (hd := d_law_bush_here) (hcd := dc_law_bush_here)) (je_int)) (ja_nil)) (hg := k_law_bush_leaves_law_bush_leaves) (hdb := d_law_bush_leaves)) (je_call ih (hr.mono (by (try simp only [Nat.add_eq]); omega)) (ja_cons (je_ix ix_seq r2_idx (je_var (i := 0) (hN := n_law_bush_leaves_0) (hv := Or.inl k_law_bush_leaves_law_bush_here) (hd := d_law_bush_here) (hcd := dc_law_bush_here)) (je_int)) (ja_nil)) (hg := k_law_bush_leaves_law_bush_leaves) (hdb := d_law_bush_leaves)))))
def sc_law_led : Scope := { kind := .function, names := [("_law_pair", .«local»), ("_law_bush_here", .«local»), ("_law_x", .«local»), ("_law_one", .«local»), ("_law_two", .«local»), ("_law_parted", .globalImplicit), ("_law_led", .globalImplicit)], isGenerator := false, isCoroutine := false, more := [] }
def N_law_led : List Str := ["_law_pair", "_law_bush_here", "_law_x", "_law_one", "_law_two"]
theorem hs_law_led : defScope S80 = sc_law_led := by rfl
theorem S_law_led : FnScope N_law_led ["_law_pair", "_law_bush_here", "_law_x"] sc_law_led := ⟨rfl, rfl, rfl, by decide +kernel, rfl, by decide +kernel, by decide +kernel⟩
theorem n_law_led_0 : N_law_led[0]? = some ("_law_pair" : Str) := rfl
theorem n_law_led_1 : N_law_led[1]? = some ("_law_bush_here" : Str) := rfl
theorem n_law_led_2 : N_law_led[2]? = some ("_law_x" : Str) := rfl
theorem n_law_led_3 : N_law_led[3]? = some ("_law_one" : Str) := rfl
theorem n_law_led_4 : N_law_led[4]? = some ("_law_two" : Str) := rfl
theorem k_law_led_law_bush_here : sc_law_led.names.lookup ("_law_bush_here" : Str) = some NameKind.«local» := by decide +kernel
theorem k_law_led_law_led : sc_law_led.names.lookup ("_law_led" : Str) = some NameKind.globalImplicit := by decide +kernel
theorem k_law_led_law_one : sc_law_led.names.lookup ("_law_one" : Str) = some NameKind.«local» := by decide +kernel
theorem k_law_led_law_pair : sc_law_led.names.lookup ("_law_pair" : Str) = some NameKind.«local» := by decide +kernel
theorem k_law_led_law_parted : sc_law_led.names.lookup ("_law_parted" : Str) = some NameKind.globalImplicit := by decide +kernel
theorem k_law_led_law_two : sc_law_led.names.lookup ("_law_two" : Str) = some NameKind.«local» := by decide +kernel
theorem k_law_led_law_x : sc_law_led.names.lookup ("_law_x" : Str) = some NameKind.«local» := by decide +kernel
theorem ok_law_led {P : Program} {w : World} {K : PySem.W.Frag} {mg : Str → Option Value} {base : Heap} (B : Bx K mg) : ∀ n : Nat, OkFn P w K mg base "_law_led" ["_law_pair", "_law_bush_here", "_law_x"] (4 + n) (F_law_led n)
  | 0 => okfn0 B.at_law_led
  | n + 1 => by
    have ih := ok_law_led (P := P) (w := w) (base := base) B n
    exact okfn N_law_led (n := 5) rfl (g_law_led (F_law_led n)) B.at_law_led hs_law_led S_law_led fun f cdv A outer s H E hr => jss_cons (js_if (jt_isN (je_var (i := 1) (hN := n_law_led_1) (hv := Or.inl k_law_led_law_bush_here) (hd := d_law_bush_here) (hcd := dc_law_bush_here))) (jss_one (js_ret (je_list (jl_disp (jd_cons (je_var (i := 2) (hN := n_law_led_2) (hv := Or.inl k_law_led_law_x) (hd := d_law_x) (hcd := dc_law_x)) (jd_nil)))))) (jss_nil))
      (jss_cons (js_asg (je_call (ok_law_parted B) (hr.mono (by (try simp only [Nat.add_eq]); omega)) (ja_cons (je_var (i := 0) (hN := n_law_led_0) (hv := Or.inl k_law_led_law_pair) (hd := d_law_pair) (hcd := dc_law_pair)) (ja_cons (je_var (i := 2) (hN := n_law_led_2) (hv := Or.inl k_law_led_law_x) (hd := d_law_x) (hcd := dc_law_x)) (ja_nil))) (hg := k_law_led_law_parted) (hdb := d_law_parted)) (jg_tup (jgs_cons (jg_name (i := 3) S_law_led.nd (hi := n_law_led_3) (hx := Or.inl k_law_led_law_one) (hf := Or.inl rfl)) (jgs_cons (jg_name (i := 4) S_law_led.nd (hi := n_law_led_4) (hx := Or.inl k_law_led_law_two) (hf := Or.inl rfl)) (jgs_nil)))))
      (jss_one (js_ret (je_op op_addL r2_add (je_call ih (hr.mono (by (try simp only [Nat.add_eq]); omega)) (ja_cons (je_var (i := 0) (hN := n_law_led_0) (hv := Or.inl k_law_led_law_pair) (hd := d_law_pair) (hcd := dc_law_pair)) (ja_cons (je_ix ix_seq r2_idx (je_var (i := 1) (hN := n_law_led_1) (hv := Or.inl k_law_led_law_bush_here) (hd := d_law_bush_here) (hcd := dc_law_bush_here)) (je_int)) (ja_cons (je_var (i := 3) (hN := n_law_led_3) (hv := Or.inl k_law_led_law_one) (hd := d_law_one) (hcd := dc_law_one)) (ja_nil)))) (hg := k_law_led_law_led) (hdb := d_law_led)) (je_call ih (hr.mono (by (try simp only [Nat.add_eq]); omega)) (ja_cons (je_var (i := 0) (hN := n_law_led_0) (hv := Or.inl k_law_led_law_pair) (hd := d_law_pair) (hcd := dc_law_pair)) (ja_cons (je_ix ix_seq r2_idx (je_var (i := 1) (hN := n_law_led_1) (hv := Or.inl k_law_led_law_bush_here) (hd := d_law_bush_here) (hcd := dc_law_bush_here)) (je_int)) (ja_cons (je_var (i := 4) (hN := n_law_led_4) (hv := Or.inl k_law_led_law_two) (hd := d_law_two) (hcd := dc_law_two)) (ja_nil)))) (hg := k_law_led_law_led) (hdb := d_law_led))))))
def sc_law_led_back : Scope := { kind := .function, names := [("_law_pair", .«local»), ("_law_bush_here", .«local»), ("_law_some_here", .«local»), ("_law_cut", .«local»), ("_law_bush_leaves", .globalImplicit), ("_law_united", .globalImplicit), ("_law_led_back", .globalImplicit)], isGenerator := false, isCoroutine := false, more := [] }
def N_law_led_back : List Str := ["_law_pair", "_law_bush_here", "_law_some_here", "_law_cut"]
theorem hs_law_led_back : defScope S81 = sc_law_led_back := by rfl
theorem S_law_led_back : FnScope N_law_led_back ["_law_pair", "_law_bush_here", "_law_some_here"] sc_law_led_back := ⟨rfl, rfl, rfl, by decide +kernel, rfl, by decide +kernel, by decide +kernel⟩
theorem n_law_led_back_0 : N_law_led_back[0]? = some ("_law_pair" : Str) := rfl
theorem n_law_led_back_1 : N_law_led_back[1]? = some ("_law_bush_here" : Str) := rfl
theorem n_law_led_back_2 : N_law_led_back[2]? = some ("_law_some_here" : Str) := rfl
theorem n_law_led_back_3 : N_law_led_back[3]? = some ("_law_cut" : Str) := rfl
theorem k_law_led_back_law_bush_here : sc_law_led_back.names.lookup ("_law_bush_here" : Str) = some NameKind.«local» := by decide +kernel
theorem k_law_led_back_law_bush_leaves : sc_law_led_back.names.lookup ("_law_bush_leaves" : Str) = some NameKind.globalImplicit := by decide +kernel
theorem k_law_led_back_law_cut : sc_law_led_back.names.lookup ("_law_cut" : Str) = some NameKind.«local» := by decide +kernel
theorem k_law_led_back_law_led_back : sc_law_led_back.names.lookup ("_law_led_back" : Str) = some NameKind.globalImplicit := by decide +kernel
theorem k_law_led_back_law_pair : sc_law_led_back.names.lookup ("_law_pair" : Str) = some NameKind.«local» := by decide +kernel
theorem k_law_led_back_law_some_here : sc_law_led_back.names.lookup ("_law_some_here" : Str) = some NameKind.«local» := by decide +kernel
theorem k_law_led_back_law_united : sc_law_led_back.names.lookup ("_law_united" : Str) = some NameKind.globalImplicit := by decide +kernel
theorem ok_law_led_back {P : Program} {w : World} {K : PySem.W.Frag} {mg : Str → Option Value} {base : Heap} (B : Bx K mg) : ∀ n : Nat, OkFn P w K mg base "_law_led_back" ["_law_pair", "_law_bush_here", "_law_some_here"] (6 + n) (F_law_led_back n)
  | 0 => okfn0 B.at_law_led_back
  | n + 1 => by
    have ih := ok_law_led_back (P := P) (w := w) (base := base) B n
    exact okfn N_law_led_back (n := 4) rfl (g_law_led_back (F_law_led_back n)) B.at_law_led_back hs_law_led_back S_law_led_back fun f cdv A outer s H E hr => jss_cons (js_if (jt_isN (je_var (i := 1) (hN := n_law_led_back_1) (hv := Or.inl k_law_led_back_law_bush_here) (hd := d_law_bush_here) (hcd := dc_law_bush_here))) (jss_one (js_ret (je_ix ix_seq r2_idx (je_var (i := 2) (hN := n_law_led_back_2) (hv := Or.inl k_law_led_back_law_some_here) (hd := d_law_some_here) (hcd := dc_law_some_here)) (je_int)))) (jss_nil))
      (jss_cons (js_set (i := 3) S_law_led_back.nd (je_call (ok_law_bush_leaves B 6) (hr.mono (by (try simp only [Nat.add_eq]); omega)) (ja_cons (je_ix ix_seq r2_idx (je_var (i := 1) (hN := n_law_led_back_1) (hv := Or.inl k_law_led_back_law_bush_here) (hd := d_law_bush_here) (hcd := dc_law_bush_here)) (je_int)) (ja_nil)) (hg := k_law_led_back_law_bush_leaves) (hdb := d_law_bush_leaves)) (hi := n_law_led_back_3) (hx := Or.inl k_law_led_back_law_cut) (hf := Or.inl rfl))
      (jss_one (js_ret (je_call (ok_law_united B) (hr.mono (by (try simp only [Nat.add_eq]); omega)) (ja_cons (je_var (i := 0) (hN := n_law_led_back_0) (hv := Or.inl k_law_led_back_law_pair) (hd := d_law_pair) (hcd := dc_law_pair)) (ja_cons (je_tup (jd_cons (je_call ih (hr.mono (by (try simp only [Nat.add_eq]); omega)) (ja_cons (je_var (i := 0) (hN := n_law_led_back_0) (hv := Or.inl k_law_led_back_law_pair) (hd := d_law_pair) (hcd := dc_law_pair)) (ja_cons (je_ix ix_seq r2_idx (je_var (i := 1) (hN := n_law_led_back_1) (hv := Or.inl k_law_led_back_law_bush_here) (hd := d_law_bush_here) (hcd := dc_law_bush_here)) (je_int)) (ja_cons (je_list (jl_sl (je_var (i := 2) (hN := n_law_led_back_2) (hv := Or.inl k_law_led_back_law_some_here) (hd := d_law_some_here) (hcd := dc_law_some_here)) (jo_none) (jo_some (je_var (i := 3) (hN := n_law_led_back_3) (hv := Or.inl k_law_led_back_law_cut) (hd := d_law_cut) (hcd := dc_law_cut))))) (ja_nil)))) (hg := k_law_led_back_law_led_back) (hdb := d_law_led_back)) (jd_cons (je_call ih (hr.mono (by (try simp only [Nat.add_eq]); omega)) (ja_cons (je_var (i := 0) (hN := n_law_led_back_0) (hv := Or.inl k_law_led_back_law_pair) (hd := d_law_pair) (hcd := dc_law_pair)) (ja_cons (je_ix ix_seq r2_idx (je_var (i := 1) (hN := n_law_led_back_1) (hv := Or.inl k_law_led_back_law_bush_here) (hd := d_law_bush_here) (hcd := dc_law_bush_here)) (je_int)) (ja_cons (je_list (jl_sl (je_var (i := 2) (hN := n_law_led_back_2) (hv := Or.inl k_law_led_back_law_some_here) (hd := d_law_some_here) (hcd := dc_law_some_here)) (jo_some (je_var (i := 3) (hN := n_law_led_back_3) (hv := Or.inl k_law_led_back_law_cut) (hd := d_law_cut) (hcd := dc_law_cut))) (jo_none))) (ja_nil)))) (hg := k_law_led_back_law_led_back) (hdb := d_law_led_back)) (jd_nil)))) (ja_nil))) (hg := k_law_led_back_law_united) (hdb := d_law_united)))))
def sc_law_all_trees : Scope := { kind := .function, names := [("_law_pair", .«local»), ("_law_x", .«local»), ("_law_deep_here", .«local»), ("_law_found", .«local»), ("_law_one", .«local»), ("_law_two", .«local»), ("_law_lasts", .«local»), ("_law_each", .«local»), ("_law_last", .«local»), ("_law_count", .globalImplicit), ("_law_parted", .globalImplicit), ("_law_all_trees", .globalImplicit)], isGenerator := false, isCoroutine := false, more := [] }
def N_law_all_trees : List Str := ["_law_pair", "_law_x", "_law_deep_here", "_law_found", "_law_one", "_law_two", "_law_lasts", "_law_each", "_law_last"]
theorem hs_law_all_trees : defScope S82 = sc_law_all_trees := by rfl
theorem S_law_all_trees : FnScope N_law_all_trees ["_law_pair", "_law_x", "_law_deep_here"] sc_law_all_trees := ⟨rfl, rfl, rfl, by decide +kernel, rfl, by decide +kernel, by decide +kernel⟩
theorem n_law_all_trees_0 : N_law_all_trees[0]? = some ("_law_pair" : Str) := rfl
theorem n_law_all_trees_1 : N_law_all_trees[1]? = some ("_law_x" : Str) := rfl
theorem n_law_all_trees_2 : N_law_all_trees[2]? = some ("_law_deep_here" : Str) := rfl
theorem n_law_all_trees_3 : N_law_all_trees[3]? = some ("_law_found" : Str) := rfl
theorem n_law_all_trees_4 : N_law_all_trees[4]? = some ("_law_one" : Str) := rfl
theorem n_law_all_trees_5 : N_law_all_trees[5]? = some ("_law_two" : Str) := rfl
theorem n_law_all_trees_6 : N_law_all_trees[6]? = some ("_law_lasts" : Str) := rfl
theorem n_law_all_trees_7 : N_law_all_trees[7]? = some ("_law_each" : Str) := rfl
theorem n_law_all_trees_8 : N_law_all_trees[8]? = some ("_law_last" : Str) := rfl
theorem k_law_all_trees_law_all_trees : sc_law_all_trees.names.lookup ("_law_all_trees" : Str) = some NameKind.globalImplicit := by decide +kernel
theorem k_law_all_trees_law_count : sc_law_all_trees.names.lookup ("_law_count" : Str) = some NameKind.globalImplicit := by decide +kernel
theorem k_law_all_trees_law_deep_here : sc_law_all_trees.names.lookup ("_law_deep_here" : Str) = some NameKind.«local» := by decide +kernel
theorem k_law_all_trees_law_each : sc_law_all_trees.names.lookup ("_law_each" : Str) = some NameKind.«local» := by decide +kernel
theorem k_law_all_trees_law_found : sc_law_all_trees.names.lookup ("_law_found" : Str) = some NameKind.«local» := by decide +kernel
theorem k_law_all_trees_law_last : sc_law_all_trees.names.lookup ("_law_last" : Str) = some NameKind.«local» := by decide +kernel
theorem k_law_all_trees_law_lasts : sc_law_all_trees.names.lookup ("_law_lasts" : Str) = some NameKind.«local» := by decide +kernel
theorem k_law_all_trees_law_one : sc_law_all_trees.names.lookup ("_law_one" : Str) = some NameKind.«local» := by decide +kernel
theorem k_law_all_trees_law_pair : sc_law_all_trees.names.lookup ("_law_pair" : Str) = some NameKind.«local» := by decide +kernel
theorem k_law_all_trees_law_parted : sc_law_all_trees.names.lookup ("_law_parted" : Str) = some NameKind.globalImplicit := by decide +kernel
theorem k_law_all_trees_law_two : sc_law_all_trees.names.lookup ("_law_two" : Str) = some NameKind.«local» := by decide +kernel
theorem k_law_all_trees_law_x : sc_law_all_trees.names.lookup ("_law_x" : Str) = some NameKind.«local» := by decide +kernel
theorem ok_law_all_trees {P : Program} {w : World} {K : PySem.W.Frag} {mg : Str → Option Value} {base : Heap} (B : Bx K mg) : ∀ n : Nat, OkFn P w K mg base "_law_all_trees" ["_law_pair", "_law_x", "_law_deep_here"] (4 + n) (F_law_all_trees n)
  | 0 => okfn0 B.at_law_all_trees
  | n + 1 => by
    have ih := ok_law_all_trees (P := P) (w := w) (base := base) B n
    exact okfn N_law_all_trees (n := 9) rfl (g_law_all_trees (F_law_all_trees n)) B.at_law_all_trees hs_law_all_trees S_law_all_trees fun f cdv A outer s H E hr => jss_cons (js_new (i := 3) S_law_all_trees.nd (jl_disp (jd_cons (je_tup (jd_cons (je_call (ok_law_count B) (hr.mono (by (try simp only [Nat.add_eq]); omega)) (ja_cons (je_var (i := 1) (hN := n_law_all_trees_1) (hv := Or.inl k_law_all_trees_law_x) (hd := d_law_x) (hcd := dc_law_x)) (ja_nil)) (hg := k_law_all_trees_law_count) (hdb := d_law_count)) (jd_cons (je_int) (jd_cons (je_non) (jd_nil))))) (jd_nil))) (hi := n_law_all_trees_3) (hx := Or.inl k_law_all_trees_law_found) (hf := Or.inl rfl))
      (jss_cons (js_if (jt_cmp (op_eqP hr.units) r2_eq (je_var (i := 2) (hN := n_law_all_trees_2) (hv := Or.inl k_law_all_trees_law_deep_here) (hd := d_law_deep_here) (hcd := dc_law_deep_here)) (je_int) (nomark _)) (jss_one (js_ret (je_frz (i := 3) (hN := n_law_all_trees_3) (hv := Or.inl k_law_all_trees_law_found) (hd := d_law_found) (hcd := dc_law_found)))) (jss_nil))
      (jss_cons (js_asg (je_call (ok_law_parted B) (hr.mono (by (try simp only [Nat.add_eq]); omega)) (ja_cons (je_var (i := 0) (hN := n_law_all_trees_0) (hv := Or.inl k_law_all_trees_law_pair) (hd := d_law_pair) (hcd := dc_law_pair)) (ja_cons (je_var (i := 1) (hN := n_law_all_trees_1) (hv := Or.inl k_law_all_trees_law_x) (hd := d_law_x) (hcd := dc_law_x)) (ja_nil))) (hg := k_law_all_trees_law_parted) (hdb := d_law_parted)) (jg_tup (jgs_cons (jg_name (i := 4) S_law_all_trees.nd (hi := n_law_all_trees_4) (hx := Or.inl k_law_all_trees_law_one) (hf := Or.inl rfl)) (jgs_cons (jg_name (i := 5) S_law_all_trees.nd (hi := n_law_all_trees_5) (hx := Or.inl k_law_all_trees_law_two) (hf := Or.inl rfl)) (jgs_nil)))))
      (jss_cons (js_set (i := 6) S_law_all_trees.nd (je_call ih (hr.mono (by (try simp only [Nat.add_eq]); omega)) (ja_cons (je_var (i := 0) (hN := n_law_all_trees_0) (hv := Or.inl k_law_all_trees_law_pair) (hd := d_law_pair) (hcd := dc_law_pair)) (ja_cons (je_var (i := 5) (hN := n_law_all_trees_5) (hv := Or.inl k_law_all_trees_law_two) (hd := d_law_two) (hcd := dc_law_two)) (ja_cons (je_op op_sub r2_sub (je_var (i := 2) (hN := n_law_all_trees_2) (hv := Or.inl k_law_all_trees_law_deep_here) (hd := d_law_deep_here) (hcd := dc_law_deep_here)) (je_int)) (ja_nil)))) (hg := k_law_all_trees_law_all_trees) (hdb := d_law_all_trees)) (hi := n_law_all_trees_6) (hx := Or.inl k_law_all_trees_law_lasts) (hf := Or.inl rfl))
      (jss_cons (js_for PassesOwn.never (jx_list (je_call ih (hr.mono (by (try simp only [Nat.add_eq]); omega)) (ja_cons (je_var (i := 0) (hN := n_law_all_trees_0) (hv := Or.inl k_law_all_trees_law_pair) (hd := d_law_pair) (hcd := dc_law_pair)) (ja_cons (je_var (i := 4) (hN := n_law_all_trees_4) (hv := Or.inl k_law_all_trees_law_one) (hd := d_law_one) (hcd := dc_law_one)) (ja_cons (je_op op_sub r2_sub (je_var (i := 2) (hN := n_law_all_trees_2) (hv := Or.inl k_law_all_trees_law_deep_here) (hd := d_law_deep_here) (hcd := dc_law_deep_here)) (je_int)) (ja_nil)))) (hg := k_law_all_trees_law_all_trees) (hdb := d_law_all_trees))) (jg_name (i := 7) S_law_all_trees.nd (hi := n_law_all_trees_7) (hx := Or.inl k_law_all_trees_law_each) (hf := Or.inl rfl)) (jss_one (js_for PassesOwn.never (jx_list (je_var (i := 6) (hN := n_law_all_trees_6) (hv := Or.inl k_law_all_trees_law_lasts) (hd := d_law_lasts) (hcd := dc_law_lasts))) (jg_name (i := 8) S_law_all_trees.nd (hi := n_law_all_trees_8) (hx := Or.inl k_law_all_trees_law_last) (hf := Or.inl rfl)) (jss_one (js_app (i := 3) (je_tup (jd_cons (je_op op_addL r2_add (je_ix ix_seq r2_idx (je_var (i := 7) (hN := n_law_all_trees_7) (hv := Or.inl k_law_all_trees_law_each) (hd := d_law_each) (hcd := dc_law_each)) (je_int)) (je_ix ix_seq r2_idx (je_var (i := 8) (hN := n_law_all_trees_8) (hv := Or.inl k_law_all_trees_law_last) (hd := d_law_last) (hcd := dc_law_last)) (je_int))) (jd_cons (je_op op_addL r2_add (je_ix ix_seq r2_idx (je_var (i := 7) (hN := n_law_all_trees_7) (hv := Or.inl k_law_all_trees_law_each) (hd := d_law_each) (hcd := dc_law_each)) (je_int)) (je_ix ix_seq r2_idx (je_var (i := 8) (hN := n_law_all_trees_8) (hv := Or.inl k_law_all_trees_law_last) (hd := d_law_last) (hcd := dc_law_last)) (je_int))) (jd_cons (je_tup (jd_cons (je_ix ix_seq r2_idx (je_var (i := 7) (hN := n_law_all_trees_7) (hv := Or.inl k_law_all_trees_law_each) (hd := d_law_each) (hcd := dc_law_each)) (je_int)) (jd_cons (je_ix ix_seq r2_idx (je_var (i := 8) (hN := n_law_all_trees_8) (hv := Or.inl k_law_all_trees_law_last) (hd := d_law_last) (hcd := dc_law_last)) (je_int)) (jd_nil)))) (jd_nil))))) (hN := n_law_all_trees_3) (hv := Or.inl k_law_all_trees_law_found) (hd := d_law_found) (hcd := dc_law_found))))))
      (jss_one (js_ret (je_frz (i := 3) (hN := n_law_all_trees_3) (hv := Or.inl k_law_all_trees_law_found) (hd := d_law_found) (hcd := dc_law_found))))))))
def sc_law_best : Scope := { kind := .function, names := [("_law_some_here", .«local»), ("_law_best_here", .«local»), ("_law_count_here", .«local»), ("_law_each", .«local»)], isGenerator := false, isCoroutine := false, more := [] }
def N_law_best : List Str := ["_law_some_here", "_law_best_here", "_law_count_here", "_law_each"]
theorem hs_law_best : defScope S83 = sc_law_best := by rfl
theorem S_law_best : FnScope N_law_best ["_law_some_here"] sc_law_best := ⟨rfl, rfl, rfl, by decide +kernel, rfl, by decide +kernel, by decide +kernel⟩
theorem n_law_best_0 : N_law_best[0]? = some ("_law_some_here" : Str) := rfl
theorem n_law_best_1 : N_law_best[1]? = some ("_law_best_here" : Str) := rfl
theorem n_law_best_2 : N_law_best[2]? = some ("_law_count_here" : Str) := rfl
theorem n_law_best_3 : N_law_best[3]? = some ("_law_each" : Str) := rfl
theorem k_law_best_law_best_here : sc_law_best.names.lookup ("_law_best_here" : Str) = some NameKind.«local» := by decide +kernel
theorem k_law_best_law_count_here : sc_law_best.names.lookup ("_law_count_here" : Str) = some NameKind.«local» := by decide +kernel
theorem k_law_best_law_each : sc_law_best.names.lookup ("_law_each" : Str) = some NameKind.«local» := by decide +kernel
theorem k_law_best_law_some_here : sc_law_best.names.lookup ("_law_some_here" : Str) = some NameKind.«local» := by decide +kernel
theorem ok_law_best {P : Program} {w : World} {K : PySem.W.Frag} {mg : Str → Option Value} {base : Heap} (B : Bx K mg) : OkFn P w K mg base "_law_best" ["_law_some_here"] 1 F_law_best :=
  okfn N_law_best (n := 4) rfl g_law_best B.at_law_best hs_law_best S_law_best fun f cdv A outer s H E hr => jss_cons (js_par (i := 1) (j := 2) S_law_best.nd (je_ix ix_seq r2_idx (je_var (i := 0) (hN := n_law_best_0) (hv := Or.inl k_law_best_law_some_here) (hd := d_law_some_here) (hcd := dc_law_some_here)) (je_int)) (je_int) (hi := n_law_best_1) (hj := n_law_best_2) (hx := k_law_best_law_best_here) (hy := k_law_best_law_count_here))
      (jss_cons (js_for PassesOwn.never (jx_list (je_var (i := 0) (hN := n_law_best_0) (hv := Or.inl k_law_best_law_some_here) (hd := d_law_some_here) (hcd := dc_law_some_here))) (jg_name (i := 3) S_law_best.nd (hi := n_law_best_3) (hx := Or.inl k_law_best_law_each) (hf := Or.inl rfl)) (jss_cons (js_if (jt_cmp (op_ltT hr.units0) r2_ltT (je_slT (je_var (i := 3) (hN := n_law_best_3) (hv := Or.inl k_law_best_law_each) (hd := d_law_each) (hcd := dc_law_each)) (jo_none) (jo_some (je_int))) (je_slT (je_var (i := 1) (hN := n_law_best_1) (hv := Or.inl k_law_best_law_best_here) (hd := d_law_best_here) (hcd := dc_law_best_here)) (jo_none) (jo_some (je_int))) (nomark _)) (jss_one (js_par (i := 1) (j := 2) S_law_best.nd (je_var (i := 3) (hN := n_law_best_3) (hv := Or.inl k_law_best_law_each) (hd := d_law_each) (hcd := dc_law_each)) (je_int) (hi := n_law_best_1) (hj := n_law_best_2) (hx := k_law_best_law_best_here) (hy := k_law_best_law_count_here))) (jss_nil))
      (jss_one (js_if (jt_cmp (op_eqP hr.units) r2_eq (je_slT (je_var (i := 3) (hN := n_law_best_3) (hv := Or.inl k_law_best_law_each) (hd := d_law_each) (hcd := dc_law_each)) (jo_none) (jo_some (je_int))) (je_slT (je_var (i := 1) (hN := n_law_best_1) (hv := Or.inl k_law_best_law_best_here) (hd := d_law_best_here) (hcd := dc_law_best_here)) (jo_none) (jo_some (je_int))) (nomark _)) (jss_one (js_set (i := 2) S_law_best.nd (je_op op_addL r2_add (je_var (i := 2) (hN := n_law_best_2) (hv := Or.inl k_law_best_law_count_here) (hd := d_law_count_here) (hcd := dc_law_count_here)) (je_int)) (hi := n_law_best_2) (hx := Or.inl k_law_best_law_count_here) (hf := Or.inl rfl))) (jss_nil)))))
      (jss_one (js_ret (je_tup (jd_cons (je_var (i := 1) (hN := n_law_best_1) (hv := Or.inl k_law_best_law_best_here) (hd := d_law_best_here) (hcd := dc_law_best_here)) (jd_cons (je_var (i := 2) (hN := n_law_best_2) (hv := Or.inl k_law_best_law_count_here) (hd := d_law_count_here) (hcd := dc_law_count_here)) (jd_nil)))))))
def sc_law_sparse : Scope := { kind := .function, names := [("_law_spring_here", .«local»), ("_law_pair", .«local»), ("_law_bush_here", .«local»), ("_law_some_here", .«local»), ("_law_lap", .«local»), ("_law_x", .«local»), ("_law_grove", .globalImplicit), ("range", .globalImplicit), ("_law_bush_leaves", .globalImplicit), ("_law_sip", .globalImplicit), ("_law_some", .globalImplicit), ("_law_led_back", .globalImplicit), ("_law_undone", .globalImplicit), ("len", .globalImplicit), ("_law_row", .globalImplicit)], isGenerator := false, isCoroutine := false, more := [] }
def N_law_sparse : List Str := ["_law_spring_here", "_law_pair", "_law_bush_here", "_law_some_here", "_law_lap", "_law_x"]
theorem hs_law_sparse : defScope S84 = sc_law_sparse := by rfl
theorem S_law_sparse : FnScope N_law_sparse ["_law_spring_here", "_law_pair"] sc_law_sparse := ⟨rfl, rfl, rfl, by decide +kernel, rfl, by decide +kernel, by decide +kernel⟩
theorem n_law_sparse_0 : N_law_sparse[0]? = some ("_law_spring_here" : Str) := rfl
theorem n_law_sparse_1 : N_law_sparse[1]? = some ("_law_pair" : Str) := rfl
theorem n_law_sparse_2 : N_law_sparse[2]? = some ("_law_bush_here" : Str) := rfl
theorem n_law_sparse_3 : N_law_sparse[3]? = some ("_law_some_here" : Str) := rfl
theorem n_law_sparse_4 : N_law_sparse[4]? = some ("_law_lap" : Str) := rfl
theorem n_law_sparse_5 : N_law_sparse[5]? = some ("_law_x" : Str) := rfl
theorem k_law_sparse_law_bush_here : sc_law_sparse.names.lookup ("_law_bush_here" : Str) = some NameKind.«local» := by decide +kernel
theorem k_law_sparse_law_bush_leaves : sc_law_sparse.names.lookup ("_law_bush_leaves" : Str) = some NameKind.globalImplicit := by decide +kernel
theorem k_law_sparse_law_grove : sc_law_sparse.names.lookup ("_law_grove" : Str) = some NameKind.globalImplicit := by decide +kernel
theorem k_law_sparse_law_lap : sc_law_sparse.names.lookup ("_law_lap" : Str) = some NameKind.«local» := by decide +kernel
theorem k_law_sparse_law_led_back : sc_law_sparse.names.lookup ("_law_led_back" : Str) = some NameKind.globalImplicit := by decide +kernel
theorem k_law_sparse_law_pair : sc_law_sparse.names.lookup ("_law_pair" : Str) = some NameKind.«local» := by decide +kernel
theorem k_law_sparse_law_row : sc_law_sparse.names.lookup ("_law_row" : Str) = some NameKind.globalImplicit := by decide +kernel
theorem k_law_sparse_law_sip : sc_law_sparse.names.lookup ("_law_sip" : Str) = some NameKind.globalImplicit := by decide +kernel
theorem k_law_sparse_law_some : sc_law_sparse.names.lookup ("_law_some" : Str) = some NameKind.globalImplicit := by decide +kernel
theorem k_law_sparse_law_some_here : sc_law_sparse.names.lookup ("_law_some_here" : Str) = some NameKind.«local» := by decide +kernel
theorem k_law_sparse_law_spring_here : sc_law_sparse.names.lookup ("_law_spring_here" : Str) = some NameKind.«local» := by decide +kernel
theorem k_law_sparse_law_undone : sc_law_sparse.names.lookup ("_law_undone" : Str) = some NameKind.globalImplicit := by decide +kernel
theorem k_law_sparse_law_x : sc_law_sparse.names.lookup ("_law_x" : Str) = some NameKind.«local» := by decide +kernel
theorem k_law_sparse_len : sc_law_sparse.names.lookup ("len" : Str) = some NameKind.globalImplicit := by decide +kernel
theorem k_law_sparse_range : sc_law_sparse.names.lookup ("range" : Str) = some NameKind.globalImplicit := by decide +kernel
theorem ok_law_sparse {P : Program} {w : World} {K : PySem.W.Frag} {mg : Str → Option Value} {base : Heap} (B : Bx K mg) : OkFn P w K mg base "_law_sparse" ["_law_spring_here", "_law_pair"] 13 F_law_sparse :=
  okfn N_law_sparse (n := 6) rfl g_law_sparse B.at_law_sparse hs_law_sparse S_law_sparse fun f cdv A outer s H E hr => jss_cons (js_parN (i := 2) (j := 3) S_law_sparse.nd (je_call (ok_law_grove B) (hr.mono (by decide)) (ja_mut (i := 0) (ja_cons (je_int) (ja_nil)) (hN := n_law_sparse_0) (hv := Or.inl k_law_sparse_law_spring_here) (hd := d_law_spring_here) (hcd := dc_law_spring_here)) (hg := k_law_sparse_law_grove) (hdb := d_law_grove)) (jl_disp (jd_nil)) (hi := n_law_sparse_2) (hj := n_law_sparse_3) (hx := k_law_sparse_law_bush_here) (hy := k_law_sparse_law_some_here))
      (jss_cons (js_for PassesOwn.never (jx_r1 (je_call (ok_law_bush_leaves B 6) (hr.mono (by decide)) (ja_cons (je_var (i := 2) (hN := n_law_sparse_2) (hv := Or.inl k_law_sparse_law_bush_here) (hd := d_law_bush_here) (hcd := dc_law_bush_here)) (ja_nil)) (hg := k_law_sparse_law_bush_leaves) (hdb := d_law_bush_leaves)) B.b_range (hg := k_law_sparse_range)) (jg_name (i := 4) S_law_sparse.nd (hi := n_law_sparse_4) (hx := Or.inl k_law_sparse_law_lap) (hf := Or.inl rfl)) (jss_one (js_app (i := 3) (je_ite (jt_cmp (op_eqP hr.units) r2_eq (je_call (ok_law_sip B) (hr.mono (by decide)) (ja_mut (i := 0) (ja_cons (je_int) (ja_nil)) (hN := n_law_sparse_0) (hv := Or.inl k_law_sparse_law_spring_here) (hd := d_law_spring_here) (hcd := dc_law_spring_here)) (hg := k_law_sparse_law_sip) (hdb := d_law_sip)) (je_int) (nomark _)) (je_tup (jd_cons (je_op op_sub r2_sub (je_call (ok_law_sip B) (hr.mono (by decide)) (ja_mut (i := 0) (ja_cons (je_int) (ja_nil)) (hN := n_law_sparse_0) (hv := Or.inl k_law_sparse_law_spring_here) (hd := d_law_spring_here) (hcd := dc_law_spring_here)) (hg := k_law_sparse_law_sip) (hdb := d_law_sip)) (je_int)) (jd_cons (je_tup (jd_cons (je_call (ok_law_some B) (hr.mono (by decide)) (ja_mut (i := 0) (ja_nil) (hN := n_law_sparse_0) (hv := Or.inl k_law_sparse_law_spring_here) (hd := d_law_spring_here) (hcd := dc_law_spring_here)) (hg := k_law_sparse_law_some) (hdb := d_law_some)) (jd_nil))) (jd_nil)))) (je_tup (jd_cons (je_int) (jd_cons (je_tup (jd_nil)) (jd_nil))))) (hN := n_law_sparse_3) (hv := Or.inl k_law_sparse_law_some_here) (hd := d_law_some_here) (hcd := dc_law_some_here))))
      (jss_cons (js_set (i := 5) S_law_sparse.nd (je_call (ok_law_led_back B 6) (hr.mono (by decide)) (ja_cons (je_call (ok_law_undone B) (hr.mono (by decide)) (ja_cons (je_var (i := 1) (hN := n_law_sparse_1) (hv := Or.inl k_law_sparse_law_pair) (hd := d_law_pair) (hcd := dc_law_pair)) (ja_nil)) (hg := k_law_sparse_law_undone) (hdb := d_law_undone)) (ja_cons (je_var (i := 2) (hN := n_law_sparse_2) (hv := Or.inl k_law_sparse_law_bush_here) (hd := d_law_bush_here) (hcd := dc_law_bush_here)) (ja_cons (je_frz (i := 3) (hN := n_law_sparse_3) (hv := Or.inl k_law_sparse_law_some_here) (hd := d_law_some_here) (hcd := dc_law_some_here)) (ja_nil)))) (hg := k_law_sparse_law_led_back) (hdb := d_law_led_back)) (hi := n_law_sparse_5) (hx := Or.inl k_law_sparse_law_x) (hf := Or.inl rfl))
      (jss_one (js_ret (je_ite (jw_t (jw_and (jt_cmp op_lt r2_lt (je_b1 call_len_seq c1_len (je_ix ix_seq r2_idx (je_var (i := 5) (hN := n_law_sparse_5) (hv := Or.inl k_law_sparse_law_x) (hd := d_law_x) (hcd := dc_law_x)) (je_int)) B.b_len (hg := k_law_sparse_len) (hv := bb_len) (hn := nn_len) (hdb := d_len)) (je_int) (nomark _)) (jw_and1 (jt_chain op_lt r2_lt op_lt r2_lt (je_op op_sub r2_sub (je_int) (je_int)) (je_ix ix_seq r2_idx (je_var (i := 5) (hN := n_law_sparse_5) (hv := Or.inl k_law_sparse_law_x) (hd := d_law_x) (hcd := dc_law_x)) (je_int)) (je_int))))) (je_var (i := 5) (hN := n_law_sparse_5) (hv := Or.inl k_law_sparse_law_x) (hd := d_law_x) (hcd := dc_law_x)) (je_call (ok_law_row B) (hr.mono (by decide)) (ja_mut (i := 0) (ja_cons (je_int) (ja_nil)) (hN := n_law_sparse_0) (hv := Or.inl k_law_sparse_law_spring_here) (hd := d_law_spring_here) (hcd := dc_law_spring_here)) (hg := k_law_sparse_law_row) (hdb := d_law_row)))))))
def sc_law_right : Scope := { kind := .function, names := [("_law_spring_here", .«local»), ("_law_pair", .«local»), ("_law_x", .«local»), ("_law_deep_here", .«local»), ("_law_best_here", .«local»), ("_law_count_here", .«local»), ("_law_told", .«local»), ("_law_least", .«local»), ("_law_led_here", .«local»), ("_law_sip", .globalImplicit), ("_law_mild_row", .globalImplicit), ("_law_row", .globalImplicit), ("_law_safe", .globalImplicit), ("_law_sparse", .globalImplicit), ("_law_pick", .globalImplicit), ("_law_best", .globalImplicit), ("_law_all_trees", .globalImplicit), ("fewest_tree", .globalImplicit), ("fewest_numbers", .globalImplicit), ("repr", .globalImplicit), ("sum", .globalImplicit), ("_law_led", .globalImplicit), ("tree_channels", .globalImplicit), ("tuple", .globalImplicit)], isGenerator := false, isCoroutine := false, more := [("fast", .str "_law_spring_here"), ("fast", .str "_law_pair"), ("fast", .str "_law_x"), ("fast", .str "_law_deep_here"), ("fast", .str "_law_best_here"), ("fast", .str "_law_count_here"), ("fast", .str "_law_told"), ("fast", .str "_law_least"), ("fast", .str "_law_each"), ("fast", .str "_law_led_here")] }
def N_law_right : List Str := ["_law_spring_here", "_law_pair", "_law_x", "_law_deep_here", "_law_best_here", "_law_count_here", "_law_told", "_law_least", "_law_led_here", "_law_each"]
theorem hs_law_right : defScope S85 = sc_law_right := by rfl
theorem S_law_right : FnScope N_law_right ["_law_spring_here"] sc_law_right := ⟨rfl, rfl, rfl, by decide +kernel, rfl, by decide +kernel, by decide +kernel⟩
theorem n_law_right_0 : N_law_right[0]? = some ("_law_spring_here" : Str) := rfl
theorem n_law_right_1 : N_law_right[1]? = some ("_law_pair" : Str) := rfl
theorem n_law_right_2 : N_law_right[2]? = some ("_law_x" : Str) := rfl
theorem n_law_right_3 : N_law_right[3]? = some ("_law_deep_here" : Str) := rfl
theorem n_law_right_4 : N_law_right[4]? = some ("_law_best_here" : Str) := rfl
theorem n_law_right_5 : N_law_right[5]? = some ("_law_count_here" : Str) := rfl
theorem n_law_right_6 : N_law_right[6]? = some ("_law_told" : Str) := rfl
theorem n_law_right_7 : N_law_right[7]? = some ("_law_least" : Str) := rfl
theorem n_law_right_8 : N_law_right[8]? = some ("_law_led_here" : Str) := rfl
theorem n_law_right_9 : N_law_right[9]? = some ("_law_each" : Str) := rfl
theorem k_law_right_law_all_trees : sc_law_right.names.lookup ("_law_all_trees" : Str) = some NameKind.globalImplicit := by decide +kernel
theorem k_law_right_law_best : sc_law_right.names.lookup ("_law_best" : Str) = some NameKind.globalImplicit := by decide +kernel
theorem k_law_right_law_best_here : sc_law_right.names.lookup ("_law_best_here" : Str) = some NameKind.«local» := by decide +kernel
theorem k_law_right_law_count_here : sc_law_right.names.lookup ("_law_count_here" : Str) = some NameKind.«local» := by decide +kernel
theorem k_law_right_law_deep_here : sc_law_right.names.lookup ("_law_deep_here" : Str) = some NameKind.«local» := by decide +kernel
theorem k_law_right_law_least : sc_law_right.names.lookup ("_law_least" : Str) = some NameKind.«local» := by decide +kernel
theorem k_law_right_law_led : sc_law_right.names.lookup ("_law_led" : Str) = some NameKind.globalImplicit := by decide +kernel
theorem k_law_right_law_led_here : sc_law_right.names.lookup ("_law_led_here" : Str) = some NameKind.«local» := by decide +kernel
theorem k_law_right_law_mild_row : sc_law_right.names.lookup ("_law_mild_row" : Str) = some NameKind.globalImplicit := by decide +kernel
theorem k_law_right_law_pair : sc_law_right.names.lookup ("_law_pair" : Str) = some NameKind.«local» := by decide +kernel
theorem k_law_right_law_pick : sc_law_right.names.lookup ("_law_pick" : Str) = some NameKind.globalImplicit := by decide +kernel
theorem k_law_right_law_row : sc_law_right.names.lookup ("_law_row" : Str) = some NameKind.globalImplicit := by decide +kernel
theorem k_law_right_law_safe : sc_law_right.names.lookup ("_law_safe" : Str) = some NameKind.globalImplicit := by decide +kernel
theorem k_law_right_law_sip : sc_law_right.names.lookup ("_law_sip" : Str) = some NameKind.globalImplicit := by decide +kernel
theorem k_law_right_law_sparse : sc_law_right.names.lookup ("_law_sparse" : Str) = some NameKind.globalImplicit := by decide +kernel
theorem k_law_right_law_spring_here : sc_law_right.names.lookup ("_law_spring_here" : Str) = some NameKind.«local» := by decide +kernel
theorem k_law_right_law_told : sc_law_right.names.lookup ("_law_told" : Str) = some NameKind.«local» := by decide +kernel
theorem k_law_right_law_x : sc_law_right.names.lookup ("_law_x" : Str) = some NameKind.«local» := by decide +kernel
theorem k_law_right_fewest_numbers : sc_law_right.names.lookup ("fewest_numbers" : Str) = some NameKind.globalImplicit := by decide +kernel
theorem k_law_right_fewest_tree : sc_law_right.names.lookup ("fewest_tree" : Str) = some NameKind.globalImplicit := by decide +kernel
theorem k_law_right_repr : sc_law_right.names.lookup ("repr" : Str) = some NameKind.globalImplicit := by decide +kernel
theorem k_law_right_sum : sc_law_right.names.lookup ("sum" : Str) = some NameKind.globalImplicit := by decide +kernel
theorem k_law_right_tree_channels : sc_law_right.names.lookup ("tree_channels" : Str) = some NameKind.globalImplicit := by decide +kernel
theorem k_law_right_tuple : sc_law_right.names.lookup ("tuple" : Str) = some NameKind.globalImplicit := by decide +kernel
abbrev cs_law_right_0 : Scope := { kind := .function, names := [(".0", .«local»), ("_law_each", .«local»), ("_law_count", .globalImplicit)], isGenerator := false, isCoroutine := false, more := [] }
theorem bo_law_right_0 : BlkOk N_law_right sc_law_right cs_law_right_0 [("_law_each", 9)] := blkOk_by (by decide +kernel)
theorem kc_law_right_0_law_count : (relS cs_law_right_0 sc_law_right).names.lookup ("_law_count" : Str) = some NameKind.globalImplicit := by decide +kernel
theorem kc_law_right_0_law_each : (relS cs_law_right_0 sc_law_right).names.lookup ("_law_each" : Str) = some NameKind.«local» := by decide +kernel
theorem ok_law_right {P : Program} {w : World} {K : PySem.W.Frag} {mg : Str → Option Value} {base : Heap} (B : Bx K mg) : OkG P w K mg base "_law_right" ["_law_spring_here"] 14 F_law_right :=
  okG N_law_right (n := 10) rfl g_law_right B.at_law_right hs_law_right S_law_right fun f cdv A outer s H E hq hr => jss_cons (js_if (jt_cmp (op_eqP hr.units) r2_eq (je_call (ok_law_sip B) (hr.mono (by decide)) (ja_mut (i := 0) (ja_cons (je_int) (ja_nil)) (hN := n_law_right_0) (hv := Or.inl k_law_right_law_spring_here) (hd := d_law_spring_here) (hcd := dc_law_spring_here)) (hg := k_law_right_law_sip) (hdb := d_law_sip)) (je_int) (nomark _)) (jss_one (js_par (i := 1) (j := 2) S_law_right.nd (je_tup (jd_cons (je_call (ok_law_mild_row B) (hr.mono (by decide)) (ja_mut (i := 0) (ja_cons (je_int) (ja_nil)) (hN := n_law_right_0) (hv := Or.inl k_law_right_law_spring_here) (hd := d_law_spring_here) (hcd := dc_law_spring_here)) (hg := k_law_right_law_mild_row) (hdb := d_law_mild_row)) (jd_cons (je_call (ok_law_mild_row B) (hr.mono (by decide)) (ja_mut (i := 0) (ja_cons (je_int) (ja_nil)) (hN := n_law_right_0) (hv := Or.inl k_law_right_law_spring_here) (hd := d_law_spring_here) (hcd := dc_law_spring_here)) (hg := k_law_right_law_mild_row) (hdb := d_law_mild_row)) (jd_nil)))) (je_call (ok_law_row B) (hr.mono (by decide)) (ja_mut (i := 0) (ja_cons (je_int) (ja_nil)) (hN := n_law_right_0) (hv := Or.inl k_law_right_law_spring_here) (hd := d_law_spring_here) (hcd := dc_law_spring_here)) (hg := k_law_right_law_row) (hdb := d_law_row)) (hi := n_law_right_1) (hj := n_law_right_2) (hx := k_law_right_law_pair) (hy := k_law_right_law_x))) (jss_cons (js_set (i := 1) S_law_right.nd (je_ite (jt_cmp (op_eqP hr.units) r2_eq (je_call (ok_law_sip B) (hr.mono (by decide)) (ja_mut (i := 0) (ja_cons (je_int) (ja_nil)) (hN := n_law_right_0) (hv := Or.inl k_law_right_law_spring_here) (hd := d_law_spring_here) (hcd := dc_law_spring_here)) (hg := k_law_right_law_sip) (hdb := d_law_sip)) (je_int) (nomark _)) (je_call (ok_law_safe B) (hr.mono (by decide)) (ja_mut (i := 0) (ja_cons (je_int) (ja_nil)) (hN := n_law_right_0) (hv := Or.inl k_law_right_law_spring_here) (hd := d_law_spring_here) (hcd := dc_law_spring_here)) (hg := k_law_right_law_safe) (hdb := d_law_safe)) (je_tup (jd_cons (je_tup (jd_cons (je_int) (jd_cons (je_tup (jd_cons (je_tup (jd_cons (je_int) (jd_cons (je_int) (jd_nil)))) (jd_cons (je_tup (jd_cons (je_int) (jd_cons (je_int) (jd_nil)))) (jd_nil)))) (jd_nil)))) (jd_cons (je_tup (jd_cons (je_int) (jd_cons (je_tup (jd_cons (je_tup (jd_cons (je_un un_neg r1_neg (je_int)) (jd_cons (je_int) (jd_nil)))) (jd_cons (je_tup (jd_cons (je_int) (jd_cons (je_int) (jd_nil)))) (jd_nil)))) (jd_nil)))) (jd_nil))))) (hi := n_law_right_1) (hx := Or.inl k_law_right_law_pair) (hf := Or.inl rfl))
      (jss_one (js_set (i := 2) S_law_right.nd (je_call (ok_law_sparse B) (hr.mono (by decide)) (ja_mut (i := 0) (ja_cons (je_var (i := 1) (hN := n_law_right_1) (hv := Or.inl k_law_right_law_pair) (hd := d_law_pair) (hcd := dc_law_pair)) (ja_nil)) (hN := n_law_right_0) (hv := Or.inl k_law_right_law_spring_here) (hd := d_law_spring_here) (hcd := dc_law_spring_here)) (hg := k_law_right_law_sparse) (hdb := d_law_sparse)) (hi := n_law_right_2) (hx := Or.inl k_law_right_law_x) (hf := Or.inl rfl)))))
      (jss_cons (js_set (i := 3) S_law_right.nd (je_call (ok_law_pick B) (hr.mono (by decide)) (ja_mut (i := 0) (ja_cons (je_list (jl_disp (jd_cons (je_int) (jd_cons (je_int) (jd_cons (je_int) (jd_cons (je_int) (jd_cons (je_int) (jd_cons (je_int) (jd_cons (je_int) (jd_nil)))))))))) (ja_nil)) (hN := n_law_right_0) (hv := Or.inl k_law_right_law_spring_here) (hd := d_law_spring_here) (hcd := dc_law_spring_here)) (hg := k_law_right_law_pick) (hdb := d_law_pick)) (hi := n_law_right_3) (hx := Or.inl k_law_right_law_deep_here) (hf := Or.inl rfl))
      (jss_cons (js_asg (je_call (ok_law_best B) (hr.mono (by decide)) (ja_cons (je_call (ok_law_all_trees B 6) (hr.mono (by decide)) (ja_cons (je_var (i := 1) (hN := n_law_right_1) (hv := Or.inl k_law_right_law_pair) (hd := d_law_pair) (hcd := dc_law_pair)) (ja_cons (je_var (i := 2) (hN := n_law_right_2) (hv := Or.inl k_law_right_law_x) (hd := d_law_x) (hcd := dc_law_x)) (ja_cons (je_var (i := 3) (hN := n_law_right_3) (hv := Or.inl k_law_right_law_deep_here) (hd := d_law_deep_here) (hcd := dc_law_deep_here)) (ja_nil)))) (hg := k_law_right_law_all_trees) (hdb := d_law_all_trees)) (ja_nil)) (hg := k_law_right_law_best) (hdb := d_law_best)) (jg_tup (jgs_cons (jg_name (i := 4) S_law_right.nd (hi := n_law_right_4) (hx := Or.inl k_law_right_law_best_here) (hf := Or.inl rfl)) (jgs_cons (jg_name (i := 5) S_law_right.nd (hi := n_law_right_5) (hx := Or.inl k_law_right_law_count_here) (hf := Or.inl rfl)) (jgs_nil)))))
      (jss_cons (js_par (i := 6) (j := 7) S_law_right.nd (je_call (ok_fewest_tree B) (hr.mono (by decide)) (ja_cons (je_var (i := 1) (hN := n_law_right_1) (hv := Or.inl k_law_right_law_pair) (hd := d_law_pair) (hcd := dc_law_pair)) (ja_cons (je_var (i := 2) (hN := n_law_right_2) (hv := Or.inl k_law_right_law_x) (hd := d_law_x) (hcd := dc_law_x)) (ja_cons (je_var (i := 3) (hN := n_law_right_3) (hv := Or.inl k_law_right_law_deep_here) (hd := d_law_deep_here) (hcd := dc_law_deep_here)) (ja_nil)))) (hg := k_law_right_fewest_tree) (hdb := d_fewest_tree)) (je_call (ok_fewest_numbers B) (hr.mono (by decide)) (ja_cons (je_var (i := 1) (hN := n_law_right_1) (hv := Or.inl k_law_right_law_pair) (hd := d_law_pair) (hcd := dc_law_pair)) (ja_cons (je_var (i := 2) (hN := n_law_right_2) (hv := Or.inl k_law_right_law_x) (hd := d_law_x) (hcd := dc_law_x)) (ja_cons (je_var (i := 3) (hN := n_law_right_3) (hv := Or.inl k_law_right_law_deep_here) (hd := d_law_deep_here) (hcd := dc_law_deep_here)) (ja_nil)))) (hg := k_law_right_fewest_numbers) (hdb := d_fewest_numbers)) (hi := n_law_right_6) (hj := n_law_right_7) (hx := k_law_right_law_told) (hy := k_law_right_law_least))
      (jss_cons (js_if (jw_t (jw_or (jt_cmp (op_neP hr.units) r2_ne (je_var (i := 5) (hN := n_law_right_5) (hv := Or.inl k_law_right_law_count_here) (hd := d_law_count_here) (hcd := dc_law_count_here)) (je_int) (nomark _)) (jw_or1 (jt_cmp (op_neP hr.units) r2_ne (je_b1 (call_reprD hq hr.units) c1_repr (je_list (jl_disp (jd_cons (je_var (i := 6) (hN := n_law_right_6) (hv := Or.inl k_law_right_law_told) (hd := d_law_told) (hcd := dc_law_told)) (jd_cons (je_var (i := 7) (hN := n_law_right_7) (hv := Or.inl k_law_right_law_least) (hd := d_law_least) (hcd := dc_law_least)) (jd_nil))))) B.b_repr (hg := k_law_right_repr) (hv := bb_repr) (hn := nn_repr) (hdb := d_repr)) (je_b1 (call_reprD hq hr.units) c1_repr (je_list (jl_disp (jd_cons (je_ix ix_seq r2_idx (je_var (i := 4) (hN := n_law_right_4) (hv := Or.inl k_law_right_law_best_here) (hd := d_law_best_here) (hcd := dc_law_best_here)) (je_int)) (jd_cons (je_ix ix_seq r2_idx (je_var (i := 4) (hN := n_law_right_4) (hv := Or.inl k_law_right_law_best_here) (hd := d_law_best_here) (hcd := dc_law_best_here)) (je_int)) (jd_nil))))) B.b_repr (hg := k_law_right_repr) (hv := bb_repr) (hn := nn_repr) (hdb := d_repr)) (nomark _))))) (jss_one (js_ret (je_bl))) (jss_nil))
      (jss_cons (js_if (jt_cmp (op_neP hr.units) r2_ne (je_b1 (call_reprD hq hr.units) c1_repr (je_list (jl_disp (jd_cons (je_callK (i := 2) (j := 1) (l := 0) (ks := ["many", "row", "splitter"]) B.at_fewest_tree (ok_fewest_tree B) (hr.mono (by decide)) (jk_cons (je_var (i := 3) (hN := n_law_right_3) (hv := Or.inl k_law_right_law_deep_here) (hd := d_law_deep_here) (hcd := dc_law_deep_here)) (jk_cons (je_var (i := 2) (hN := n_law_right_2) (hv := Or.inl k_law_right_law_x) (hd := d_law_x) (hcd := dc_law_x)) (jk_cons (je_var (i := 1) (hN := n_law_right_1) (hv := Or.inl k_law_right_law_pair) (hd := d_law_pair) (hcd := dc_law_pair)) (jk_nil)))) (fun _ _ _ _ _ _ us hl => match us, hl with | [_, _, _], _ => rfl) rfl (hg := k_law_right_fewest_tree) (hdb := d_fewest_tree)) (jd_cons (je_callK (i := 1) (j := 2) (l := 0) (ks := ["many", "splitter", "row"]) B.at_fewest_numbers (ok_fewest_numbers B) (hr.mono (by decide)) (jk_cons (je_var (i := 3) (hN := n_law_right_3) (hv := Or.inl k_law_right_law_deep_here) (hd := d_law_deep_here) (hcd := dc_law_deep_here)) (jk_cons (je_var (i := 1) (hN := n_law_right_1) (hv := Or.inl k_law_right_law_pair) (hd := d_law_pair) (hcd := dc_law_pair)) (jk_cons (je_var (i := 2) (hN := n_law_right_2) (hv := Or.inl k_law_right_law_x) (hd := d_law_x) (hcd := dc_law_x)) (jk_nil)))) (fun _ _ _ _ _ _ us hl => match us, hl with | [_, _, _], _ => rfl) rfl (hg := k_law_right_fewest_numbers) (hdb := d_fewest_numbers)) (jd_nil))))) B.b_repr (hg := k_law_right_repr) (hv := bb_repr) (hn := nn_repr) (hdb := d_repr)) (je_b1 (call_reprD hq hr.units) c1_repr (je_list (jl_disp (jd_cons (je_var (i := 6) (hN := n_law_right_6) (hv := Or.inl k_law_right_law_told) (hd := d_law_told) (hcd := dc_law_told)) (jd_cons (je_var (i := 7) (hN := n_law_right_7) (hv := Or.inl k_law_right_law_least) (hd := d_law_least) (hcd := dc_law_least)) (jd_nil))))) B.b_repr (hg := k_law_right_repr) (hv := bb_repr) (hn := nn_repr) (hdb := d_repr)) (nomark _)) (jss_one (js_ret (je_bl))) (jss_nil))
      (jss_cons (js_if (jt_cmp (op_neP hr.units) r2_ne (je_b1 (cr_sum rfl) c1_sum (je_list (jl_lc (j := 9) (x := "_law_each") S_law_right.nd (jx_list (je_call (ok_law_led B 6) (hr.mono (by decide)) (ja_cons (je_var (i := 1) (hN := n_law_right_1) (hv := Or.inl k_law_right_law_pair) (hd := d_law_pair) (hcd := dc_law_pair)) (ja_cons (je_var (i := 6) (hN := n_law_right_6) (hv := Or.inl k_law_right_law_told) (hd := d_law_told) (hcd := dc_law_told)) (ja_cons (je_var (i := 2) (hN := n_law_right_2) (hv := Or.inl k_law_right_law_x) (hd := d_law_x) (hcd := dc_law_x)) (ja_nil)))) (hg := k_law_right_law_led) (hdb := d_law_led))) bo_law_right_0 (fun _ _ _ _ _ => ji_nil) (fun _ _ _ _ _ => je_call (ok_law_count B) (hr.mono (by decide)) (ja_cons (je_var (i := 9) (hN := n_law_right_9) (hv := Or.inl kc_law_right_0_law_each) (hd := d_law_each) (hcd := dc_law_each)) (ja_nil)) (hg := kc_law_right_0_law_count) (hdb := d_law_count)) (hg := fun _ _ _ _ _ => pg_name S_law_right.nd n_law_right_9 (Or.inl kc_law_right_0_law_each) (Or.inr kc_law_right_0_law_each)))) B.b_sum (hg := k_law_right_sum) (hv := bb_sum) (hn := nn_sum) (hdb := d_sum)) (je_var (i := 7) (hN := n_law_right_7) (hv := Or.inl k_law_right_law_least) (hd := d_law_least) (hcd := dc_law_least)) (nomark _)) (jss_one (js_ret (je_bl))) (jss_nil))
      (jss_cons (js_set (i := 8) S_law_right.nd (je_call (ok_tree_channels B) (hr.mono (by decide)) (ja_cons (je_var (i := 1) (hN := n_law_right_1) (hv := Or.inl k_law_right_law_pair) (hd := d_law_pair) (hcd := dc_law_pair)) (ja_cons (je_var (i := 6) (hN := n_law_right_6) (hv := Or.inl k_law_right_law_told) (hd := d_law_told) (hcd := dc_law_told)) (ja_cons (je_var (i := 2) (hN := n_law_right_2) (hv := Or.inl k_law_right_law_x) (hd := d_law_x) (hcd := dc_law_x)) (ja_nil)))) (hg := k_law_right_tree_channels) (hdb := d_tree_channels)) (hi := n_law_right_8) (hx := Or.inl k_law_right_law_led_here) (hf := Or.inl rfl))
      (jss_cons (js_if (jt_cmp (op_neP hr.units) r2_ne (je_b1 (call_reprD hq hr.units) c1_repr (je_var (i := 8) (hN := n_law_right_8) (hv := Or.inl k_law_right_law_led_here) (hd := d_law_led_here) (hcd := dc_law_led_here)) B.b_repr (hg := k_law_right_repr) (hv := bb_repr) (hn := nn_repr) (hdb := d_repr)) (je_b1 (call_reprD hq hr.units) c1_repr (je_b1f call_tuple_of c1_tup (je_call (ok_law_led B 6) (hr.mono (by decide)) (ja_cons (je_var (i := 1) (hN := n_law_right_1) (hv := Or.inl k_law_right_law_pair) (hd := d_law_pair) (hcd := dc_law_pair)) (ja_cons (je_var (i := 6) (hN := n_law_right_6) (hv := Or.inl k_law_right_law_told) (hd := d_law_told) (hcd := dc_law_told)) (ja_cons (je_var (i := 2) (hN := n_law_right_2) (hv := Or.inl k_law_right_law_x) (hd := d_law_x) (hcd := dc_law_x)) (ja_nil)))) (hg := k_law_right_law_led) (hdb := d_law_led)) B.b_tuple (hg := k_law_right_tuple) (hv := bb_tuple) (hn := nn_tuple) (hdb := d_tuple)) B.b_repr (hg := k_law_right_repr) (hv := bb_repr) (hn := nn_repr) (hdb := d_repr)) (nomark _)) (jss_one (js_ret (je_bl))) (jss_nil))
      (jss_one (js_ret (je_or (je_cmp (op_eqP hr.units) r2_eq (je_var (i := 3) (hN := n_law_right_3) (hv := Or.inl k_law_right_law_deep_here) (hd := d_law_deep_here) (hcd := dc_law_deep_here)) (je_int) (nomark _)) (je_one (je_cmp op_le r2_le (je_call (ok_fewest_numbers B) (hr.mono (by decide)) (ja_cons (je_var (i := 1) (hN := n_law_right_1) (hv := Or.inl k_law_right_law_pair) (hd := d_law_pair) (hcd := dc_law_pair)) (ja_cons (je_var (i := 2) (hN := n_law_right_2) (hv := Or.inl k_law_right_law_x) (hd := d_law_x) (hcd := dc_law_x)) (ja_cons (je_op op_addL r2_add (je_var (i := 3) (hN := n_law_right_3) (hv := Or.inl k_law_right_law_deep_here) (hd := d_law_deep_here) (hcd := dc_law_deep_here)) (je_int)) (ja_nil)))) (hg := k_law_right_fewest_numbers) (hdb := d_fewest_numbers)) (je_var (i := 7) (hN := n_law_right_7) (hv := Or.inl k_law_right_law_least) (hd := d_law_least) (hcd := dc_law_least)) (nomark _))))))))))))))
def sc_law : Scope := { kind := .function, names := [("_law_script", .cell), ("all", .globalImplicit), ("range", .globalImplicit)], isGenerator := false, isCoroutine := false, more := [("fast", .str "_law_script"), ("fast", .str "_law_turn")] }
def N_law : List Str := ["_law_script", "_law_turn"]
theorem hs_law : defScope S86 = sc_law := by rfl
theorem S_law : FnScope N_law ["_law_script"] sc_law := ⟨rfl, rfl, rfl, by decide +kernel, rfl, by decide +kernel, by decide +kernel⟩
theorem n_law_0 : N_law[0]? = some ("_law_script" : Str) := rfl
theorem n_law_1 : N_law[1]? = some ("_law_turn" : Str) := rfl
theorem k_law_all : sc_law.names.lookup ("all" : Str) = some NameKind.globalImplicit := by decide +kernel
theorem k_law_range : sc_law.names.lookup ("range" : Str) = some NameKind.globalImplicit := by decide +kernel
abbrev cs_law_0 : Scope := { kind := .function, names := [(".0", .«local»), ("_law_turn", .«local»), ("_law_right", .globalImplicit), ("_law_spring", .globalImplicit), ("_law_script", .free)], isGenerator := false, isCoroutine := false, more := [] }
theorem bo_law_0 : BlkOk N_law sc_law cs_law_0 [("_law_turn", 1)] := blkOk_by (by decide +kernel)
theorem kc_law_0_law_right : (relS cs_law_0 sc_law).names.lookup ("_law_right" : Str) = some NameKind.globalImplicit := by decide +kernel
theorem kc_law_0_law_script : (relS cs_law_0 sc_law).names.lookup ("_law_script" : Str) = some NameKind.cell := by decide +kernel
theorem kc_law_0_law_spring : (relS cs_law_0 sc_law).names.lookup ("_law_spring" : Str) = some NameKind.globalImplicit := by decide +kernel
theorem kc_law_0_law_turn : (relS cs_law_0 sc_law).names.lookup ("_law_turn" : Str) = some NameKind.«local» := by decide +kernel
theorem ok_law {P : Program} {w : World} {K : PySem.W.Frag} {mg : Str → Option Value} {base : Heap} (B : Bx K mg) : OkG P w K mg base "law" ["_law_script"] 15 F_law :=
  okG N_law (n := 2) rfl g_law B.at_law hs_law S_law fun f cdv A outer s H E hq hr => jss_one (js_ret (je_b1 (cr_all rfl) c1_all (je_list (jl_lc (j := 1) (x := "_law_turn") S_law.nd (jx_r1 (je_int) B.b_range (hg := k_law_range)) bo_law_0 (fun _ _ _ _ _ => ji_nil) (fun _ _ _ _ _ => je_callN (ok_law_right B) hq (hr.mono (by decide)) (jl_call (ok_law_spring B) (hr.mono (by decide)) (ja_cons (je_var (i := 0) (hN := n_law_0) (hv := Or.inr (Or.inl kc_law_0_law_script)) (hd := d_law_script) (hcd := dc_law_script)) (ja_cons (je_var (i := 1) (hN := n_law_1) (hv := Or.inl kc_law_0_law_turn) (hd := d_law_turn) (hcd := dc_law_turn)) (ja_nil))) (hg := kc_law_0_law_spring) (hdb := d_law_spring)) (hg := kc_law_0_law_right) (hdb := d_law_right)) (hg := fun _ _ _ _ _ => pg_name S_law.nd n_law_1 (Or.inl kc_law_0_law_turn) (Or.inr kc_law_0_law_turn)))) B.b_all (hg := k_law_all) (hv := bb_all) (hn := nn_all) (hdb := d_all)))
end Bs
set_option maxHeartbeats 0
namespace Bs
open PySem PySem.Spec PyProof.Rows L2
/-! ### the head: the defs, the names, what else is asked of the module -/
def D8 : He.DefD := ⟨("is_whole", none), "is_whole", "is_whole", defArgs S8, defBody S8, defScope S8, [], []⟩
def D9 : He.DefD := ⟨("is_between", none), "is_between", "is_between", defArgs S9, defBody S9, defScope S9, [], []⟩
def D10 : He.DefD := ⟨("are_wholes", none), "are_wholes", "are_wholes", defArgs S10, defBody S10, defScope S10, [], []⟩
def D11 : He.DefD := ⟨("divisor_of", none), "divisor_of", "divisor_of", defArgs S11, defBody S11, defScope S11, [], []⟩
def D14 : He.DefD := ⟨("is_ratio", none), "is_ratio", "is_ratio", defArgs S14, defBody S14, defScope S14, [], []⟩
def D15 : He.DefD := ⟨("ratio", none), "ratio", "ratio", defArgs S15, defBody S15, defScope S15, [], []⟩
def D16 : He.DefD := ⟨("plus", none), "plus", "plus", defArgs S16, defBody S16, defScope S16, [], []⟩
def D17 : He.DefD := ⟨("times", none), "times", "times", defArgs S17, defBody S17, defScope S17, [], []⟩
def D20 : He.DefD := ⟨("row_by", none), "row_by", "row_by", defArgs S20, defBody S20, defScope S20, [], []⟩
def D21 : He.DefD := ⟨("end_of", none), "end_of", "end_of", defArgs S21, defBody S21, defScope S21, [], []⟩
def D22 : He.DefD := ⟨("at_place", none), "at_place", "at_place", defArgs S22, defBody S22, defScope S22, [], []⟩
def D23 : He.DefD := ⟨("row_product", none), "row_product", "row_product", defArgs S23, defBody S23, defScope S23, [], []⟩
def D24 : He.DefD := ⟨("part_from", none), "part_from", "part_from", defArgs S24, defBody S24, defScope S24, [], []⟩
def D25 : He.DefD := ⟨("even_of", none), "even_of", "even_of", defArgs S25, defBody S25, defScope S25, [], []⟩
def D27 : He.DefD := ⟨("is_laid", none), "is_laid", "is_laid", defArgs S27, defBody S27, defScope S27, [], []⟩
def D28 : He.DefD := ⟨("check_row", none), "check_row", "check_row", defArgs S28, defBody S28, defScope S28, [], []⟩
def D30 : He.DefD := ⟨("are_two_rows", none), "are_two_rows", "are_two_rows", defArgs S30, defBody S30, defScope S30, [], []⟩
def D31 : He.DefD := ⟨("check_splitter", none), "check_splitter", "check_splitter", defArgs S31, defBody S31, defScope S31, [], []⟩
def D32 : He.DefD := ⟨("split_by", none), "split_by", "split_by", defArgs S32, defBody S32, defScope S32, [], []⟩
def D35 : He.DefD := ⟨("is_tree_of", none), "is_tree_of", "is_tree_of", defArgs S35, defBody S35, defScope S35, [], []⟩
def D36 : He.DefD := ⟨("is_tree", none), "is_tree", "is_tree", defArgs S36, defBody S36, defScope S36, [], []⟩
def D37 : He.DefD := ⟨("check_tree", none), "check_tree", "check_tree", defArgs S37, defBody S37, defScope S37, [], []⟩
def D38 : He.DefD := ⟨("check_depth", none), "check_depth", "check_depth", defArgs S38, defBody S38, defScope S38, [], []⟩
def D39 : He.DefD := ⟨("channels_in", none), "channels_in", "channels_in", defArgs S39, defBody S39, defScope S39, [], []⟩
def D40 : He.DefD := ⟨("numbers_in", none), "numbers_in", "numbers_in", defArgs S40, defBody S40, defScope S40, [], []⟩
def D41 : He.DefD := ⟨("best_in", none), "best_in", "best_in", defArgs S41, defBody S41, defScope S41, [], []⟩
def D42 : He.DefD := ⟨("tree_channels", none), "tree_channels", "tree_channels", defArgs S42, defBody S42, defScope S42, [], []⟩
def D43 : He.DefD := ⟨("fewest_tree", none), "fewest_tree", "fewest_tree", defArgs S43, defBody S43, defScope S43, [], []⟩
def D44 : He.DefD := ⟨("fewest_numbers", none), "fewest_numbers", "fewest_numbers", defArgs S44, defBody S44, defScope S44, [], []⟩
def D46 : He.DefD := ⟨("_law_spring", none), "_law_spring", "_law_spring", defArgs S46, defBody S46, defScope S46, [], []⟩
def D47 : He.DefD := ⟨("_law_sip", none), "_law_sip", "_law_sip", defArgs S47, defBody S47, defScope S47, [], []⟩
def D48 : He.DefD := ⟨("_law_pick", none), "_law_pick", "_law_pick", defArgs S48, defBody S48, defScope S48, [], []⟩
def D49 : He.DefD := ⟨("_law_deep", none), "_law_deep", "_law_deep", defArgs S49, defBody S49, defScope S49, [], []⟩
def D50 : He.DefD := ⟨("_law_low", none), "_law_low", "_law_low", defArgs S50, defBody S50, defScope S50, [], []⟩
def D51 : He.DefD := ⟨("_law_plus", none), "_law_plus", "_law_plus", defArgs S51, defBody S51, defScope S51, [], []⟩
def D52 : He.DefD := ⟨("_law_prod", none), "_law_prod", "_law_prod", defArgs S52, defBody S52, defScope S52, [], []⟩
def D53 : He.DefD := ⟨("_law_per", none), "_law_per", "_law_per", defArgs S53, defBody S53, defScope S53, [], []⟩
def D54 : He.DefD := ⟨("_law_ints", none), "_law_ints", "_law_ints", defArgs S54, defBody S54, defScope S54, [], []⟩
def D55 : He.DefD := ⟨("_law_any", none), "_law_any", "_law_any", defArgs S55, defBody S55, defScope S55, [], []⟩
def D56 : He.DefD := ⟨("_law_some", none), "_law_some", "_law_some", defArgs S56, defBody S56, defScope S56, [], []⟩
def D57 : He.DefD := ⟨("_law_row", none), "_law_row", "_law_row", defArgs S57, defBody S57, defScope S57, [], []⟩
def D58 : He.DefD := ⟨("_law_mild_row", none), "_law_mild_row", "_law_mild_row", defArgs S58, defBody S58, defScope S58, [], []⟩
def D59 : He.DefD := ⟨("_law_trim", none), "_law_trim", "_law_trim", defArgs S59, defBody S59, defScope S59, [], []⟩
def D60 : He.DefD := ⟨("_law_at", none), "_law_at", "_law_at", defArgs S60, defBody S60, defScope S60, [], []⟩
def D61 : He.DefD := ⟨("_law_times", none), "_law_times", "_law_times", defArgs S61, defBody S61, defScope S61, [], []⟩
def D62 : He.DefD := ⟨("_law_sum", none), "_law_sum", "_law_sum", defArgs S62, defBody S62, defScope S62, [], []⟩
def D63 : He.DefD := ⟨("_law_scaled", none), "_law_scaled", "_law_scaled", defArgs S63, defBody S63, defScope S63, [], []⟩
def D64 : He.DefD := ⟨("_law_less", none), "_law_less", "_law_less", defArgs S64, defBody S64, defScope S64, [], []⟩
def D65 : He.DefD := ⟨("_law_moved", none), "_law_moved", "_law_moved", defArgs S65, defBody S65, defScope S65, [], []⟩
def D66 : He.DefD := ⟨("_law_half", none), "_law_half", "_law_half", defArgs S66, defBody S66, defScope S66, [], []⟩
def D67 : He.DefD := ⟨("_law_wide", none), "_law_wide", "_law_wide", defArgs S67, defBody S67, defScope S67, [], []⟩
def D68 : He.DefD := ⟨("_law_parted", none), "_law_parted", "_law_parted", defArgs S68, defBody S68, defScope S68, [], []⟩
def D69 : He.DefD := ⟨("_law_united", none), "_law_united", "_law_united", defArgs S69, defBody S69, defScope S69, [], []⟩
def D70 : He.DefD := ⟨("_law_parts", none), "_law_parts", "_law_parts", defArgs S70, defBody S70, defScope S70, [], []⟩
def D71 : He.DefD := ⟨("_law_det", none), "_law_det", "_law_det", defArgs S71, defBody S71, defScope S71, [], []⟩
def D72 : He.DefD := ⟨("_law_undone", none), "_law_undone", "_law_undone", defArgs S72, defBody S72, defScope S72, [], []⟩
def D73 : He.DefD := ⟨("_law_rungs", none), "_law_rungs", "_law_rungs", defArgs S73, defBody S73, defScope S73, [], []⟩
def D74 : He.DefD := ⟨("_law_laddered", none), "_law_laddered", "_law_laddered", defArgs S74, defBody S74, defScope S74, [], []⟩
def D75 : He.DefD := ⟨("_law_safe", none), "_law_safe", "_law_safe", defArgs S75, defBody S75, defScope S75, [], []⟩
def D76 : He.DefD := ⟨("_law_count", none), "_law_count", "_law_count", defArgs S76, defBody S76, defScope S76, [], []⟩
def D77 : He.DefD := ⟨("_law_bush", none), "_law_bush", "_law_bush", defArgs S77, defBody S77, defScope S77, [], []⟩
def D78 : He.DefD := ⟨("_law_grove", none), "_law_grove", "_law_grove", defArgs S78, defBody S78, defScope S78, [], []⟩
def D79 : He.DefD := ⟨("_law_bush_leaves", none), "_law_bush_leaves", "_law_bush_leaves", defArgs S79, defBody S79, defScope S79, [], []⟩
def D80 : He.DefD := ⟨("_law_led", none), "_law_led", "_law_led", defArgs S80, defBody S80, defScope S80, [], []⟩
def D81 : He.DefD := ⟨("_law_led_back", none), "_law_led_back", "_law_led_back", defArgs S81, defBody S81, defScope S81, [], []⟩
def D82 : He.DefD := ⟨("_law_all_trees", none), "_law_all_trees", "_law_all_trees", defArgs S82, defBody S82, defScope S82, [], []⟩
def D83 : He.DefD := ⟨("_law_best", none), "_law_best", "_law_best", defArgs S83, defBody S83, defScope S83, [], []⟩
def D84 : He.DefD := ⟨("_law_sparse", none), "_law_sparse", "_law_sparse", defArgs S84, defBody S84, defScope S84, [], []⟩
def D85 : He.DefD := ⟨("_law_right", none), "_law_right", "_law_right", defArgs S85, defBody S85, defScope S85, [], []⟩
def D86 : He.DefD := ⟨("law", none), "law", "law", defArgs S86, defBody S86, defScope S86, [], []⟩
def hfn0 : List He.DefD := [D8, D9, D10, D11, D14, D15, D16, D17, D20, D21, D22, D23, D24, D25, D27, D28, D30, D31, D32, D35, D36, D37, D38, D39, D40, D41, D42, D43, D44, D46]
def hfn1 : List He.DefD := [D47, D48, D49, D50, D51, D52, D53, D54, D55, D56, D57, D58, D59, D60, D61, D62, D63, D64, D65, D66, D67, D68, D69, D70, D71, D72, D73, D74, D75, D76]
def hfn2 : List He.DefD := [D77, D78, D79, D80, D81, D82, D83, D84, D85, D86]
def hfn : List He.DefD := hfn0 ++ hfn1 ++ hfn2
def hfa0 : List He.Fa := [.glo "is_whole", .glo "is_between", .glo "are_wholes", .glo "divisor_of", .glo "is_ratio", .glo "ratio", .glo "plus", .glo "times", .glo "row_by", .glo "end_of", .glo "at_place", .glo "row_product", .glo "part_from", .glo "even_of", .glo "is_laid", .glo "check_row", .glo "are_two_rows", .glo "check_splitter", .glo "split_by", .glo "is_tree_of", .glo "is_tree", .glo "check_tree", .glo "check_depth", .glo "channels_in", .glo "numbers_in", .glo "best_in", .glo "tree_channels", .glo "fewest_tree", .glo "fewest_numbers", .glo "_law_spring"]
def hfa1 : List He.Fa := [.glo "_law_sip", .glo "_law_pick", .glo "_law_deep", .glo "_law_low", .glo "_law_plus", .glo "_law_prod", .glo "_law_per", .glo "_law_ints", .glo "_law_any", .glo "_law_some", .glo "_law_row", .glo "_law_mild_row", .glo "_law_trim", .glo "_law_at", .glo "_law_times", .glo "_law_sum", .glo "_law_scaled", .glo "_law_less", .glo "_law_moved", .glo "_law_half", .glo "_law_wide", .glo "_law_parted", .glo "_law_united", .glo "_law_parts", .glo "_law_det", .glo "_law_undone", .glo "_law_rungs", .glo "_law_laddered", .glo "_law_safe", .glo "_law_count"]
def hfa2 : List He.Fa := [.glo "_law_bush", .glo "_law_grove", .glo "_law_bush_leaves", .glo "_law_led", .glo "_law_led_back", .glo "_law_all_trees", .glo "_law_best", .glo "_law_sparse", .glo "_law_right", .glo "law", .free "len", .free "isinstance", .free "all", .free "tuple", .free "list", .free "range", .free "enumerate", .free "abs", .free "int", .free "sum", .free "divmod", .free "min", .free "max", .free "repr", .free "bool", .int "MOST_DEEP" 4, .glo "ZERO", .glo "NOUGHT"]
def hfa : List He.Fa := hfa0 ++ hfa1 ++ hfa2
/-- a tuple of these at a -/
def tupAt (K : PySem.W.Frag) (a : Addr) (vs : List V) : Bool := match K.lookup a with
  | some ⟨.type c, _, .seq its _, _⟩ => decide (c = "tuple") && (decide (its.size ≤ sizeLine) && He.relAll vs its.toList)
  | _ => false
def secondOf (K : PySem.W.Frag) (a : Addr) : Addr := match K.lookup a with
  | some ⟨_, _, .seq its _, _⟩ => (match its.toList with
    | [_, .ref b] => b
    | _ => 0)
  | _ => 0
def ownFacts (K : PySem.W.Frag) : Bool := tupAt K (He.ga K "ZERO") [.int 0, .int 1] && (tupAt K (He.ga K "NOUGHT") [.int 0, .ref (secondOf K (He.ga K "NOUGHT"))] && (tupAt K (secondOf K (He.ga K "NOUGHT")) [] && He.eqO (PySem.W.nsIn K mainGlobals "gcd") (some (some (.builtin "math.gcd")))))
theorem tupAt_ok {K : PySem.W.Frag} {a : Addr} {vs : List V} (h : tupAt K a vs = true) (W : Hp) : SqT K W a vs := by
  unfold tupAt at h
  split at h
  · rename_i c od its n osl q
    simp only [Bool.and_eq_true, decide_eq_true_eq] at h
    exact .inr ⟨_, its, n, q, congrArg Value.type h.1, rfl, h.2.1, He.relAll_ok h.2.2⟩
  · cases h
def obsX (n : Nat) (fa : List He.Fa) (fn : List He.DefD) (g : Addr → Option Obj) : Bool × He.AlD := (ownFacts (He.frG g (He.asD g n)), He.obsDG n fa fn g)
/-- the same, off a tree of the heap -/
def obsT (n : Nat) (fa : List He.Fa) (fn : List He.DefD) (s : Shared) : Bool × He.AlD := match HandSHeadRun.treeOf s with
  | some x => obsX n fa fn (HandSHeadRun.getT x)
  | none => (false, (false, []))
theorem obsT_eq {n : Nat} {fa : List He.Fa} {fn : List He.DefD} {s : Shared} (h : obsT n fa fn s = (true, He.valD fn)) : obsX n fa fn s.heap.get? = (true, He.valD fn) := by
  unfold obsT at h
  cases e : HandSHeadRun.treeOf s with
  | none =>
    rw [e] at h
    cases h
  | some x =>
    rw [e] at h
    have a := (HandSHeadRun.treeOf_eq e).1
    have g : HandSHeadRun.getT x = s.heap.get? := by
      rw [← a]
      exact funext (HandSHeadRun.getT_eq x)
    rw [← g]
    exact h
def hookX (n : Nat) (fa : List He.Fa) (fn : List He.DefD) : PySem.W.Hook where
  α := Bool × He.AlD
  obs := obsT n fa fn
  val := fun _ => (true, He.valD fn)
  says := fun _ h => ∃ K : PySem.W.Frag, K.In h ∧ ownFacts K = true ∧ He.SaysD fa fn K
  of := fun _ _ e => ⟨_, He.frG_in, congrArg (fun z : Bool × He.AlD => z.1) (obsT_eq e), congrArg (fun z : Bool × He.AlD => z.2) (obsT_eq e)⟩
  keeps := fun _ _ _ ⟨K, hK, c1, c2⟩ k => ⟨K, PySem.W.Frag.In.keeps hK k, c1, c2⟩
abbrev RW0 : PySem.W.OpenRow := PySem.W.OpenLaw.row PySem.Challenge.rw_bandsplits_k71_whole_fewest_trees
abbrev hkX : PySem.W.Hook := hookX 4 hfa hfn
section
variable {K : PySem.W.Frag} {h : Heap} {mg : Str → Option Value}
theorem defAt_of {x : Str} {st : Stmt} {ps : List Str} {i : Nat} {d : He.DefD} (X : K.In h) (G : h.Ns mainGlobals mg) (c : He.SaysD hfa hfn K) (hd : hfn[i]? = some d) (hg : hfa[i]? = some (.glo x)) (e : d = ⟨(x, none), x, x, defArgs st, defBody st, defScope st, [], []⟩)
    (hb : ∀ (kV doc pm : Value) (an : Option Addr) (cdv ct : Value) (us : List Value), us.length = ps.length → bindArgs (PySem.W.fnOf x x (defArgs st) (defBody st) (defScope st) .none kV doc pm an cdv ct) ⟨us, []⟩ = pure (ps.zip us)) : DefAt K mg x st ps := by
  subst e
  obtain ⟨fd, F⟩ := c.def_ i hd
  exact ⟨_, fd, F, He.glo_ok X G (c.fact i hg), F.bindsN hb⟩
theorem atf_is_whole (X : K.In h) (G : h.Ns mainGlobals mg) (c : He.SaysD hfa hfn K) : DefAt K mg "is_whole" S8 ["value"] := defAt_of (i := 0) (d := D8) X G c rfl rfl rfl fun _ _ _ _ _ _ us hl => match us, hl with | [_], _ => rfl
theorem atf_is_between (X : K.In h) (G : h.Ns mainGlobals mg) (c : He.SaysD hfa hfn K) : DefAt K mg "is_between" S9 ["value", "low", "high"] := defAt_of (i := 1) (d := D9) X G c rfl rfl rfl fun _ _ _ _ _ _ us hl => match us, hl with | [_, _, _], _ => rfl
theorem atf_are_wholes (X : K.In h) (G : h.Ns mainGlobals mg) (c : He.SaysD hfa hfn K) : DefAt K mg "are_wholes" S10 ["value", "many"] := defAt_of (i := 2) (d := D10) X G c rfl rfl rfl fun _ _ _ _ _ _ us hl => match us, hl with | [_, _], _ => rfl
theorem atf_divisor_of (X : K.In h) (G : h.Ns mainGlobals mg) (c : He.SaysD hfa hfn K) : DefAt K mg "divisor_of" S11 ["numbers"] := defAt_of (i := 3) (d := D11) X G c rfl rfl rfl fun _ _ _ _ _ _ us hl => match us, hl with | [_], _ => rfl
theorem atf_is_ratio (X : K.In h) (G : h.Ns mainGlobals mg) (c : He.SaysD hfa hfn K) : DefAt K mg "is_ratio" S14 ["value"] := defAt_of (i := 4) (d := D14) X G c rfl rfl rfl fun _ _ _ _ _ _ us hl => match us, hl with | [_], _ => rfl
theorem atf_ratio (X : K.In h) (G : h.Ns mainGlobals mg) (c : He.SaysD hfa hfn K) : DefAt K mg "ratio" S15 ["top", "low"] := defAt_of (i := 5) (d := D15) X G c rfl rfl rfl fun _ _ _ _ _ _ us hl => match us, hl with | [_, _], _ => rfl
theorem atf_plus (X : K.In h) (G : h.Ns mainGlobals mg) (c : He.SaysD hfa hfn K) : DefAt K mg "plus" S16 ["one", "two"] := defAt_of (i := 6) (d := D16) X G c rfl rfl rfl fun _ _ _ _ _ _ us hl => match us, hl with | [_, _], _ => rfl
theorem atf_times (X : K.In h) (G : h.Ns mainGlobals mg) (c : He.SaysD hfa hfn K) : DefAt K mg "times" S17 ["one", "two"] := defAt_of (i := 7) (d := D17) X G c rfl rfl rfl fun _ _ _ _ _ _ us hl => match us, hl with | [_, _], _ => rfl
theorem atf_row_by (X : K.In h) (G : h.Ns mainGlobals mg) (c : He.SaysD hfa hfn K) : DefAt K mg "row_by" S20 ["start", "numbers"] := defAt_of (i := 8) (d := D20) X G c rfl rfl rfl fun _ _ _ _ _ _ us hl => match us, hl with | [_, _], _ => rfl
theorem atf_end_of (X : K.In h) (G : h.Ns mainGlobals mg) (c : He.SaysD hfa hfn K) : DefAt K mg "end_of" S21 ["row"] := defAt_of (i := 9) (d := D21) X G c rfl rfl rfl fun _ _ _ _ _ _ us hl => match us, hl with | [_], _ => rfl
theorem atf_at_place (X : K.In h) (G : h.Ns mainGlobals mg) (c : He.SaysD hfa hfn K) : DefAt K mg "at_place" S22 ["row", "place"] := defAt_of (i := 10) (d := D22) X G c rfl rfl rfl fun _ _ _ _ _ _ us hl => match us, hl with | [_, _], _ => rfl
theorem atf_row_product (X : K.In h) (G : h.Ns mainGlobals mg) (c : He.SaysD hfa hfn K) : DefAt K mg "row_product" S23 ["one", "two"] := defAt_of (i := 11) (d := D23) X G c rfl rfl rfl fun _ _ _ _ _ _ us hl => match us, hl with | [_, _], _ => rfl
theorem atf_part_from (X : K.In h) (G : h.Ns mainGlobals mg) (c : He.SaysD hfa hfn K) : DefAt K mg "part_from" S24 ["row", "first"] := defAt_of (i := 12) (d := D24) X G c rfl rfl rfl fun _ _ _ _ _ _ us hl => match us, hl with | [_, _], _ => rfl
theorem atf_even_of (X : K.In h) (G : h.Ns mainGlobals mg) (c : He.SaysD hfa hfn K) : DefAt K mg "even_of" S25 ["row"] := defAt_of (i := 13) (d := D25) X G c rfl rfl rfl fun _ _ _ _ _ _ us hl => match us, hl with | [_], _ => rfl
theorem atf_is_laid (X : K.In h) (G : h.Ns mainGlobals mg) (c : He.SaysD hfa hfn K) : DefAt K mg "is_laid" S27 ["value"] := defAt_of (i := 14) (d := D27) X G c rfl rfl rfl fun _ _ _ _ _ _ us hl => match us, hl with | [_], _ => rfl
theorem atf_check_row (X : K.In h) (G : h.Ns mainGlobals mg) (c : He.SaysD hfa hfn K) : DefAt K mg "check_row" S28 ["value"] := defAt_of (i := 15) (d := D28) X G c rfl rfl rfl fun _ _ _ _ _ _ us hl => match us, hl with | [_], _ => rfl
theorem atf_are_two_rows (X : K.In h) (G : h.Ns mainGlobals mg) (c : He.SaysD hfa hfn K) : DefAt K mg "are_two_rows" S30 ["value"] := defAt_of (i := 16) (d := D30) X G c rfl rfl rfl fun _ _ _ _ _ _ us hl => match us, hl with | [_], _ => rfl
theorem atf_check_splitter (X : K.In h) (G : h.Ns mainGlobals mg) (c : He.SaysD hfa hfn K) : DefAt K mg "check_splitter" S31 ["value"] := defAt_of (i := 17) (d := D31) X G c rfl rfl rfl fun _ _ _ _ _ _ us hl => match us, hl with | [_], _ => rfl
theorem atf_split_by (X : K.In h) (G : h.Ns mainGlobals mg) (c : He.SaysD hfa hfn K) : DefAt K mg "split_by" S32 ["splitter", "row"] := defAt_of (i := 18) (d := D32) X G c rfl rfl rfl fun _ _ _ _ _ _ us hl => match us, hl with | [_, _], _ => rfl
theorem atf_is_tree_of (X : K.In h) (G : h.Ns mainGlobals mg) (c : He.SaysD hfa hfn K) : DefAt K mg "is_tree_of" S35 ["value", "deep"] := defAt_of (i := 19) (d := D35) X G c rfl rfl rfl fun _ _ _ _ _ _ us hl => match us, hl with | [_, _], _ => rfl
theorem atf_is_tree (X : K.In h) (G : h.Ns mainGlobals mg) (c : He.SaysD hfa hfn K) : DefAt K mg "is_tree" S36 ["value"] := defAt_of (i := 20) (d := D36) X G c rfl rfl rfl fun _ _ _ _ _ _ us hl => match us, hl with | [_], _ => rfl
theorem atf_check_tree (X : K.In h) (G : h.Ns mainGlobals mg) (c : He.SaysD hfa hfn K) : DefAt K mg "check_tree" S37 ["value"] := defAt_of (i := 21) (d := D37) X G c rfl rfl rfl fun _ _ _ _ _ _ us hl => match us, hl with | [_], _ => rfl
theorem atf_check_depth (X : K.In h) (G : h.Ns mainGlobals mg) (c : He.SaysD hfa hfn K) : DefAt K mg "check_depth" S38 ["value"] := defAt_of (i := 22) (d := D38) X G c rfl rfl rfl fun _ _ _ _ _ _ us hl => match us, hl with | [_], _ => rfl
theorem atf_channels_in (X : K.In h) (G : h.Ns mainGlobals mg) (c : He.SaysD hfa hfn K) : DefAt K mg "channels_in" S39 ["splitter", "tree", "row"] := defAt_of (i := 23) (d := D39) X G c rfl rfl rfl fun _ _ _ _ _ _ us hl => match us, hl with | [_, _, _], _ => rfl
theorem atf_numbers_in (X : K.In h) (G : h.Ns mainGlobals mg) (c : He.SaysD hfa hfn K) : DefAt K mg "numbers_in" S40 ["row"] := defAt_of (i := 24) (d := D40) X G c rfl rfl rfl fun _ _ _ _ _ _ us hl => match us, hl with | [_], _ => rfl
theorem atf_best_in (X : K.In h) (G : h.Ns mainGlobals mg) (c : He.SaysD hfa hfn K) : DefAt K mg "best_in" S41 ["splitter", "row", "many"] := defAt_of (i := 25) (d := D41) X G c rfl rfl rfl fun _ _ _ _ _ _ us hl => match us, hl with | [_, _, _], _ => rfl
theorem atf_tree_channels (X : K.In h) (G : h.Ns mainGlobals mg) (c : He.SaysD hfa hfn K) : DefAt K mg "tree_channels" S42 ["splitter", "tree", "row"] := defAt_of (i := 26) (d := D42) X G c rfl rfl rfl fun _ _ _ _ _ _ us hl => match us, hl with | [_, _, _], _ => rfl
theorem atf_fewest_tree (X : K.In h) (G : h.Ns mainGlobals mg) (c : He.SaysD hfa hfn K) : DefAt K mg "fewest_tree" S43 ["splitter", "row", "many"] := defAt_of (i := 27) (d := D43) X G c rfl rfl rfl fun _ _ _ _ _ _ us hl => match us, hl with | [_, _, _], _ => rfl
theorem atf_fewest_numbers (X : K.In h) (G : h.Ns mainGlobals mg) (c : He.SaysD hfa hfn K) : DefAt K mg "fewest_numbers" S44 ["splitter", "row", "many"] := defAt_of (i := 28) (d := D44) X G c rfl rfl rfl fun _ _ _ _ _ _ us hl => match us, hl with | [_, _, _], _ => rfl
theorem atf_law_spring (X : K.In h) (G : h.Ns mainGlobals mg) (c : He.SaysD hfa hfn K) : DefAt K mg "_law_spring" S46 ["_law_script", "_law_turn"] := defAt_of (i := 29) (d := D46) X G c rfl rfl rfl fun _ _ _ _ _ _ us hl => match us, hl with | [_, _], _ => rfl
theorem atf_law_sip (X : K.In h) (G : h.Ns mainGlobals mg) (c : He.SaysD hfa hfn K) : DefAt K mg "_law_sip" S47 ["_law_spring_here", "_law_top"] := defAt_of (i := 30) (d := D47) X G c rfl rfl rfl fun _ _ _ _ _ _ us hl => match us, hl with | [_, _], _ => rfl
theorem atf_law_pick (X : K.In h) (G : h.Ns mainGlobals mg) (c : He.SaysD hfa hfn K) : DefAt K mg "_law_pick" S48 ["_law_spring_here", "_law_some_here"] := defAt_of (i := 31) (d := D48) X G c rfl rfl rfl fun _ _ _ _ _ _ us hl => match us, hl with | [_, _], _ => rfl
theorem atf_law_deep (X : K.In h) (G : h.Ns mainGlobals mg) (c : He.SaysD hfa hfn K) : DefAt K mg "_law_deep" S49 ["_law_one", "_law_two"] := defAt_of (i := 32) (d := D49) X G c rfl rfl rfl fun _ _ _ _ _ _ us hl => match us, hl with | [_, _], _ => rfl
theorem atf_law_low (X : K.In h) (G : h.Ns mainGlobals mg) (c : He.SaysD hfa hfn K) : DefAt K mg "_law_low" S50 ["_law_top", "_law_under"] := defAt_of (i := 33) (d := D50) X G c rfl rfl rfl fun _ _ _ _ _ _ us hl => match us, hl with | [_, _], _ => rfl
theorem atf_law_plus (X : K.In h) (G : h.Ns mainGlobals mg) (c : He.SaysD hfa hfn K) : DefAt K mg "_law_plus" S51 ["_law_one", "_law_two"] := defAt_of (i := 34) (d := D51) X G c rfl rfl rfl fun _ _ _ _ _ _ us hl => match us, hl with | [_, _], _ => rfl
theorem atf_law_prod (X : K.In h) (G : h.Ns mainGlobals mg) (c : He.SaysD hfa hfn K) : DefAt K mg "_law_prod" S52 ["_law_one", "_law_two"] := defAt_of (i := 35) (d := D52) X G c rfl rfl rfl fun _ _ _ _ _ _ us hl => match us, hl with | [_, _], _ => rfl
theorem atf_law_per (X : K.In h) (G : h.Ns mainGlobals mg) (c : He.SaysD hfa hfn K) : DefAt K mg "_law_per" S53 ["_law_one", "_law_two"] := defAt_of (i := 36) (d := D53) X G c rfl rfl rfl fun _ _ _ _ _ _ us hl => match us, hl with | [_, _], _ => rfl
theorem atf_law_ints (X : K.In h) (G : h.Ns mainGlobals mg) (c : He.SaysD hfa hfn K) : DefAt K mg "_law_ints" S54 ["_law_some_here"] := defAt_of (i := 37) (d := D54) X G c rfl rfl rfl fun _ _ _ _ _ _ us hl => match us, hl with | [_], _ => rfl
theorem atf_law_any (X : K.In h) (G : h.Ns mainGlobals mg) (c : He.SaysD hfa hfn K) : DefAt K mg "_law_any" S55 ["_law_spring_here"] := defAt_of (i := 38) (d := D55) X G c rfl rfl rfl fun _ _ _ _ _ _ us hl => match us, hl with | [_], _ => rfl
theorem atf_law_some (X : K.In h) (G : h.Ns mainGlobals mg) (c : He.SaysD hfa hfn K) : DefAt K mg "_law_some" S56 ["_law_spring_here"] := defAt_of (i := 39) (d := D56) X G c rfl rfl rfl fun _ _ _ _ _ _ us hl => match us, hl with | [_], _ => rfl
theorem atf_law_row (X : K.In h) (G : h.Ns mainGlobals mg) (c : He.SaysD hfa hfn K) : DefAt K mg "_law_row" S57 ["_law_spring_here", "_law_most"] := defAt_of (i := 40) (d := D57) X G c rfl rfl rfl fun _ _ _ _ _ _ us hl => match us, hl with | [_, _], _ => rfl
theorem atf_law_mild_row (X : K.In h) (G : h.Ns mainGlobals mg) (c : He.SaysD hfa hfn K) : DefAt K mg "_law_mild_row" S58 ["_law_spring_here", "_law_most"] := defAt_of (i := 41) (d := D58) X G c rfl rfl rfl fun _ _ _ _ _ _ us hl => match us, hl with | [_, _], _ => rfl
theorem atf_law_trim (X : K.In h) (G : h.Ns mainGlobals mg) (c : He.SaysD hfa hfn K) : DefAt K mg "_law_trim" S59 ["_law_at_here", "_law_some_here"] := defAt_of (i := 42) (d := D59) X G c rfl rfl rfl fun _ _ _ _ _ _ us hl => match us, hl with | [_, _], _ => rfl
theorem atf_law_at (X : K.In h) (G : h.Ns mainGlobals mg) (c : He.SaysD hfa hfn K) : DefAt K mg "_law_at" S60 ["_law_x", "_law_k"] := defAt_of (i := 43) (d := D60) X G c rfl rfl rfl fun _ _ _ _ _ _ us hl => match us, hl with | [_, _], _ => rfl
theorem atf_law_times (X : K.In h) (G : h.Ns mainGlobals mg) (c : He.SaysD hfa hfn K) : DefAt K mg "_law_times" S61 ["_law_x", "_law_y"] := defAt_of (i := 44) (d := D61) X G c rfl rfl rfl fun _ _ _ _ _ _ us hl => match us, hl with | [_, _], _ => rfl
theorem atf_law_sum (X : K.In h) (G : h.Ns mainGlobals mg) (c : He.SaysD hfa hfn K) : DefAt K mg "_law_sum" S62 ["_law_x", "_law_y"] := defAt_of (i := 45) (d := D62) X G c rfl rfl rfl fun _ _ _ _ _ _ us hl => match us, hl with | [_, _], _ => rfl
theorem atf_law_scaled (X : K.In h) (G : h.Ns mainGlobals mg) (c : He.SaysD hfa hfn K) : DefAt K mg "_law_scaled" S63 ["_law_x", "_law_by"] := defAt_of (i := 46) (d := D63) X G c rfl rfl rfl fun _ _ _ _ _ _ us hl => match us, hl with | [_, _], _ => rfl
theorem atf_law_less (X : K.In h) (G : h.Ns mainGlobals mg) (c : He.SaysD hfa hfn K) : DefAt K mg "_law_less" S64 ["_law_x", "_law_y"] := defAt_of (i := 47) (d := D64) X G c rfl rfl rfl fun _ _ _ _ _ _ us hl => match us, hl with | [_, _], _ => rfl
theorem atf_law_moved (X : K.In h) (G : h.Ns mainGlobals mg) (c : He.SaysD hfa hfn K) : DefAt K mg "_law_moved" S65 ["_law_x", "_law_far"] := defAt_of (i := 48) (d := D65) X G c rfl rfl rfl fun _ _ _ _ _ _ us hl => match us, hl with | [_, _], _ => rfl
theorem atf_law_half (X : K.In h) (G : h.Ns mainGlobals mg) (c : He.SaysD hfa hfn K) : DefAt K mg "_law_half" S66 ["_law_x", "_law_odd"] := defAt_of (i := 49) (d := D66) X G c rfl rfl rfl fun _ _ _ _ _ _ us hl => match us, hl with | [_, _], _ => rfl
theorem atf_law_wide (X : K.In h) (G : h.Ns mainGlobals mg) (c : He.SaysD hfa hfn K) : DefAt K mg "_law_wide" S67 ["_law_x"] := defAt_of (i := 50) (d := D67) X G c rfl rfl rfl fun _ _ _ _ _ _ us hl => match us, hl with | [_], _ => rfl
theorem atf_law_parted (X : K.In h) (G : h.Ns mainGlobals mg) (c : He.SaysD hfa hfn K) : DefAt K mg "_law_parted" S68 ["_law_pair", "_law_x"] := defAt_of (i := 51) (d := D68) X G c rfl rfl rfl fun _ _ _ _ _ _ us hl => match us, hl with | [_, _], _ => rfl
theorem atf_law_united (X : K.In h) (G : h.Ns mainGlobals mg) (c : He.SaysD hfa hfn K) : DefAt K mg "_law_united" S69 ["_law_pair", "_law_two"] := defAt_of (i := 52) (d := D69) X G c rfl rfl rfl fun _ _ _ _ _ _ us hl => match us, hl with | [_, _], _ => rfl
theorem atf_law_parts (X : K.In h) (G : h.Ns mainGlobals mg) (c : He.SaysD hfa hfn K) : DefAt K mg "_law_parts" S70 ["_law_pair"] := defAt_of (i := 53) (d := D70) X G c rfl rfl rfl fun _ _ _ _ _ _ us hl => match us, hl with | [_], _ => rfl
theorem atf_law_det (X : K.In h) (G : h.Ns mainGlobals mg) (c : He.SaysD hfa hfn K) : DefAt K mg "_law_det" S71 ["_law_pair"] := defAt_of (i := 54) (d := D71) X G c rfl rfl rfl fun _ _ _ _ _ _ us hl => match us, hl with | [_], _ => rfl
theorem atf_law_undone (X : K.In h) (G : h.Ns mainGlobals mg) (c : He.SaysD hfa hfn K) : DefAt K mg "_law_undone" S72 ["_law_pair"] := defAt_of (i := 55) (d := D72) X G c rfl rfl rfl fun _ _ _ _ _ _ us hl => match us, hl with | [_], _ => rfl
theorem atf_law_rungs (X : K.In h) (G : h.Ns mainGlobals mg) (c : He.SaysD hfa hfn K) : DefAt K mg "_law_rungs" S73 ["_law_spring_here", "_law_most", "_law_wide_here"] := defAt_of (i := 56) (d := D73) X G c rfl rfl rfl fun _ _ _ _ _ _ us hl => match us, hl with | [_, _, _], _ => rfl
theorem atf_law_laddered (X : K.In h) (G : h.Ns mainGlobals mg) (c : He.SaysD hfa hfn K) : DefAt K mg "_law_laddered" S74 ["_law_rungs_here"] := defAt_of (i := 57) (d := D74) X G c rfl rfl rfl fun _ _ _ _ _ _ us hl => match us, hl with | [_], _ => rfl
theorem atf_law_safe (X : K.In h) (G : h.Ns mainGlobals mg) (c : He.SaysD hfa hfn K) : DefAt K mg "_law_safe" S75 ["_law_spring_here", "_law_most"] := defAt_of (i := 58) (d := D75) X G c rfl rfl rfl fun _ _ _ _ _ _ us hl => match us, hl with | [_, _], _ => rfl
theorem atf_law_count (X : K.In h) (G : h.Ns mainGlobals mg) (c : He.SaysD hfa hfn K) : DefAt K mg "_law_count" S76 ["_law_x"] := defAt_of (i := 59) (d := D76) X G c rfl rfl rfl fun _ _ _ _ _ _ us hl => match us, hl with | [_], _ => rfl
theorem atf_law_bush (X : K.In h) (G : h.Ns mainGlobals mg) (c : He.SaysD hfa hfn K) : DefAt K mg "_law_bush" S77 ["_law_spring_here", "_law_deep_here"] := defAt_of (i := 60) (d := D77) X G c rfl rfl rfl fun _ _ _ _ _ _ us hl => match us, hl with | [_, _], _ => rfl
theorem atf_law_grove (X : K.In h) (G : h.Ns mainGlobals mg) (c : He.SaysD hfa hfn K) : DefAt K mg "_law_grove" S78 ["_law_spring_here", "_law_deep_here"] := defAt_of (i := 61) (d := D78) X G c rfl rfl rfl fun _ _ _ _ _ _ us hl => match us, hl with | [_, _], _ => rfl
theorem atf_law_bush_leaves (X : K.In h) (G : h.Ns mainGlobals mg) (c : He.SaysD hfa hfn K) : DefAt K mg "_law_bush_leaves" S79 ["_law_bush_here"] := defAt_of (i := 62) (d := D79) X G c rfl rfl rfl fun _ _ _ _ _ _ us hl => match us, hl with | [_], _ => rfl
theorem atf_law_led (X : K.In h) (G : h.Ns mainGlobals mg) (c : He.SaysD hfa hfn K) : DefAt K mg "_law_led" S80 ["_law_pair", "_law_bush_here", "_law_x"] := defAt_of (i := 63) (d := D80) X G c rfl rfl rfl fun _ _ _ _ _ _ us hl => match us, hl with | [_, _, _], _ => rfl
theorem atf_law_led_back (X : K.In h) (G : h.Ns mainGlobals mg) (c : He.SaysD hfa hfn K) : DefAt K mg "_law_led_back" S81 ["_law_pair", "_law_bush_here", "_law_some_here"] := defAt_of (i := 64) (d := D81) X G c rfl rfl rfl fun _ _ _ _ _ _ us hl => match us, hl with | [_, _, _], _ => rfl
theorem atf_law_all_trees (X : K.In h) (G : h.Ns mainGlobals mg) (c : He.SaysD hfa hfn K) : DefAt K mg "_law_all_trees" S82 ["_law_pair", "_law_x", "_law_deep_here"] := defAt_of (i := 65) (d := D82) X G c rfl rfl rfl fun _ _ _ _ _ _ us hl => match us, hl with | [_, _, _], _ => rfl
theorem atf_law_best (X : K.In h) (G : h.Ns mainGlobals mg) (c : He.SaysD hfa hfn K) : DefAt K mg "_law_best" S83 ["_law_some_here"] := defAt_of (i := 66) (d := D83) X G c rfl rfl rfl fun _ _ _ _ _ _ us hl => match us, hl with | [_], _ => rfl
theorem atf_law_sparse (X : K.In h) (G : h.Ns mainGlobals mg) (c : He.SaysD hfa hfn K) : DefAt K mg "_law_sparse" S84 ["_law_spring_here", "_law_pair"] := defAt_of (i := 67) (d := D84) X G c rfl rfl rfl fun _ _ _ _ _ _ us hl => match us, hl with | [_, _], _ => rfl
theorem atf_law_right (X : K.In h) (G : h.Ns mainGlobals mg) (c : He.SaysD hfa hfn K) : DefAt K mg "_law_right" S85 ["_law_spring_here"] := defAt_of (i := 68) (d := D85) X G c rfl rfl rfl fun _ _ _ _ _ _ us hl => match us, hl with | [_], _ => rfl
theorem atf_law (X : K.In h) (G : h.Ns mainGlobals mg) (c : He.SaysD hfa hfn K) : DefAt K mg "law" S86 ["_law_script"] := defAt_of (i := 69) (d := D86) X G c rfl rfl rfl fun _ _ _ _ _ _ us hl => match us, hl with | [_], _ => rfl
theorem bx_of (X : K.In h) (G : h.Ns mainGlobals mg) (o : ownFacts K = true) (c : He.SaysD hfa hfn K) : Bx K mg := by
  unfold ownFacts at o
  simp only [Bool.and_eq_true] at o
  obtain ⟨o1, o2, o3, o4⟩ := o
  exact {
    at_is_whole := atf_is_whole X G c
    at_is_between := atf_is_between X G c
    at_are_wholes := atf_are_wholes X G c
    at_divisor_of := atf_divisor_of X G c
    at_is_ratio := atf_is_ratio X G c
    at_ratio := atf_ratio X G c
    at_plus := atf_plus X G c
    at_times := atf_times X G c
    at_row_by := atf_row_by X G c
    at_end_of := atf_end_of X G c
    at_at_place := atf_at_place X G c
    at_row_product := atf_row_product X G c
    at_part_from := atf_part_from X G c
    at_even_of := atf_even_of X G c
    at_is_laid := atf_is_laid X G c
    at_check_row := atf_check_row X G c
    at_are_two_rows := atf_are_two_rows X G c
    at_check_splitter := atf_check_splitter X G c
    at_split_by := atf_split_by X G c
    at_is_tree_of := atf_is_tree_of X G c
    at_is_tree := atf_is_tree X G c
    at_check_tree := atf_check_tree X G c
    at_check_depth := atf_check_depth X G c
    at_channels_in := atf_channels_in X G c
    at_numbers_in := atf_numbers_in X G c
    at_best_in := atf_best_in X G c
    at_tree_channels := atf_tree_channels X G c
    at_fewest_tree := atf_fewest_tree X G c
    at_fewest_numbers := atf_fewest_numbers X G c
    at_law_spring := atf_law_spring X G c
    at_law_sip := atf_law_sip X G c
    at_law_pick := atf_law_pick X G c
    at_law_deep := atf_law_deep X G c
    at_law_low := atf_law_low X G c
    at_law_plus := atf_law_plus X G c
    at_law_prod := atf_law_prod X G c
    at_law_per := atf_law_per X G c
    at_law_ints := atf_law_ints X G c
    at_law_any := atf_law_any X G c
    at_law_some := atf_law_some X G c
    at_law_row := atf_law_row X G c
    at_law_mild_row := atf_law_mild_row X G c
    at_law_trim := atf_law_trim X G c
    at_law_at := atf_law_at X G c
    at_law_times := atf_law_times X G c
    at_law_sum := atf_law_sum X G c
    at_law_scaled := atf_law_scaled X G c
    at_law_less := atf_law_less X G c
    at_law_moved := atf_law_moved X G c
    at_law_half := atf_law_half X G c
    at_law_wide := atf_law_wide X G c
    at_law_parted := atf_law_parted X G c
    at_law_united := atf_law_united X G c
    at_law_parts := atf_law_parts X G c
    at_law_det := atf_law_det X G c
    at_law_undone := atf_law_undone X G c
    at_law_rungs := atf_law_rungs X G c
    at_law_laddered := atf_law_laddered X G c
    at_law_safe := atf_law_safe X G c
    at_law_count := atf_law_count X G c
    at_law_bush := atf_law_bush X G c
    at_law_grove := atf_law_grove X G c
    at_law_bush_leaves := atf_law_bush_leaves X G c
    at_law_led := atf_law_led X G c
    at_law_led_back := atf_law_led_back X G c
    at_law_all_trees := atf_law_all_trees X G c
    at_law_best := atf_law_best X G c
    at_law_sparse := atf_law_sparse X G c
    at_law_right := atf_law_right X G c
    at_law := atf_law X G c
    b_len := He.free_ok X G (c.fact 70 (f := .free "len") rfl)
    b_isinstance := He.free_ok X G (c.fact 71 (f := .free "isinstance") rfl)
    b_all := He.free_ok X G (c.fact 72 (f := .free "all") rfl)
    b_tuple := He.free_ok X G (c.fact 73 (f := .free "tuple") rfl)
    b_list := He.free_ok X G (c.fact 74 (f := .free "list") rfl)
    b_range := He.free_ok X G (c.fact 75 (f := .free "range") rfl)
    b_enumerate := He.free_ok X G (c.fact 76 (f := .free "enumerate") rfl)
    b_abs := He.free_ok X G (c.fact 77 (f := .free "abs") rfl)
    b_int := He.free_ok X G (c.fact 78 (f := .free "int") rfl)
    b_sum := He.free_ok X G (c.fact 79 (f := .free "sum") rfl)
    b_divmod := He.free_ok X G (c.fact 80 (f := .free "divmod") rfl)
    b_min := He.free_ok X G (c.fact 81 (f := .free "min") rfl)
    b_max := He.free_ok X G (c.fact 82 (f := .free "max") rfl)
    b_repr := He.free_ok X G (c.fact 83 (f := .free "repr") rfl)
    b_bool := He.free_ok X G (c.fact 84 (f := .free "bool") rfl)
    g_MOST_DEEP := by
      obtain ⟨t, e⟩ := He.int_ok X G (c.fact 85 (f := .int "MOST_DEEP" 4) rfl)
      exact ⟨.int 4, _, e, ⟨t, rfl⟩, fun _ => .int 4⟩
    g_ZERO := ⟨.ref (He.ga K "ZERO"), _, He.glo_ok X G (c.fact 86 (f := .glo "ZERO") rfl), rfl, fun W => .tup (tupAt_ok o1 W) (.cons (.int 0) (.cons (.int 1) .nil))⟩
    g_NOUGHT := ⟨.ref (He.ga K "NOUGHT"), _, He.glo_ok X G (c.fact 87 (f := .glo "NOUGHT") rfl), rfl, fun W => .tup (tupAt_ok o2 W) (.cons (.int 0) (.cons (.tup (tupAt_ok o3 W) .nil) .nil))⟩
    g_gcd := PySem.W.mg_of X G (He.eqO_ok o4) }
end
/-- the walk, whatever the view -/
theorem walk_of (law_true : ∀ ns : List Int, ns.length ≤ 63 → ∃ m, F_law [.d (rol (ns.map PyData.int))] [] = some (.bool true, m)) (q : Program) :
    PySem.W.WalkO q [] (PySem.W.XL q []) hkX.says RW0.toRowW (HandSHeadRun.topDef RW0.prog 86) [] fun f vs => PySem.call f vs := by
  open PySem.W PySem.Calls in
  refine Att.attach_call (l := PySem.Challenge.rw_bandsplits_k71_whole_fewest_trees) (n := 63) rfl (by kernel_rfl) fun w s₀ s₁ mg mb fa o pm cd doc a vs ns G Y ho hd hcd hmg hobj hints hlen hg => ?_
  obtain ⟨K, KX, own, c⟩ := Y
  have nm : (HandSHeadRun.topDef RW0.prog 86).name = ("law" : PySem.Str) := by kernel_rfl
  rw [nm] at hmg
  have B := bx_of KX G.T.g own c
  obtain ⟨fd, F⟩ := c.def_ 69 (d := D86) rfl
  have e := hmg.symm.trans (He.glo_ok KX G.T.g (c.fact 69 (f := .glo "law") rfl))
  cases e
  have bind := FunD.bindsA (ps := ["_law_script"]) F fun _ _ _ _ _ _ us hl => match us, hl with | [_], _ => rfl
  obtain ⟨m, tells⟩ := law_true ns hlen
  refine law_end (F := F_law) KX G.T.g G.T.b G.T.builtins G.T.nolimit hg hobj hints (Nat.le_trans hlen (by decide)) (k := 15) (fd := fd) ⟨rfl, by decide, by decide⟩ rfl (fun base _ _ => ?_) (fun s u => bind s [u] rfl) tells
  obtain ⟨f2, fd2, h1, _, _, h4, oc, od, osl, lk⟩ := (ok_law (P := PySem.Challenge.pw_bandsplits_k71_whole_fewest_trees) (w := w) (base := base) B).ex
  have e2 := hmg.symm.trans h1
  cases e2
  obtain ⟨_, _, _, lk2⟩ := funD_look F
  have lk3 := lk.symm.trans lk2
  cases lk3
  exact h4
end Bs
set_option maxHeartbeats 4000000
/-! MA: what the plain meaning of the text is worth: the rules of reckoning, ratios. -/
namespace Bs.Mt
open PySem

/-! ### the meaning's combinators, applied -/
section
variable {e : En} {m : Mm} {a b c : GE} {t s : GT} {f : D → D → Option D} {h : D → Option D}
@[simp] theorem ap_gC {x : D} : gC x e m = some (x, m) := rfl
@[simp] theorem ap_gVar {i : Nat} : gVar i e m = (match e[i]? with
  | some (some (.d x)) => some (x, m)
  | _ => none) := rfl
@[simp] theorem ap_g1 : g1 h a e m = (a e m).bind fun p => (h p.1).map fun z => (z, p.2) := rfl
@[simp] theorem ap_g2 : g2 f a b e m = (a e m).bind fun p => (b e p.2).bind fun q => (f p.1 q.1).map fun z => (z, q.2) := rfl
@[simp] theorem ap_gtV : gtV a e m = (a e m).bind fun p => (boolD p.1).map fun b => (b, p.2) := rfl
@[simp] theorem ap_gtAnd : gtAnd t s e m = (t e m).bind fun p => if p.1 = true then s e p.2 else some (false, p.2) := rfl
@[simp] theorem ap_gtOr : gtOr t s e m = (t e m).bind fun p => if p.1 = true then some (true, p.2) else s e p.2 := rfl
@[simp] theorem ap_gtNot : gtNot t e m = (t e m).map fun p => (!p.1, p.2) := rfl
@[simp] theorem ap_gtYes : gtYes e m = some (true, m) := rfl
@[simp] theorem ap_gAnd : gAnd a b e m = (a e m).bind fun p => (boolD p.1).bind fun c => if c = true then b e p.2 else some (.bool false, p.2) := rfl
@[simp] theorem ap_gOr : gOr a b e m = (a e m).bind fun p => (boolD p.1).bind fun c => if c = true then some (.bool true, p.2) else b e p.2 := rfl
@[simp] theorem ap_gNot : gNot a e m = (a e m).bind fun p => (boolD p.1).map fun c => (.bool (!c), p.2) := rfl
@[simp] theorem ap_gIte : gIte t a b e m = (t e m).bind fun p => if p.1 = true then a e p.2 else b e p.2 := rfl
@[simp] theorem ap_gChain {f' : D → D → Option D} : gChain f f' a b c e m = (a e m).bind fun p => (b e p.2).bind fun q => (f p.1 q.1).bind fun z => (boolD z).bind fun k =>
  if k = true then (c e q.2).bind fun r => (f' q.1 r.1).map fun y => (y, r.2) else some (.bool false, q.2) := rfl
@[simp] theorem ap_gl0 : gl0 e m = some ([], m) := rfl
@[simp] theorem ap_glc {r : GL} : glc a r e m = (a e m).bind fun p => (r e p.2).map fun q => (p.1 :: q.1, q.2) := rfl
@[simp] theorem ap_gTup {r : GL} : gTup r e m = (r e m).bind fun p => if p.1.length ≤ big then some (.tuple p.1, p.2) else none := rfl
@[simp] theorem ap_glD {r : GL} : glD r e m = (r e m).bind fun p => if p.1.length ≤ big then some p else none := rfl
@[simp] theorem ap_gList {r : GL} : gList r e m = (r e m).map fun p => (.list p.1, p.2) := rfl
@[simp] theorem ap_ga0 : ga0 e m = some ([], m) := rfl
@[simp] theorem ap_gac {r : GA} : gac a r e m = (a e m).bind fun p => (r e p.2).map fun q => (.d p.1 :: q.1, q.2) := rfl
@[simp] theorem ap_gam {i : Nat} {r : GA} : gam i r e m = (match e[i]? with
  | some (some (.at k)) => (r e m).map fun q => (.at k :: q.1, q.2)
  | _ => none) := rfl
@[simp] theorem ap_gCall {F : Fn} {r : GA} : gCall F r e m = (r e m).bind fun p => F p.1 p.2 := rfl
@[simp] theorem ap_gsN : gsN e m = some (.nx e m) := rfl
@[simp] theorem ap_gsSeq {x y : GS} : gsSeq x y e m = (x e m).bind fun o => (match o with
  | .nx e1 m1 => y e1 m1
  | .rt x m1 => some (.rt x m1)
  | .rl x m1 => some (.rl x m1)) := rfl
@[simp] theorem ap_gsRet : gsRet a e m = (a e m).map fun p => .rt p.1 p.2 := rfl
@[simp] theorem ap_gsRetL {r : GL} : gsRetL r e m = (r e m).map fun p => .rl p.1 p.2 := rfl
@[simp] theorem ap_gsIf {x y : GS} : gsIf t x y e m = (t e m).bind fun p => if p.1 = true then x e p.2 else y e p.2 := rfl
@[simp] theorem ap_gsAsg {g : GG} : gsAsg a g e m = (a e m).bind fun p => (g p.1 e p.2).map fun q => .nx q.1 q.2 := rfl
@[simp] theorem ap_ggN {i : Nat} {x : D} : ggN i x e m = some (e.set i (some (.d x)), m) := rfl
@[simp] theorem ap_gsPar {i j : Nat} : gsPar i j a b e m = (a e m).bind fun p => (b e p.2).map fun q => .nx ((e.set i (some (.d p.1))).set j (some (.d q.1))) q.2 := rfl
@[simp] theorem ap_gsNew {i : Nat} {r : GL} : gsNew i r e m = (r e m).map fun p => .nx (e.set i (some (.at p.2.length))) (p.2 ++ [some p.1]) := rfl
@[simp] theorem ap_gsFor {src : GL} {g : GG} {b : GS} : gsFor src g b e m = (src e m).bind fun p => forG g b p.1 e p.2 := rfl
@[simp] theorem ap_gsWhile {b : GS} {fu : En → Nat} : gsWhile fu t b e m = whileG t b (fu e) e m := rfl
@[simp] theorem ap_gxL : gxL a e m = (a e m).bind fun p => (match p.1 with
  | .list xs => some (xs, p.2)
  | .dict kvs => some (kvs.map (·.1), p.2)
  | _ => none) := rfl
@[simp] theorem ap_gxT : gxT a e m = (a e m).bind fun p => (match p.1 with
  | .tuple xs => some (xs, p.2)
  | _ => none) := rfl
@[simp] theorem ap_runB {n : Nat} {g : GS} {ss : List Sl} : runB n g ss m = (g (ss.map some ++ List.replicate (n - ss.length) none) m).bind fun o => (match o with
  | .nx _ m1 => some (.none, m1.take m.length)
  | .rt x m1 => some (x, m1.take m.length)
  | .rl xs m1 => some (.list xs, m1.take m.length)) := rfl
end
@[simp] theorem op_add {i j : Int} : addD (.int i) (.int j) = some (.int (i + j)) := rfl
@[simp] theorem op_addI {i j : Int} : addI (.int i) (.int j) = some (.int (i + j)) := rfl
@[simp] theorem op_sub {i j : Int} : subD (.int i) (.int j) = some (.int (i - j)) := rfl
@[simp] theorem op_neg {i : Int} : negD (.int i) = some (.int (-i)) := rfl
@[simp] theorem op_lt {i j : Int} : ltD (.int i) (.int j) = some (.bool (decide (i < j))) := rfl
@[simp] theorem op_le {i j : Int} : leD (.int i) (.int j) = some (.bool (decide (i ≤ j))) := rfl
@[simp] theorem op_gt {i j : Int} : gtD (.int i) (.int j) = some (.bool (decide (j < i))) := rfl
@[simp] theorem op_ge {i j : Int} : geD (.int i) (.int j) = some (.bool (decide (j ≤ i))) := rfl
@[simp] theorem op_gcd {i j : Int} : gcdD (.int i) (.int j) = some (.int ((Nat.gcd i.natAbs j.natAbs : Nat) : Int)) := rfl
@[simp] theorem op_intD {i : Int} : intD (.int i) = some (.int i) := rfl
@[simp] theorem op_abs {i : Int} : absD (.int i) = some (.int (if i < 0 then -i else i)) := rfl
@[simp] theorem op_boolD {b : Bool} : boolD (.bool b) = some b := rfl
@[simp] theorem op_lenT {xs : List D} : lenD (.tuple xs) = some (.int xs.length) := rfl
@[simp] theorem op_lenL {xs : List D} : lenD (.list xs) = some (.int xs.length) := rfl
@[simp] theorem op_isi1 {i : Int} : isiD .int (.int i) = some (.bool true) := rfl
@[simp] theorem op_isi2 {i : Int} : isiD .bool (.int i) = some (.bool false) := rfl
@[simp] theorem op_isi3 {xs : List D} : isiD .tuple (.tuple xs) = some (.bool true) := rfl
@[simp] theorem op_isi4 : isiD .tuple .none = some (.bool false) := rfl
@[simp] theorem op_isi5 {xs : List D} : isiD .int (.tuple xs) = some (.bool false) := rfl
@[simp] theorem op_isn1 : isND .none = some (.bool true) := rfl
@[simp] theorem op_isn2 {xs : List D} : isND (.tuple xs) = some (.bool false) := rfl
@[simp] theorem op_tup {xs : List D} : tupleD (.list xs) = some (.tuple xs) := rfl
@[simp] theorem op_idxT {xs : List D} {i : Int} : idxD (.tuple xs) (.int i) = atD xs i := rfl
@[simp] theorem op_idxL {xs : List D} {i : Int} : idxD (.list xs) (.int i) = atD xs i := rfl
@[simp] theorem op_eqI {i j : Int} : eqD (.int i) (.int j) = some (.bool (decide (i = j))) := by
  unfold eqD
  rw [if_pos ⟨rfl, rfl, Nat.zero_le _⟩]
  simp only [PyData.eqv]
  have e : (i == j) = decide (i = j) := by rw [Bool.eq_iff_iff, beq_iff_eq, decide_eq_true_eq]
  rw [e]
@[simp] theorem op_neI {i j : Int} : neD (.int i) (.int j) = some (.bool (!decide (i = j))) := by
  unfold neD
  rw [if_pos ⟨rfl, rfl, Nat.zero_le _⟩]
  simp only [PyData.eqv]
  have e : (i == j) = decide (i = j) := by rw [Bool.eq_iff_iff, beq_iff_eq, decide_eq_true_eq]
  rw [e]
theorem atD_nat {xs : List D} {k : Nat} (h : k < xs.length) : atD xs k = xs[k]? := by
  unfold atD ixD
  rw [if_pos (Int.natCast_nonneg k), if_pos (Int.ofNat_lt.mpr h)]
  rfl
theorem atD_map {α : Type} {f : α → D} {xs : List α} {k : Nat} {x : α} (h : xs[k]? = some x) : atD (xs.map f) k = some (f x) := by
  rw [atD_nat (by rw [List.length_map]; exact (List.getElem?_eq_some_iff.mp h).1), List.getElem?_map, h]
  rfl
@[simp] theorem atD_0 {x : D} {xs : List D} : atD (x :: xs) 0 = some x := atD_nat (k := 0) (by simp)
@[simp] theorem atD_1 {x y : D} {xs : List D} : atD (x :: y :: xs) 1 = some y := atD_nat (k := 1) (by simp)
@[simp] theorem atD_2 {x y z : D} {xs : List D} : atD (x :: y :: z :: xs) 2 = some z := atD_nat (k := 2) (by simp)
@[simp] theorem le_big {n : Nat} (h : n < 100) : n ≤ big := Nat.le_trans (Nat.le_of_lt h) (by decide)
@[simp] theorem ap_forG0 {g : GG} {b : GS} {e : En} {m : Mm} : forG g b [] e m = some (.nx e m) := rfl
theorem ap_forG {g : GG} {b : GS} {e : En} {m : Mm} {x : D} {xs : List D} : forG g b (x :: xs) e m = (g x e m).bind fun p => (b p.1 p.2).bind fun o => (match o with
    | .nx e1 m1 => forG g b xs e1 m1
    | .rt y m1 => some (.rt y m1)
    | .rl y m1 => some (.rl y m1)) := rfl

/-! ### ratios -/
def eQ (r : Rat) : D := .tuple [.int r.num, .int r.den]
/-- small enough for every operation -/
def SmI (i : Int) : Prop := i.natAbs < 2 ^ 1900
def Sm (r : Rat) : Prop := SmI r.num ∧ r.den < 2 ^ 1900
theorem log2_lt {n k : Nat} (h : n < 2 ^ k) (hk : 0 < k) : n.log2 < k := by
  by_cases z : n = 0
  · subst z
    exact hk
  · exact (Nat.log2_lt z).mpr h
theorem log2_sm {i : Int} (h : SmI i) : i.natAbs.log2 < 1900 := log2_lt h (by decide)
theorem op_mulS {i j : Int} (h : i.natAbs.log2 < 400000) (k : j.natAbs.log2 < 400000) : mulD (.int i) (.int j) = some (.int (i * j)) := by
  unfold mulD
  exact if_pos (by omega)
theorem op_mulSm {i j : Int} (h : SmI i) (k : SmI j) : mulD (.int i) (.int j) = some (.int (i * j)) := op_mulS (by have := log2_sm h; omega) (by have := log2_sm k; omega)
theorem op_modP {i j : Int} (h : 0 < j) : modD (.int i) (.int j) = some (.int (i % j)) := by
  unfold modD
  exact if_pos h
theorem op_divNS {i j : Int} (h : j ≠ 0) (k : j.natAbs.log2 < 9000) : divN (.int i) (.int j) = some (.int (i.fdiv j)) := by
  unfold divN
  exact if_pos ⟨h, k⟩
@[simp] theorem F_is_whole_int (i : Int) (m : Mm) : F_is_whole [.d (.int i)] m = some (.bool true, m) := by
  simp [F_is_whole, g_is_whole]
@[simp] theorem F_divisor_of_pair (a b : Int) (m : Mm) : F_divisor_of [.d (.tuple [.int a, .int b])] m = some (.int (Int.gcd a b), m) := by
  simp [F_divisor_of, g_divisor_of, ap_forG, Int.gcd]
/-- the signed divisor -/
def sgcd (n d : Int) : Int := if 0 < d then (Int.gcd n d : Int) else -(Int.gcd n d : Int)
theorem sgcd_ne {n d : Int} (h : d ≠ 0) : sgcd n d ≠ 0 := by
  have : (Int.gcd n d : Int) ≠ 0 := by
    intro z
    have := Int.gcd_eq_zero_iff.mp (by exact_mod_cast z : Int.gcd n d = 0)
    exact h this.2
  unfold sgcd
  split <;> omega
theorem sgcd_sign {n d : Int} (h : d ≠ 0) : d.sign * sgcd n d = (Int.gcd d n : Int) ∧ sgcd n d = d.sign * (Int.gcd d n : Int) := by
  rw [Int.gcd_comm d n]
  unfold sgcd
  split
  · rename_i hp
    rw [Int.sign_eq_one_of_pos hp]
    exact ⟨Int.one_mul _, (Int.one_mul _).symm⟩
  · rename_i hp
    rw [Int.sign_eq_neg_one_of_neg (by omega)]
    constructor <;> omega
theorem sgcd_dvd {n d : Int} (h : d ≠ 0) : (∃ k, n = sgcd n d * k) ∧ ∃ l, d = sgcd n d * l := by
  obtain ⟨k, hk⟩ := Int.gcd_dvd_left n d
  obtain ⟨l, hl⟩ := Int.gcd_dvd_right n d
  unfold sgcd
  split
  · exact ⟨⟨k, hk⟩, ⟨l, hl⟩⟩
  · exact ⟨⟨-k, by rw [Int.neg_mul_neg]; exact hk⟩, ⟨-l, by rw [Int.neg_mul_neg]; exact hl⟩⟩
theorem rat_num {n d : Int} (h : d ≠ 0) : n.fdiv (sgcd n d) = (Rat.divInt n d).num := by
  obtain ⟨k, hk⟩ := (sgcd_dvd (n := n) h).1
  have hs := sgcd_ne (n := n) h
  obtain ⟨e1, e2⟩ := sgcd_sign (n := n) h
  have hg : (Int.gcd d n : Int) ≠ 0 := by
    intro z
    rw [z, Int.mul_zero] at e2
    exact hs e2
  have l : n.fdiv (sgcd n d) = k := by
    conv => lhs; arg 1; rw [hk]
    exact Int.mul_fdiv_cancel_left _ hs
  have r : d.sign * n = (Int.gcd d n : Int) * k := by
    rw [← e1, Int.mul_assoc, ← hk]
  rw [Rat.num_divInt, r, l, Int.mul_ediv_cancel_left _ hg]
theorem rat_den {n d : Int} (h : d ≠ 0) : d.fdiv (sgcd n d) = (Rat.divInt n d).den := by
  obtain ⟨k, hk⟩ := (sgcd_dvd (n := n) h).2
  have hs := sgcd_ne (n := n) h
  obtain ⟨e1, e2⟩ := sgcd_sign (n := n) h
  have hg : (Int.gcd d n : Int) ≠ 0 := by
    intro z
    rw [z, Int.mul_zero] at e2
    exact hs e2
  have l : d.fdiv (sgcd n d) = k := by
    conv => lhs; arg 1; rw [hk]
    exact Int.mul_fdiv_cancel_left _ hs
  have r : (d.natAbs : Int) = (Int.gcd d n : Int) * k := by
    rw [← e1, Int.mul_assoc, ← hk, Int.sign_mul_self]
  rw [Rat.den_divInt, if_neg h, l, Int.natCast_ediv, r, Int.mul_ediv_cancel_left _ hg]
theorem sgcd_log {n d : Int} (h : d ≠ 0) {k : Nat} (hk : d.natAbs.log2 < k) : (sgcd n d).natAbs.log2 < k := by
  have h1 : (sgcd n d).natAbs = Int.gcd n d := by
    unfold sgcd
    split <;> simp
  have h2 : Int.gcd n d ≤ d.natAbs := Nat.le_of_dvd (by omega) (Int.gcd_dvd_natAbs_right n d)
  have h3 : d.natAbs < 2 ^ k := (Nat.log2_lt (by omega)).mp hk
  rw [h1]
  exact log2_lt (Nat.lt_of_le_of_lt h2 h3) (by omega)
theorem F_ratio_ok (n d : Int) (m : Mm) (h : d ≠ 0) (k : d.natAbs.log2 < 9000) : F_ratio [.d (.int n), .d (.int d)] m = some (eQ (Rat.divInt n d), m) := by
  have g1 : (sgcd n d).natAbs.log2 < 9000 := sgcd_log h k
  have e1 := op_divNS (i := n) (sgcd_ne (n := n) h) g1
  have e2 := op_divNS (i := d) (sgcd_ne (n := n) h) g1
  rw [rat_num h] at e1
  rw [rat_den h] at e2
  by_cases hd : 0 < d
  · have e : sgcd n d = (Int.gcd n d : Int) := if_pos hd
    rw [e] at e1 e2
    simp [F_ratio, g_ratio, hd, e1, e2, eQ]
  · have e : sgcd n d = -(Int.gcd n d : Int) := if_neg hd
    rw [e] at e1 e2
    simp [F_ratio, g_ratio, hd, e1, e2, eQ]
end Bs.Mt
/-! MB: ratios: the program's and the law's reckoning agree. -/
namespace Bs.Mt
open PySem

theorem den_ne (r : Rat) : (r.den : Int) ≠ 0 := by
  have := r.den_nz
  omega
theorem divInt_add (a b : Rat) : Rat.divInt (a.num * b.den + b.num * a.den) (a.den * b.den) = a + b := by
  rw [Rat.add_def', ← Rat.divInt_ofNat, Int.natCast_mul]
theorem divInt_mul (a b : Rat) : Rat.divInt (a.num * b.num) (a.den * b.den) = a * b := by
  rw [Rat.mul_def', ← Rat.divInt_ofNat, Int.natCast_mul]
theorem sm_den {r : Rat} (h : Sm r) : SmI (r.den : Int) := h.2
theorem log2_mul {i j : Int} (h : SmI i) (k : SmI j) : (i * j).natAbs.log2 < 3800 := by
  refine log2_lt ?_ (by decide)
  rw [Int.natAbs_mul, show (3800 : Nat) = 1900 + 1900 from rfl, Nat.pow_add]
  exact Nat.mul_lt_mul'' h k
theorem F_plus_ok {a b : Rat} (ha : Sm a) (hb : Sm b) (m : Mm) : F_plus [.d (eQ a), .d (eQ b)] m = some (eQ (a + b), m) := by
  have e1 := op_mulSm ha.1 (sm_den hb)
  have e2 := op_mulSm hb.1 (sm_den ha)
  have e3 := op_mulSm (sm_den ha) (sm_den hb)
  have l3 : ((a.den : Int) * b.den).natAbs.log2 < 9000 := Nat.lt_trans (log2_mul (sm_den ha) (sm_den hb)) (by decide)
  have e4 := F_ratio_ok (a.num * b.den + b.num * a.den) ((a.den : Int) * b.den) m (Int.mul_ne_zero (den_ne a) (den_ne b)) l3
  rw [divInt_add] at e4
  simp only [eQ] at e4 ⊢
  simp [F_plus, g_plus, e1, e2, e3, e4]
theorem F_times_ok {a b : Rat} (ha : Sm a) (hb : Sm b) (m : Mm) : F_times [.d (eQ a), .d (eQ b)] m = some (eQ (a * b), m) := by
  have e1 := op_mulSm ha.1 hb.1
  have e3 := op_mulSm (sm_den ha) (sm_den hb)
  have l3 : ((a.den : Int) * b.den).natAbs.log2 < 9000 := Nat.lt_trans (log2_mul (sm_den ha) (sm_den hb)) (by decide)
  have e4 := F_ratio_ok (a.num * b.num) ((a.den : Int) * b.den) m (Int.mul_ne_zero (den_ne a) (den_ne b)) l3
  rw [divInt_mul] at e4
  simp only [eQ] at e4 ⊢
  simp [F_times, g_times, e1, e3, e4]

/-! ### the law's own ratios -/
theorem deep_loop (m : Mm) : ∀ (n : Nat) (a b : Nat), b < n → whileG (gtV (g2 gtD (gVar 1) (gC (.int 0)))) (gsPar 0 1 (gVar 1) (g2 modD (g1 intD (gVar 0)) (gVar 1))) n [some (.d (.int a)), some (.d (.int b))] m
    = some (.nx [some (.d (.int (Nat.gcd a b))), some (.d (.int 0))] m)
  | 0, _, _, h => absurd h (Nat.not_lt_zero _)
  | n + 1, a, 0, h => by
    unfold whileG
    simp
  | n + 1, a, b + 1, h => by
    have ih := deep_loop m n (b + 1) (a % (b + 1)) (Nat.lt_of_lt_of_le (Nat.mod_lt a (Nat.succ_pos b)) (Nat.le_of_lt_succ h))
    have e : modD (.int (a : Int)) (.int ((b : Int) + 1)) = some (.int ((a % (b + 1) : Nat) : Int)) := op_modP (by omega)
    have g : Nat.gcd a (b + 1) = Nat.gcd (b + 1) (a % (b + 1)) := by
      rw [Nat.gcd_comm, Nat.gcd_rec, Nat.gcd_comm]
    have p : (0 : Int) < (b : Int) + 1 := by omega
    unfold whileG
    rw [g]
    simp [p, e]
    simpa using ih
theorem abs_nat (i : Int) : (if i < 0 then -i else i) = (i.natAbs : Int) := by
  split <;> omega
theorem F_law_deep_ok (a b : Int) (h : b.natAbs.log2 < 4999) (m : Mm) : F_law_deep [.d (.int a), .d (.int b)] m = some (.int (Int.gcd a b), m) := by
  have hb : b.natAbs < fuelN := by
    by_cases z : b.natAbs = 0
    · rw [z]
      exact Nat.two_pow_pos 5000
    · exact Nat.lt_trans ((Nat.log2_lt z).mp h) (Nat.pow_lt_pow_right (by decide) (by decide))
  have l := deep_loop m fuelN a.natAbs b.natAbs hb
  simp [F_law_deep, g_law_deep, abs_nat]
  rw [l]
  simp [Int.gcd]
theorem F_law_low_ok (n d : Int) (m : Mm) (h : d ≠ 0) (k : d.natAbs.log2 < 4999) : F_law_low [.d (.int n), .d (.int d)] m = some (eQ (Rat.divInt n d), m) := by
  have g1 : (sgcd n d).natAbs.log2 < 9000 := sgcd_log h (by omega)
  have e1 := op_divNS (i := n) (sgcd_ne (n := n) h) g1
  have e2 := op_divNS (i := d) (sgcd_ne (n := n) h) g1
  rw [rat_num h] at e1
  rw [rat_den h] at e2
  have e3 := F_law_deep_ok n d k m
  by_cases hd : 0 < d
  · have e : sgcd n d = (Int.gcd n d : Int) := if_pos hd
    rw [e] at e1 e2
    simp [F_law_low, g_law_low, hd, e1, e2, e3, eQ]
  · have e : sgcd n d = -(Int.gcd n d : Int) := if_neg hd
    rw [e] at e1 e2
    simp [F_law_low, g_law_low, hd, e1, e2, e3, eQ]
theorem F_law_plus_ok {a b : Rat} (ha : Sm a) (hb : Sm b) (m : Mm) : F_law_plus [.d (eQ a), .d (eQ b)] m = some (eQ (a + b), m) := by
  have e1 := op_mulSm ha.1 (sm_den hb)
  have e2 := op_mulSm hb.1 (sm_den ha)
  have e3 := op_mulSm (sm_den ha) (sm_den hb)
  have l3 : ((a.den : Int) * b.den).natAbs.log2 < 4999 := Nat.lt_trans (log2_mul (sm_den ha) (sm_den hb)) (by decide)
  have e4 := F_law_low_ok (a.num * b.den + b.num * a.den) ((a.den : Int) * b.den) m (Int.mul_ne_zero (den_ne a) (den_ne b)) l3
  rw [divInt_add] at e4
  simp only [eQ] at e4 ⊢
  simp [F_law_plus, g_law_plus, e1, e2, e3, e4]
theorem F_law_prod_ok {a b : Rat} (ha : Sm a) (hb : Sm b) (m : Mm) : F_law_prod [.d (eQ a), .d (eQ b)] m = some (eQ (a * b), m) := by
  have e1 := op_mulSm ha.1 hb.1
  have e3 := op_mulSm (sm_den ha) (sm_den hb)
  have l3 : ((a.den : Int) * b.den).natAbs.log2 < 4999 := Nat.lt_trans (log2_mul (sm_den ha) (sm_den hb)) (by decide)
  have e4 := F_law_low_ok (a.num * b.num) ((a.den : Int) * b.den) m (Int.mul_ne_zero (den_ne a) (den_ne b)) l3
  rw [divInt_mul] at e4
  simp only [eQ] at e4 ⊢
  simp [F_law_prod, g_law_prod, e1, e3, e4]
/-- 1 over b -/
theorem F_law_per_ok {b : Rat} (h : b ≠ 0) (hb : Sm b) (m : Mm) : F_law_per [.d (.tuple [.int 1, .int 1]), .d (eQ b)] m = some (eQ b⁻¹, m) := by
  have s1 : SmI 1 := by
    unfold SmI
    exact Nat.one_lt_two_pow (by decide)
  have e1 := op_mulSm s1 (sm_den hb)
  have e3 := op_mulSm s1 hb.1
  rw [Int.one_mul] at e1 e3
  have l3 : b.num.natAbs.log2 < 4999 := Nat.lt_trans (log2_sm hb.1) (by decide)
  have e4 := F_law_low_ok b.den b.num m (fun z => h (Rat.num_eq_zero.mp z)) l3
  rw [← Rat.inv_def] at e4
  simp only [eQ] at e4 ⊢
  simp [F_law_per, g_law_per, e1, e3, e4]
end Bs.Mt
/-! MC: comprehensions, loops, rows and their trimming. -/
namespace Bs.Mt
open PySem

section
variable {α : Type} {e : En} {j : Nat} {t : GT} {y : GE} {m : Mm}
theorem comp_ok (f g : α → D) (p : α → Bool) : ∀ (l : List α) (acc : List D),
    (∀ x ∈ l, t (e.set j (some (.d (f x)))) m = some (p x, m) ∧ (p x = true → y (e.set j (some (.d (f x)))) m = some (g x, m))) → acc.length + l.length ≤ big →
    compG e j t y (l.map f) m acc = some (acc ++ (l.filter p).map g, m)
  | [], acc, _, _ => by simp [compG]
  | x :: l, acc, h, hl => by
    obtain ⟨h1, h2⟩ := h x (List.mem_cons_self ..)
    have hr : ∀ z ∈ l, t (e.set j (some (.d (f z)))) m = some (p z, m) ∧ (p z = true → y (e.set j (some (.d (f z)))) m = some (g z, m)) := fun z hz => h z (List.mem_cons_of_mem _ hz)
    rw [List.length_cons] at hl
    rw [List.map_cons]
    unfold compG
    rw [h1]
    cases hp : p x with
    | true =>
      have ih := comp_ok f g p l (acc ++ [g x]) hr (by rw [List.length_append, List.length_singleton]; omega)
      simp [h2 hp, hp, ih]
      omega
    | false =>
      have ih := comp_ok f g p l acc hr (by omega)
      simp [hp, ih]
theorem comp_map (f g : α → D) (l : List α) (h : ∀ x ∈ l, y (e.set j (some (.d (f x)))) m = some (g x, m)) (hl : l.length ≤ big) : compG e j gtYes y (l.map f) m [] = some (l.map g, m) := by
  rw [comp_ok f g (fun _ => true) l [] (fun x hx => ⟨rfl, fun _ => h x hx⟩) (by simpa using hl), List.filter_eq_self.mpr (fun _ _ => rfl)]
  rfl
@[simp] theorem ap_glLc {src : GL} {vs : List Nat} : glLc src j vs t y e m = (src e m).bind fun p => compG (wipeE e vs) j t y p.1 p.2 [] := rfl
@[simp] theorem ap_wipe1 {i : Nat} : wipeE e [i] = e.set i none := rfl
theorem for_pre {gg : GG} {b : GS} (f : α → D) (R : List α → En → Mm → Prop) (l : List α)
    (h : ∀ pre x post e m, l = pre ++ x :: post → R pre e m → ∃ e1 m1, (gg (f x) e m).bind (fun p => b p.1 p.2) = some (.nx e1 m1) ∧ R (pre ++ [x]) e1 m1) (e : En) (m : Mm) (h0 : R [] e m) :
    ∃ e1 m1, forG gg b (l.map f) e m = some (.nx e1 m1) ∧ R l e1 m1 := by
  have go : ∀ (post pre : List α) (e : En) (m : Mm), l = pre ++ post → R pre e m → ∃ e1 m1, forG gg b (post.map f) e m = some (.nx e1 m1) ∧ R l e1 m1 := by
    intro post
    induction post with
    | nil =>
      intro pre e m hl hr
      rw [List.append_nil] at hl
      subst hl
      exact ⟨e, m, rfl, hr⟩
    | cons x post ih =>
      intro pre e m hl hr
      obtain ⟨e1, m1, h1, h2⟩ := h pre x post e m hl hr
      obtain ⟨e2, m2, h3, h4⟩ := ih (pre ++ [x]) e1 m1 (by rw [hl]; simp) h2
      refine ⟨e2, m2, ?_, h4⟩
      rw [List.map_cons, ap_forG]
      obtain ⟨p, hp, hq⟩ := Option.bind_eq_some_iff.mp h1
      rw [hp]
      show (b p.1 p.2).bind _ = _
      rw [hq]
      exact h3
  exact go l [] e m rfl h0
end
theorem cutD_nat {xs : List D} {a b : Nat} (hab : a ≤ b) (hb : b ≤ xs.length) : cutD xs (some (a : Int)) (some (b : Int)) = (xs.drop a).take (b - a) := by
  unfold cutD sxD
  simp only [show ¬ ((a : Int) < 0) by omega, show ¬ ((b : Int) < 0) by omega, if_false, Int.toNat_natCast]
  rw [Nat.min_eq_left hb, Nat.min_eq_left (by omega)]
@[simp] theorem ap_glSl {a : GE} {lo hi : En → Mm → Option (Option Int × Mm)} {e : En} {m : Mm} : glSl a lo hi e m = (a e m).bind fun p => (lo e p.2).bind fun l => (hi e l.2).bind fun h => (match p.1 with
  | .list xs => some (cutD xs l.1 h.1, h.2)
  | .dict kvs => some (cutD (kvs.map (·.1)) l.1 h.1, h.2)
  | _ => none) := rfl
@[simp] theorem ap_gpN {e : En} {m : Mm} : gpN e m = some (none, m) := rfl
@[simp] theorem ap_gpS {a : GE} {e : En} {m : Mm} : gpS a e m = (a e m).bind fun p => (match p.1 with
  | .int i => some (some i, p.2)
  | _ => none) := rfl
@[simp] theorem ap_gsAug {i : Nat} {f : D → D → Option D} {a : GE} {e : En} {m : Mm} : gsAug i f a e m = (match e[i]? with
  | some (some (.d x)) => (a e m).bind fun p => (f x p.1).map fun z => .nx (e.set i (some (.d z))) p.2
  | _ => none) := rfl

/-! ### rows -/
abbrev Rw := Int × List Rat
def eW (x : Rw) : D := .tuple [.int x.1, .tuple (x.2.map eQ)]
def fst0 : List Rat → Nat
  | [] => 0
  | x :: r => if x = 0 then fst0 r + 1 else 0
def lst0 : List Rat → Nat
  | [] => 0
  | x :: r => if lst0 r = 0 then (if x = 0 then 0 else 1) else lst0 r + 1
def trim (s : Int) (l : List Rat) : Rw := if lst0 l = 0 then (0, []) else (s + fst0 l, (l.drop (fst0 l)).take (lst0 l - fst0 l))
theorem fst0_eq : ∀ {l : List Rat} {a : Nat}, (∀ i, i < a → l[i]? = some 0) → (∃ x, l[a]? = some x ∧ x ≠ 0) → fst0 l = a
  | [], a, _, ⟨x, h, _⟩ => by simp at h
  | y :: r, 0, _, ⟨x, h, hx⟩ => by
    have e : y = x := by simpa using h
    unfold fst0
    rw [if_neg (by rw [e]; exact hx)]
  | y :: r, a + 1, h1, ⟨x, h, hx⟩ => by
    have e : y = 0 := by simpa using h1 0 (Nat.succ_pos a)
    unfold fst0
    rw [if_pos e, fst0_eq (l := r) (a := a) (fun i hi => by simpa using h1 (i + 1) (by omega)) ⟨x, by simpa using h, hx⟩]
theorem lst0_zero : ∀ {l : List Rat}, (∀ x ∈ l, x = 0) → lst0 l = 0
  | [], _ => rfl
  | y :: r, h => by
    unfold lst0
    rw [if_pos (lst0_zero fun x hx => h x (List.mem_cons_of_mem _ hx)), if_pos (h y (List.mem_cons_self ..))]
theorem lst0_eq : ∀ {l : List Rat} {b : Nat}, (∃ x, l[b]? = some x ∧ x ≠ 0) → (∀ i x, b < i → l[i]? = some x → x = 0) → lst0 l = b + 1
  | [], b, ⟨x, h, _⟩, _ => by simp at h
  | y :: r, 0, ⟨x, h, hx⟩, h2 => by
    have e : y = x := by simpa using h
    unfold lst0
    rw [if_pos (lst0_zero fun z hz => by
      obtain ⟨i, hi⟩ := List.getElem?_of_mem hz
      exact h2 (i + 1) z (by omega) (by simpa using hi)), if_neg (by rw [e]; exact hx)]
  | y :: r, b + 1, ⟨x, h, hx⟩, h2 => by
    have ih := lst0_eq (l := r) (b := b) ⟨x, by simpa using h, hx⟩ (fun i z hi hz => h2 (i + 1) z (by omega) (by simpa using hz))
    unfold lst0
    rw [ih, if_neg (by omega)]
theorem trim_zero {s : Int} {l : List Rat} (h : ∀ x ∈ l, x = 0) : trim s l = (0, []) := by
  unfold trim
  rw [if_pos (lst0_zero h)]
theorem trim_eq {s : Int} {l : List Rat} {a b : Nat} (h1 : ∀ i, i < a → l[i]? = some 0) (h2 : ∃ x, l[a]? = some x ∧ x ≠ 0) (h3 : ∃ x, l[b]? = some x ∧ x ≠ 0) (h4 : ∀ i x, b < i → l[i]? = some x → x = 0) :
    trim s l = (s + a, (l.drop a).take (b + 1 - a)) := by
  unfold trim
  rw [lst0_eq h3 h4, fst0_eq h1 h2, if_neg (by omega)]

/-! ### the program's trimming -/
theorem eQ_at {l : List Rat} {k : Nat} {r : Rat} (h : l[k]? = some r) : atD (l.map eQ) (k : Int) = some (.tuple [.int r.num, .int r.den]) := atD_map h
theorem low_loop {l : List Rat} {S : Sl} {m : Mm} : ∀ (n k : Nat), (∀ i, i < k → l[i]? = some 0) → k ≤ l.length → l.length - k < n →
    ∃ k', whileG (gtAnd (gtV (g2 ltD (gVar 2) (gVar 3))) (gtV (g2 eqD (g2 idxD (g2 idxD (gVar 1) (gVar 2)) (gC (.int 0))) (gC (.int 0))))) (gsAug 2 addI (gC (.int 1))) n
      [some S, some (.d (.list (l.map eQ))), some (.d (.int k)), some (.d (.int l.length))] m = some (.nx [some S, some (.d (.list (l.map eQ))), some (.d (.int (k' : Nat))), some (.d (.int l.length))] m) ∧
      (∀ i, i < k' → l[i]? = some 0) ∧ (k' = l.length ∨ ∃ x, l[k']? = some x ∧ x ≠ 0)
  | 0, k, _, _, h => absurd h (Nat.not_lt_zero _)
  | n + 1, k, hz, hk, hn => by
    by_cases hlt : k < l.length
    · have e : l[k]? = some l[k] := List.getElem?_eq_getElem hlt
      have ea := eQ_at e
      have p : (k : Int) < l.length := Int.ofNat_lt.mpr hlt
      by_cases h0 : l[k] = 0
      · obtain ⟨k', h1, h2, h3⟩ := low_loop (l := l) (S := S) (m := m) n (k + 1) (fun i hi => by
          by_cases hik : i = k
          · subst hik
            rw [e, h0]
          · exact hz i (by omega)) hlt (by omega)
        refine ⟨k', ?_, h2, h3⟩
        unfold whileG
        have hn0 : (l[k]).num = 0 := Rat.num_eq_zero.mpr h0
        simp [p, ea, hn0]
        simpa using h1
      · refine ⟨k, ?_, hz, .inr ⟨_, e, h0⟩⟩
        unfold whileG
        have hn0 : ¬ (l[k]).num = 0 := fun z => h0 (Rat.num_eq_zero.mp z)
        simp [p, ea, hn0]
    · refine ⟨k, ?_, hz, .inl (by omega)⟩
      unfold whileG
      have p : ¬ (k : Int) < l.length := by omega
      simp [p]
theorem high_loop {l : List Rat} {S : Sl} {m : Mm} {a : Nat} : ∀ (n k : Nat), (∀ i x, k ≤ i → l[i]? = some x → x = 0) → a ≤ k → k ≤ l.length → k < n →
    ∃ k', whileG (gtAnd (gtV (g2 ltD (gVar 2) (gVar 3))) (gtV (g2 eqD (g2 idxD (g2 idxD (gVar 1) (g2 subD (gVar 3) (gC (.int 1)))) (gC (.int 0))) (gC (.int 0))))) (gsAug 3 subD (gC (.int 1))) n
      [some S, some (.d (.list (l.map eQ))), some (.d (.int a)), some (.d (.int k))] m = some (.nx [some S, some (.d (.list (l.map eQ))), some (.d (.int a)), some (.d (.int (k' : Nat)))] m) ∧
      (∀ i x, k' ≤ i → l[i]? = some x → x = 0) ∧ a ≤ k' ∧ k' ≤ l.length ∧ (k' = a ∨ ∃ x, a < k' ∧ l[k' - 1]? = some x ∧ x ≠ 0)
  | 0, k, _, _, _, h => absurd h (Nat.not_lt_zero _)
  | n + 1, k, hz, hak, hk, hn => by
    by_cases hlt : a < k
    · obtain ⟨j, rfl⟩ : ∃ j, k = j + 1 := ⟨k - 1, by omega⟩
      have hjl : j < l.length := by omega
      have e : l[j]? = some l[j] := List.getElem?_eq_getElem hjl
      have ea := eQ_at e
      have p : (a : Int) < (j : Int) + 1 := by omega
      have q : (j : Int) + 1 - 1 = j := by omega
      by_cases h0 : l[j] = 0
      · obtain ⟨k', h1, h2, h3⟩ := high_loop (l := l) (S := S) (m := m) (a := a) n j (fun i x hi hx => by
          by_cases hij : i = j
          · subst hij
            rw [e] at hx
            exact (Option.some.inj hx).symm.trans h0
          · exact hz i x (by omega) hx) (by omega) (by omega) (by omega)
        refine ⟨k', ?_, h2, h3⟩
        unfold whileG
        have hn0 : (l[j]).num = 0 := Rat.num_eq_zero.mpr h0
        simp [p, q, ea, hn0]
        exact h1
      · refine ⟨j + 1, ?_, hz, hak, hk, .inr ⟨_, hlt, e, h0⟩⟩
        unfold whileG
        have hn0 : ¬ (l[j]).num = 0 := fun z => h0 (Rat.num_eq_zero.mp z)
        simp [p, q, ea, hn0]
    · refine ⟨k, ?_, hz, hak, hk, .inl (by omega)⟩
      unfold whileG
      have p : ¬ (a : Int) < k := by omega
      simp [p]
theorem fuel_big {n : Nat} (h : n ≤ big) : n + 1 < fuelN := by
  refine Nat.lt_of_lt_of_le (Nat.lt_of_le_of_lt (Nat.succ_le_succ h) (show big + 1 < 2 ^ 20 by decide)) ?_
  exact Nat.pow_le_pow_right (by decide) (by decide)
theorem map_cut {l : List Rat} {a b : Nat} : ((l.map eQ).drop a).take b = ((l.drop a).take b).map eQ := by
  rw [← List.map_drop, ← List.map_take]
theorem F_row_by_ok (s : Int) (l : List Rat) (hl : l.length ≤ big) (m : Mm) : F_row_by [.d (.int s), .d (.list (l.map eQ))] m = some (eW (trim s l), m) := by
  have hf := fuel_big hl
  obtain ⟨a, ha1, ha2, ha3⟩ := low_loop (l := l) (S := .d (.int s)) (m := m) fuelN 0 (fun i hi => absurd hi (Nat.not_lt_zero i)) (Nat.zero_le _) (by omega)
  have hal : a ≤ l.length := by
    rcases ha3 with h | ⟨x, h, _⟩
    · omega
    · exact Nat.le_of_lt (List.getElem?_eq_some_iff.mp h).1
  obtain ⟨b, hb1, hb2, hb3, hb4, hb5⟩ := high_loop (l := l) (S := .d (.int s)) (m := m) (a := a) fuelN l.length (fun i x hi hx => by
    have := (List.getElem?_eq_some_iff.mp hx).1
    omega) hal (Nat.le_refl _) (by omega)
  have z0 : ((0 : Nat) : Int) = 0 := rfl
  rw [z0] at ha1
  by_cases hab : a < b
  · have ht : trim s l = (s + a, (l.drop a).take (b - a)) := by
      rcases hb5 with h | ⟨x, _, h1, h2⟩
      · omega
      · rcases ha3 with h | ha4
        · omega
        · have e : b - 1 + 1 = b := by omega
          have := trim_eq (s := s) ha2 ha4 ⟨x, h1, h2⟩ (fun i y hi hy => hb2 i y (by omega) hy)
          rw [e] at this
          exact this
    have hc : cutD (l.map eQ) (some (a : Int)) (some (b : Int)) = ((l.drop a).take (b - a)).map eQ := by
      rw [cutD_nat hb3 (by rw [List.length_map]; exact hb4), map_cut]
    have p : (a : Int) < b := Int.ofNat_lt.mpr hab
    simp [F_row_by, g_row_by, ha1, hb1, p, hc, ht, eW]
  · have ht : trim s l = (0, []) := trim_zero fun x hx => by
      obtain ⟨i, hi⟩ := List.getElem?_of_mem hx
      by_cases hia : i < a
      · rw [ha2 i hia] at hi
        exact (Option.some.inj hi).symm
      · exact hb2 i x (by omega) hi
    have p : ¬ (a : Int) < b := by omega
    simp [F_row_by, g_row_by, ha1, hb1, p, ht, eW, dNOUGHT]
end Bs.Mt
/-! MD: the law's trimming, places, halves; lists as data. -/
namespace Bs.Mt
open PySem

theorem plainAll_map {α : Type} {f : α → D} : ∀ (l : List α), (∀ x ∈ l, (f x).plain = true) → PyData.plainAll (l.map f) = true
  | [], _ => rfl
  | x :: l, h => by
    rw [List.map_cons, PyData.plainAll, h x (List.mem_cons_self ..), plainAll_map l fun y hy => h y (List.mem_cons_of_mem _ hy)]
    rfl
theorem eqv_nil : ∀ xs : List D, PyData.eqvAll xs [] = decide (xs = [])
  | [] => by simp [PyData.eqvAll]
  | _ :: _ => by simp [PyData.eqvAll]
theorem depth_nilT : (PyData.tuple []).depth = 1 := by decide +kernel
theorem depth_nilL : (PyData.list []).depth = 1 := by decide +kernel
theorem op_eqL0 {xs : List D} (h : PyData.plainAll xs = true) : eqD (.list xs) (.list []) = some (.bool (decide (xs = []))) := by
  unfold eqD
  have p : (PyData.list xs).plain = true := by simpa [PyData.plain] using h
  rw [if_pos ⟨p, rfl, by rw [depth_nilL]; omega⟩]
  simp only [PyData.eqv]
  rw [eqv_nil]
theorem op_eqT0 {xs : List D} (h : PyData.plainAll xs = true) : eqD (.tuple xs) (.tuple []) = some (.bool (decide (xs = []))) := by
  unfold eqD
  have p : (PyData.tuple xs).plain = true := by simpa [PyData.plain] using h
  rw [if_pos ⟨p, rfl, by rw [depth_nilT]; omega⟩]
  simp only [PyData.eqv]
  rw [eqv_nil]
theorem op_neT0 {xs : List D} (h : PyData.plainAll xs = true) : neD (.tuple xs) (.tuple []) = some (.bool (!decide (xs = []))) := by
  unfold neD
  have p : (PyData.tuple xs).plain = true := by simpa [PyData.plain] using h
  rw [if_pos ⟨p, rfl, by rw [depth_nilT]; omega⟩]
  simp only [PyData.eqv]
  rw [eqv_nil]
theorem plain_eQ (r : Rat) : (eQ r).plain = true := rfl
theorem plain_eQs (l : List Rat) : PyData.plainAll (l.map eQ) = true := plainAll_map l fun x _ => plain_eQ x
@[simp] theorem op_eqR0 {l : List Rat} : eqD (.tuple (l.map eQ)) (.tuple []) = some (.bool (decide (l = []))) := by
  rw [op_eqT0 (plain_eQs l)]
  simp
@[simp] theorem op_neR0 {l : List Rat} : neD (.tuple (l.map eQ)) (.tuple []) = some (.bool (!decide (l = []))) := by
  rw [op_neT0 (plain_eQs l)]
  simp
theorem atD_last {xs : List D} {x : D} (h : xs.getLast? = some x) : atD xs (-1) = some x := by
  have hp : 0 < xs.length := by
    cases xs with
    | nil => simp at h
    | cons => simp
  unfold atD ixD
  rw [if_neg (by omega), if_pos (by omega)]
  show xs[(-1 + (xs.length : Int)).toNat]? = some x
  rw [show (-1 + (xs.length : Int)).toNat = xs.length - 1 by omega, ← List.getLast?_eq_getElem?]
  exact h
theorem rng0 (n : Nat) : rngD 0 (n : Int) = (List.range n).map fun k => PyData.int (k : Nat) := by
  unfold rngD
  simp
theorem range_filter (p : Nat → Bool) : ∀ n : Nat, ((List.range n).filter p = [] ∧ ∀ i, i < n → p i = false) ∨
    ∃ a b, a ≤ b ∧ b < n ∧ ((List.range n).filter p)[0]? = some a ∧ ((List.range n).filter p).getLast? = some b ∧ p a = true ∧ p b = true ∧ (∀ i, i < a → p i = false) ∧ ∀ i, b < i → i < n → p i = false
  | 0 => .inl ⟨rfl, fun i hi => absurd hi (Nat.not_lt_zero i)⟩
  | n + 1 => by
    rw [List.range_succ, List.filter_append]
    rcases range_filter p n with ⟨h1, h2⟩ | ⟨a, b, hab, hb, h1, h2, h3, h4, h5, h6⟩
    · rw [h1]
      cases hp : p n with
      | false => exact .inl ⟨by simp [hp], fun i hi => by
          by_cases e : i = n
          · rw [e]; exact hp
          · exact h2 i (by omega)⟩
      | true => exact .inr ⟨n, n, Nat.le_refl _, by omega, by simp [hp], by simp [hp], hp, hp, fun i hi => h2 i hi, fun i h1 h2 => by omega⟩
    · right
      cases hp : p n with
      | false => exact ⟨a, b, hab, by omega, by simp [hp, h1], by simp [hp, h2], h3, h4, h5, fun i hi hn => by
          by_cases e : i = n
          · rw [e]; exact hp
          · exact h6 i hi (by omega)⟩
      | true =>
        refine ⟨a, n, by omega, by omega, ?_, by simp [hp], h3, hp, h5, fun i hi hn => by omega⟩
        rw [List.getElem?_append_left]
        · exact h1
        · exact (List.getElem?_eq_some_iff.mp h1).1
@[simp] theorem ap_gxR1 {a : GE} {e : En} {m : Mm} : gxR1 a e m = (a e m).bind fun p => (match p.1 with
  | .int n => if -1000000 ≤ n ∧ n ≤ 1000000 then some (rngD 0 n, p.2) else none
  | _ => none) := rfl
@[simp] theorem ap_gxR2 {a b : GE} {e : En} {m : Mm} : gxR2 a b e m = (a e m).bind fun p => (b e p.2).bind fun q => (match p.1, q.1 with
  | .int lo, .int n => if (-1000000 ≤ lo ∧ lo ≤ 1000000) ∧ (-1000000 ≤ n ∧ n ≤ 1000000) then some (rngD lo n, q.2) else none
  | _, _ => none) := rfl
theorem F_law_trim_ok (s : Int) (l : List Rat) (hl : l.length ≤ 1000000) (m : Mm) : F_law_trim [.d (.int s), .d (.list (l.map eQ))] m = some (eW (trim s l), m) := by
  let p : Nat → Bool := fun k => !decide (((l[k]?).getD 0).num = 0)
  have hc : ∀ e : En, e[1]? = some (some (.d (.list (l.map eQ)))) → e.length = 4 → compG e 3 (gtV (g2 neD (g2 idxD (g2 idxD (gVar 1) (gVar 3)) (gC (.int 0))) (gC (.int 0)))) (gVar 3) ((List.range l.length).map fun k => PyData.int (k : Nat)) m [] =
      some (((List.range l.length).filter p).map fun k => PyData.int (k : Nat), m) := by
    intro e he hlen
    rw [comp_ok (fun k : Nat => PyData.int (k : Nat)) (fun k : Nat => PyData.int (k : Nat)) p (List.range l.length) [] (fun k hk => ?_) (by rw [List.length_nil, List.length_range, Nat.zero_add]; exact hl)]
    · rfl
    · have hk2 : k < l.length := List.mem_range.mp hk
      have e1 : l[k]? = some l[k] := List.getElem?_eq_getElem hk2
      have ea := eQ_at e1
      have e3 : (e.set 3 (some (.d (.int (k : Nat)))))[3]? = some (some (.d (.int (k : Nat)))) := List.getElem?_set_self (by omega)
      have e4 : (e.set 3 (some (.d (.int (k : Nat)))))[1]? = some (some (.d (.list (l.map eQ)))) := by rw [List.getElem?_set_ne (by decide)]; exact he
      refine ⟨?_, fun _ => ?_⟩
      · simp [e3, e4, ea, p, e1]
      · simp [e3]
  have pz : ∀ i : Nat, i < l.length → p i = false → l[i]? = some 0 := fun i hi h => by
    have e1 : l[i]? = some l[i] := List.getElem?_eq_getElem hi
    have h2 : (l[i]).num = 0 := by simpa [p, e1] using h
    rw [e1, Rat.num_eq_zero.mp h2]
  have pn : ∀ i : Nat, i < l.length → p i = true → ∃ x, l[i]? = some x ∧ x ≠ 0 := fun i hi h => by
    have e1 : l[i]? = some l[i] := List.getElem?_eq_getElem hi
    have h2 : ¬ (l[i]).num = 0 := by simpa [p, e1] using h
    exact ⟨_, e1, fun z => h2 (Rat.num_eq_zero.mpr z)⟩
  have h0 : -1000000 ≤ (l.length : Int) ∧ (l.length : Int) ≤ 1000000 := by omega
  have hcc := hc [some (.d (.int s)), some (.d (.list (l.map eQ))), none, none] rfl rfl
  rcases range_filter p l.length with ⟨f1, f2⟩ | ⟨a, b, hab, hb, f1, f2, f3, f4, f5, f6⟩
  · have ht : trim s l = (0, []) := trim_zero fun x hx => by
      obtain ⟨i, hi⟩ := List.getElem?_of_mem hx
      have hl2 := (List.getElem?_eq_some_iff.mp hi).1
      rw [pz i hl2 (f2 i hl2)] at hi
      exact (Option.some.inj hi).symm
    rw [f1] at hcc
    have e0 : eqD (.list []) (.list []) = some (.bool true) := by
      rw [op_eqL0 rfl]
      rfl
    simp [F_law_trim, g_law_trim, h0, rng0, hcc, e0, ht, eW]
  · have ht : trim s l = (s + a, (l.drop a).take (b + 1 - a)) := trim_eq (fun i hi => pz i (by omega) (f5 i hi)) (pn a (by omega) f3) (pn b hb f4) fun i x hi hx => by
      have hl2 := (List.getElem?_eq_some_iff.mp hx).1
      rw [pz i hl2 (f6 i hi hl2)] at hx
      exact (Option.some.inj hx).symm
    have g1 : atD (((List.range l.length).filter p).map fun k => PyData.int (k : Nat)) 0 = some (.int a) := by
      have := atD_map (f := fun k : Nat => PyData.int (k : Nat)) f1
      simpa using this
    have g2 : atD (((List.range l.length).filter p).map fun k => PyData.int (k : Nat)) (-1) = some (.int b) := atD_last (by rw [List.getLast?_map, f2]; rfl)
    have g3 : PyData.plainAll (((List.range l.length).filter p).map fun k => PyData.int (k : Nat)) = true := plainAll_map _ fun _ _ => rfl
    have g4 : ¬ (((List.range l.length).filter p).map fun k => PyData.int (k : Nat)) = [] := by
      intro z
      rw [z] at g1
      cases g1
    have hcut : cutD (l.map eQ) (some (a : Int)) (some ((b : Int) + 1)) = ((l.drop a).take (b + 1 - a)).map eQ := by
      have := cutD_nat (xs := l.map eQ) (a := a) (b := b + 1) (by omega) (by rw [List.length_map]; omega)
      rw [map_cut] at this
      exact this
    generalize (((List.range l.length).filter p).map fun k => PyData.int (k : Nat)) = FL at *
    simp [F_law_trim, g_law_trim, h0, rng0, hcc, op_eqL0 g3, g4, g1, g2, hcut, ht, eW]
end Bs.Mt
/-! ME: sizes; the product of two rows by the program. -/
namespace Bs.Mt
open PySem

/-! ### sizes: r is z / D, z at most M -/
def Bd (D M : Nat) (r : Rat) : Prop := ∃ z : Int, r * (D : Rat) = (z : Rat) ∧ z.natAbs ≤ M
theorem rat_den_mul (r : Rat) : r * ((r.den : Nat) : Rat) = (r.num : Rat) := by
  have h : ((r.den : Nat) : Rat) ≠ 0 := by
    intro z
    exact r.den_nz (Rat.natCast_eq_zero_iff.mp z)
  have e := Rat.num_divInt_den r
  rw [Rat.divInt_eq_div] at e
  have e2 : (r.num : Rat) / (((r.den : Nat) : Int) : Rat) * ((r.den : Nat) : Rat) = (r.num : Rat) := Rat.div_mul_cancel h
  rw [e] at e2
  exact e2
theorem bd_cross {D M : Nat} {r : Rat} (h : Bd D M r) : ∃ q : Nat, D = r.den * q ∧ (r.num.natAbs * q ≤ M) := by
  obtain ⟨z, h1, h2⟩ := h
  have e : r.num * (D : Int) = z * (r.den : Int) := by
    have e1 : (r.num : Rat) * (D : Rat) = (z : Rat) * ((r.den : Nat) : Rat) := by
      rw [← h1, ← rat_den_mul r]
      grind
    have e2 : ((r.num * (D : Int) : Int) : Rat) = ((z * (r.den : Int) : Int) : Rat) := by
      rw [Rat.intCast_mul, Rat.intCast_mul]
      exact e1
    exact Rat.intCast_inj.mp e2
  have hd : r.den ∣ D := by
    have : r.den ∣ r.num.natAbs * D := ⟨z.natAbs, by
      have := congrArg Int.natAbs e
      rw [Int.natAbs_mul, Int.natAbs_mul, Int.natAbs_natCast, Int.natAbs_natCast] at this
      rw [this, Nat.mul_comm]⟩
    exact (Nat.Coprime.symm r.reduced).dvd_of_dvd_mul_left this
  obtain ⟨q, hq⟩ := hd
  refine ⟨q, hq, ?_⟩
  have e3 := congrArg Int.natAbs e
  rw [Int.natAbs_mul, Int.natAbs_mul, Int.natAbs_natCast, Int.natAbs_natCast, hq] at e3
  have e4 : r.num.natAbs * q = z.natAbs := by
    have hp : 0 < r.den := r.den_pos
    refine Nat.eq_of_mul_eq_mul_right hp ?_
    rw [← e3, Nat.mul_assoc, Nat.mul_comm q]
  omega
theorem bd_sm {D M : Nat} {r : Rat} (hD : 0 < D) (h1 : D < 2 ^ 1900) (h2 : M < 2 ^ 1900) (h : Bd D M r) : Sm r := by
  obtain ⟨q, e, l⟩ := bd_cross h
  have hq : 0 < q := by
    rcases Nat.eq_zero_or_pos q with z | z
    · rw [z, Nat.mul_zero] at e
      omega
    · exact z
  constructor
  · unfold SmI
    have : r.num.natAbs * 1 ≤ r.num.natAbs * q := Nat.mul_le_mul_left _ hq
    omega
  · have : r.den * 1 ≤ r.den * q := Nat.mul_le_mul_left _ hq
    omega
theorem bd_mono {D M N : Nat} {r : Rat} (h : Bd D M r) (l : M ≤ N) : Bd D N r := by
  obtain ⟨z, h1, h2⟩ := h
  exact ⟨z, h1, by omega⟩
theorem bd_zero {D M : Nat} : Bd D M 0 := ⟨0, by rw [Rat.zero_mul]; rfl, Nat.zero_le _⟩
theorem bd_add {D M N : Nat} {a b : Rat} (h : Bd D M a) (k : Bd D N b) : Bd D (M + N) (a + b) := by
  obtain ⟨z, h1, h2⟩ := h
  obtain ⟨y, k1, k2⟩ := k
  refine ⟨z + y, ?_, ?_⟩
  · rw [Rat.add_mul, h1, k1, Rat.intCast_add]
  · have := Int.natAbs_add_le z y
    omega
theorem bd_mul {D E M N : Nat} {a b : Rat} (h : Bd D M a) (k : Bd E N b) : Bd (D * E) (M * N) (a * b) := by
  obtain ⟨z, h1, h2⟩ := h
  obtain ⟨y, k1, k2⟩ := k
  refine ⟨z * y, ?_, ?_⟩
  · rw [Rat.natCast_mul, Rat.intCast_mul, ← h1, ← k1]
    grind
  · rw [Int.natAbs_mul]
    exact Nat.mul_le_mul h2 k2
theorem bd_scale {D E M : Nat} {a : Rat} (h : Bd D M a) : Bd (D * E) (M * E) a := by
  have := bd_mul h (show Bd E E 1 from ⟨E, by rw [Rat.one_mul]; rfl, by simp⟩)
  rwa [Rat.mul_one] at this

/-! ### the product's table -/
def addAt (l : List Rat) (k : Nat) (v : Rat) : List Rat := l.set k ((l[k]?).getD 0 + v)
def convRow (f : List Rat) (i : Nat) (a : Rat) (ys : List (Rat × Nat)) : List Rat := ys.foldl (fun f p => addAt f (i + p.2) (a * p.1)) f
def convs (f : List Rat) (xs : List (Rat × Nat)) (ys : List Rat) : List Rat := xs.foldl (fun f p => convRow f p.2 p.1 ys.zipIdx) f
def conv (xs ys : List Rat) : List Rat := convs (List.replicate (xs.length + ys.length - 1) 0) xs.zipIdx ys
def mulR (x y : Rw) : Rw := if x.2 = [] ∨ y.2 = [] then (0, []) else trim (x.1 + y.1) (conv x.2 y.2)
/-- a table's state: its length, its sizes -/
structure Tb (D M n : Nat) (f : List Rat) : Prop where
  len : f.length = n
  bd : ∀ r ∈ f, Bd D M r
theorem tb_get {D M n : Nat} {f : List Rat} (h : Tb D M n f) {k : Nat} (hk : k < n) : ∃ c, f[k]? = some c ∧ Bd D M c := by
  have e : f[k]? = some (f[k]'(by rw [h.len]; exact hk)) := List.getElem?_eq_getElem _
  exact ⟨_, e, h.bd _ (List.mem_of_getElem? e)⟩
theorem tb_add {D M N n k : Nat} {f : List Rat} {v : Rat} (h : Tb D M n f) (hk : k < n) (hv : Bd D N v) : Tb D (M + N) n (addAt f k v) := by
  obtain ⟨c, h1, h2⟩ := tb_get h hk
  refine ⟨by unfold addAt; rw [List.length_set, h.len], fun r hr => ?_⟩
  unfold addAt at hr
  rw [h1] at hr
  rcases List.mem_or_eq_of_mem_set hr with h3 | h3
  · exact bd_mono (h.bd r h3) (Nat.le_add_right _ _)
  · rw [h3]
    exact bd_add h2 hv
theorem mem_idx {l : List Rat} {pre post : List (Rat × Nat)} {p : Rat × Nat} (h : l.zipIdx = pre ++ p :: post) : l[p.2]? = some p.1 ∧ p.2 < l.length := by
  have : p ∈ l.zipIdx := by rw [h]; simp
  have h2 := List.mem_zipIdx_iff_getElem?.mp this
  exact ⟨h2, (List.getElem?_eq_some_iff.mp h2).1⟩
theorem pre_len {l : List Rat} {pre post : List (Rat × Nat)} (h : l.zipIdx = pre ++ post) : pre.length ≤ l.length := by
  have := congrArg List.length h
  rw [List.length_zipIdx, List.length_append] at this
  omega
theorem enum_eQ (l : List Rat) : enumD (l.map eQ) = l.zipIdx.map fun p => PyData.tuple [.int (p.2 : Nat), eQ p.1] := by
  unfold enumD
  rw [List.zipIdx_map, List.map_map]
  rfl
theorem getK {base : Mm} {x : Option (List D)} : (base ++ [x])[base.length]? = some x := by simp
theorem setK {base : Mm} {x y : Option (List D)} : (base ++ [x]).set base.length y = base ++ [y] := by
  rw [List.set_append_right _ _ (Nat.le_refl _), Nat.sub_self]
  rfl
@[simp] theorem ap_gMIx {i : Nat} {b : GE} {e : En} {m : Mm} : gMIx i b e m = (match e[i]? with
  | some (some (.at k)) => (b e m).bind fun q => (match q.1 with
    | .int j => (match q.2[k]? with
      | some (some xs) => (atD xs j).map fun z => (z, q.2)
      | _ => none)
    | _ => none)
  | _ => none) := rfl
@[simp] theorem ap_ggM {i : Nat} {b : GE} {x : D} {e : En} {m : Mm} : ggM i b x e m = (match e[i]? with
  | some (some (.at k)) => (b e m).bind fun q => (match q.1 with
    | .int j => (setM q.2 k j x).map fun m' => (e, m')
    | _ => none)
  | _ => none) := rfl
@[simp] theorem ap_gFrz {i : Nat} {e : En} {m : Mm} : gFrz i e m = (match e[i]? with
  | some (some (.at k)) => (match m[k]? with
    | some (some xs) => some (.list xs, m.set k none)
    | _ => none)
  | _ => none) := rfl
@[simp] theorem ap_ggT {n : Nat} {g : GGs} {xs : List D} {e : En} {m : Mm} : ggT n g (.tuple xs) e m = if xs.length = n then g xs e m else none := rfl
@[simp] theorem ap_ggc {g : GG} {r : GGs} {x : D} {ys : List D} {e : En} {m : Mm} : ggc g r (x :: ys) e m = (g x e m).bind fun p => r ys p.1 p.2 := rfl
@[simp] theorem ap_gg0 {e : En} {m : Mm} : gg0 [] e m = some (e, m) := rfl
theorem setM_nat {base : Mm} {xs : List D} {k : Nat} {v : D} (h : k < xs.length) : setM (base ++ [some xs]) base.length (k : Int) v = some (base ++ [some (xs.set k v)]) := by
  unfold setM
  rw [getK]
  unfold ixD
  simp only []
  rw [if_pos (Int.natCast_nonneg k), if_pos (Int.ofNat_lt.mpr h)]
  show some ((base ++ [some xs]).set base.length _) = _
  rw [setK]
  rfl
theorem addAt_map {f : List Rat} {k : Nat} {c v : Rat} (h : f[k]? = some c) : (addAt f k v).map eQ = (f.map eQ).set k (eQ (c + v)) := by
  unfold addAt
  rw [h, List.map_set]
  rfl
theorem rp_inner {X Y : Option Sl} {base : Mm} {D1 M1 D2 M2 n t i : Nat} {a : Rat} {ys f : List Rat} (ha : Bd D1 M1 a) (sa : Sm a) (hys : ∀ b ∈ ys, Bd D2 M2 b ∧ Sm b) (hf : Tb (D1 * D2) (t * (M1 * M2)) n f) (hn : i + ys.length ≤ n)
    (hsm : ∀ r, Bd (D1 * D2) ((t + ys.length) * (M1 * M2)) r → Sm r) (hp : ∀ r, Bd (D1 * D2) (M1 * M2) r → Sm r) (j5 j6 : Option Sl) :
    ∃ u5 u6, forG (ggT 2 (ggc (ggN 5) (ggc (ggN 6) (gg0)))) (gsAsg (gCall (F_plus) (gac (gMIx 2 (g2 addD (gVar 3) (gVar 5))) (gac (gCall (F_times) (gac (gVar 4) (gac (gVar 6) (ga0)))) (ga0)))) (ggM 2 (g2 addD (gVar 3) (gVar 5))))
      (enumD (ys.map eQ)) [X, Y, some (.at base.length), some (.d (.int i)), some (.d (eQ a)), j5, j6] (base ++ [some (f.map eQ)]) =
      some (.nx [X, Y, some (.at base.length), some (.d (.int i)), some (.d (eQ a)), u5, u6] (base ++ [some ((convRow f i a ys.zipIdx).map eQ)])) ∧
      Tb (D1 * D2) ((t + ys.length) * (M1 * M2)) n (convRow f i a ys.zipIdx) := by
  rw [enum_eQ]
  have key := for_pre (gg := ggT 2 (ggc (ggN 5) (ggc (ggN 6) (gg0)))) (b := gsAsg (gCall (F_plus) (gac (gMIx 2 (g2 addD (gVar 3) (gVar 5))) (gac (gCall (F_times) (gac (gVar 4) (gac (gVar 6) (ga0)))) (ga0)))) (ggM 2 (g2 addD (gVar 3) (gVar 5))))
    (fun p : Rat × Nat => PyData.tuple [.int (p.2 : Nat), eQ p.1])
    (fun pre e m => ∃ u5 u6, e = [X, Y, some (.at base.length), some (.d (.int i)), some (.d (eQ a)), u5, u6] ∧ m = base ++ [some ((convRow f i a pre).map eQ)] ∧ Tb (D1 * D2) ((t + pre.length) * (M1 * M2)) n (convRow f i a pre))
    ys.zipIdx (fun pre p post e m hl hR => by
    obtain ⟨u5, u6, rfl, rfl, hT⟩ := hR
    obtain ⟨hp1, hp2⟩ := mem_idx hl
    obtain ⟨hb1, hb2⟩ := hys p.1 (List.mem_of_getElem? hp1)
    have hpl : pre.length + 1 ≤ ys.length := by
      have := pre_len (pre := pre ++ [p]) (post := post) (by rw [hl]; simp)
      simpa using this
    have hk : i + p.2 < n := by omega
    obtain ⟨c, hc1, hc2⟩ := tb_get hT hk
    have hle : (t + pre.length) * (M1 * M2) ≤ (t + ys.length) * (M1 * M2) := Nat.mul_le_mul_right _ (by omega)
    have hab : Bd (D1 * D2) (M1 * M2) (a * p.1) := bd_mul ha hb1
    have e1 := F_times_ok sa hb2 (base ++ [some ((convRow f i a pre).map eQ)])
    have e2 := F_plus_ok (hsm c (bd_mono hc2 hle)) (hp _ hab) (base ++ [some ((convRow f i a pre).map eQ)])
    have e3 : atD ((convRow f i a pre).map eQ) ((i : Int) + (p.2 : Nat)) = some (eQ c) := by
      rw [← Int.natCast_add]
      exact atD_map hc1
    have e4 : setM (base ++ [some ((convRow f i a pre).map eQ)]) base.length ((i : Int) + (p.2 : Nat)) (eQ (c + a * p.1)) = some (base ++ [some ((addAt (convRow f i a pre) (i + p.2) (a * p.1)).map eQ)]) := by
      rw [← Int.natCast_add, setM_nat (by rw [List.length_map, hT.len]; exact hk), addAt_map hc1]
    have e5 : convRow f i a (pre ++ [p]) = addAt (convRow f i a pre) (i + p.2) (a * p.1) := by
      unfold convRow
      rw [List.foldl_append]
      rfl
    refine ⟨_, _, ?_, some (.d (.int (p.2 : Nat))), some (.d (eQ p.1)), rfl, rfl, ?_⟩
    · rw [e5]
      simp [e1, e3, e4, e2]
    · rw [e5, List.length_append, List.length_singleton, ← Nat.add_assoc, Nat.add_mul _ 1, Nat.one_mul]
      exact tb_add hT hk hab) [X, Y, some (.at base.length), some (.d (.int i)), some (.d (eQ a)), j5, j6] (base ++ [some (f.map eQ)]) ⟨j5, j6, rfl, rfl, by simpa [convRow] using hf⟩
  obtain ⟨e1, m1, h1, u5, u6, rfl, rfl, h2⟩ := key
  rw [List.length_zipIdx] at h2
  exact ⟨u5, u6, h1, h2⟩
theorem convs_snoc {f : List Rat} {pre : List (Rat × Nat)} {p : Rat × Nat} {ys : List Rat} : convs f (pre ++ [p]) ys = convRow (convs f pre ys) p.2 p.1 ys.zipIdx := by
  unfold convs
  rw [List.foldl_append]
  rfl
theorem tb_rep {D M n : Nat} : Tb D M n (List.replicate n 0) := ⟨List.length_replicate, fun r hr => by
  rw [List.eq_of_mem_replicate hr]
  exact bd_zero⟩
theorem tb_mono {D M N n : Nat} {f : List Rat} (h : Tb D M n f) (l : M ≤ N) : Tb D N n f := ⟨h.len, fun r hr => bd_mono (h.bd r hr) l⟩
theorem rp_outer {X Y : Option Sl} {base : Mm} {D1 M1 D2 M2 : Nat} {xs ys : List Rat} (hxs : ∀ a ∈ xs, Bd D1 M1 a ∧ Sm a) (hys : ∀ b ∈ ys, Bd D2 M2 b ∧ Sm b) (hy : ys ≠ [])
    (hsm : ∀ r, Bd (D1 * D2) (xs.length * ys.length * (M1 * M2)) r → Sm r) (hp : ∀ r, Bd (D1 * D2) (M1 * M2) r → Sm r) (hY : Y = some (.d (.tuple [.int 0, .tuple (ys.map eQ)])) ∨ ∃ s, Y = some (.d (.tuple [.int s, .tuple (ys.map eQ)]))) :
    ∃ u3 u4 u5 u6, forG (ggT 2 (ggc (ggN 3) (ggc (ggN 4) (gg0)))) (gsFor (gxE (g2 idxD (gVar 1) (gC (.int 1)))) (ggT 2 (ggc (ggN 5) (ggc (ggN 6) (gg0)))) (gsAsg (gCall (F_plus) (gac (gMIx 2 (g2 addD (gVar 3) (gVar 5))) (gac (gCall (F_times) (gac (gVar 4) (gac (gVar 6) (ga0)))) (ga0)))) (ggM 2 (g2 addD (gVar 3) (gVar 5)))))
      (enumD (xs.map eQ)) [X, Y, some (.at base.length), none, none, none, none] (base ++ [some ((List.replicate (xs.length + ys.length - 1) 0).map eQ)]) =
      some (.nx [X, Y, some (.at base.length), u3, u4, u5, u6] (base ++ [some ((conv xs ys).map eQ)])) ∧ Tb (D1 * D2) (xs.length * ys.length * (M1 * M2)) (xs.length + ys.length - 1) (conv xs ys) := by
  rw [enum_eQ]
  have hyl : 0 < ys.length := List.length_pos_iff.mpr hy
  obtain ⟨s, hYs⟩ : ∃ s, Y = some (.d (.tuple [.int s, .tuple (ys.map eQ)])) := by
    rcases hY with h | h
    · exact ⟨0, h⟩
    · exact h
  have key := for_pre (gg := ggT 2 (ggc (ggN 3) (ggc (ggN 4) (gg0)))) (b := gsFor (gxE (g2 idxD (gVar 1) (gC (.int 1)))) (ggT 2 (ggc (ggN 5) (ggc (ggN 6) (gg0)))) (gsAsg (gCall (F_plus) (gac (gMIx 2 (g2 addD (gVar 3) (gVar 5))) (gac (gCall (F_times) (gac (gVar 4) (gac (gVar 6) (ga0)))) (ga0)))) (ggM 2 (g2 addD (gVar 3) (gVar 5)))))
    (fun p : Rat × Nat => PyData.tuple [.int (p.2 : Nat), eQ p.1])
    (fun pre e m => ∃ u3 u4 u5 u6, e = [X, Y, some (.at base.length), u3, u4, u5, u6] ∧ m = base ++ [some ((convs (List.replicate (xs.length + ys.length - 1) 0) pre ys).map eQ)] ∧ Tb (D1 * D2) (pre.length * ys.length * (M1 * M2)) (xs.length + ys.length - 1) (convs (List.replicate (xs.length + ys.length - 1) 0) pre ys))
    xs.zipIdx (fun pre p post e m hl hR => by
    obtain ⟨u3, u4, u5, u6, rfl, rfl, hT⟩ := hR
    obtain ⟨hp1, hp2⟩ := mem_idx hl
    obtain ⟨ha, sa⟩ := hxs p.1 (List.mem_of_getElem? hp1)
    have hpl : pre.length + 1 ≤ xs.length := by
      have := pre_len (pre := pre ++ [p]) (post := post) (by rw [hl]; simp)
      simpa using this
    have hle : (pre.length * ys.length + ys.length) * (M1 * M2) ≤ xs.length * ys.length * (M1 * M2) := by
      refine Nat.mul_le_mul_right _ ?_
      have : (pre.length + 1) * ys.length ≤ xs.length * ys.length := Nat.mul_le_mul_right _ hpl
      rw [Nat.add_mul, Nat.one_mul] at this
      exact this
    obtain ⟨v5, v6, h1, h2⟩ := rp_inner (X := X) (Y := Y) (base := base) (i := p.2) ha sa hys hT (by omega) (fun r hr => hsm r (bd_mono hr hle)) hp u5 u6
    refine ⟨_, _, ?_, some (.d (.int (p.2 : Nat))), some (.d (eQ p.1)), v5, v6, rfl, rfl, ?_⟩
    · rw [convs_snoc]
      subst hYs
      simp [gxE]
      rw [h1]
    · rw [convs_snoc, List.length_append, List.length_singleton, Nat.add_mul pre.length 1, Nat.one_mul]
      exact h2) [X, Y, some (.at base.length), none, none, none, none] (base ++ [some ((List.replicate (xs.length + ys.length - 1) 0).map eQ)])
    ⟨none, none, none, none, rfl, rfl, by simpa [convs] using (tb_rep (D := D1 * D2) (M := 0 * ys.length * (M1 * M2)))⟩
  obtain ⟨e1, m1, h1, u3, u4, u5, u6, rfl, rfl, h2⟩ := key
  rw [List.length_zipIdx] at h2
  exact ⟨u3, u4, u5, u6, h1, h2⟩
/-! ### a row within bounds -/
structure RB (D M S : Nat) (x : Rw) : Prop where
  z : x.2 = [] → x.1 = 0
  hd : ∀ r, x.2[0]? = some r → r ≠ 0
  la : ∀ r, x.2.getLast? = some r → r ≠ 0
  lo : -(S : Int) ≤ x.1
  hi : x.1 + x.2.length ≤ S + 1
  bd : ∀ r ∈ x.2, Bd D M r
/-- small numbers -/
structure Ns (D M : Nat) : Prop where
  p : 0 < D
  d : D < 2 ^ 1900
  m : M < 2 ^ 1900
theorem Ns.sm {D M : Nat} (h : Ns D M) {r : Rat} (b : Bd D M r) : Sm r := bd_sm h.p h.d h.m b
theorem RB.len {D M S : Nat} {x : Rw} (h : RB D M S x) : x.2.length ≤ 2 * S + 1 := by
  have h1 := h.lo
  have h2 := h.hi
  omega
@[simp] theorem idx_eW0 (x : Rw) : idxD (eW x) (.int 0) = some (.int x.1) := by simp [eW]
@[simp] theorem idx_eW1 (x : Rw) : idxD (eW x) (.int 1) = some (.tuple (x.2.map eQ)) := by simp [eW]
@[simp] theorem idx_eQ0 (x : Rat) : idxD (eQ x) (.int 0) = some (.int x.num) := by simp [eQ]
@[simp] theorem idx_eQ1 (x : Rat) : idxD (eQ x) (.int 1) = some (.int x.den) := by simp [eQ]
theorem eW_zero : eW (0, []) = dNOUGHT := rfl
theorem plain_eW (x : Rw) : (eW x).plain = true := by
  simp [eW, PyData.plain, PyData.plainAll, plain_eQs]
theorem op_eqNought {D M S : Nat} {x : Rw} (h : RB D M S x) : eqD (eW x) dNOUGHT = some (.bool (decide (x.2 = []))) := by
  unfold eqD
  have dp : min (eW x).depth dNOUGHT.depth ≤ 64 := Nat.le_trans (Nat.min_le_right _ _) (by decide +kernel)
  rw [if_pos ⟨plain_eW x, rfl, dp⟩]
  unfold eW dNOUGHT
  simp only [PyData.eqv, PyData.eqvAll, eqv_nil, Bool.and_true]
  by_cases hx : x.2 = []
  · rw [h.z hx, hx]
    simp
  · have : ¬ x.2.map eQ = [] := by simpa using hx
    simp [hx]
theorem glRep_ok {a : GL} {n : GE} {e : En} {m : Mm} {xs : List D} {k : Int} (h1 : a e m = some (xs, m)) (h2 : n e m = some (.int k, m)) (hk : 0 ≤ k ∧ k ≤ (big : Nat)) (hl : xs.length * k.toNat ≤ big) : glRep a n e m = some ((List.replicate k.toNat xs).flatten, m) := by
  unfold glRep
  rw [h1]
  show (n e m).bind _ = _
  rw [h2]
  exact if_pos ⟨hk, hl⟩
theorem F_row_product_ok {D1 M1 S1 D2 M2 S2 : Nat} {x y : Rw} (hx : RB D1 M1 S1 x) (hy : RB D2 M2 S2 y) (n1 : Ns D1 M1) (n2 : Ns D2 M2) (n3 : Ns (D1 * D2) ((2 * S1 + 1) * (2 * S2 + 1) * (M1 * M2))) (hS : S1 + S2 ≤ 10000) (m : Mm) :
    F_row_product [.d (eW x), .d (eW y)] m = some (eW (mulR x y), m) := by
  have e1 := op_eqNought hx
  have e2 := op_eqNought hy
  by_cases h1 : x.2 = []
  · have ht : mulR x y = (0, []) := if_pos (.inl h1)
    simp [F_row_product, g_row_product, e1, h1, ht, eW_zero]
  by_cases h2 : y.2 = []
  · have ht : mulR x y = (0, []) := if_pos (.inr h2)
    simp [F_row_product, g_row_product, e1, e2, h1, h2, ht, eW_zero]
  have l1 := hx.len
  have l2 := hy.len
  have p1 : 0 < x.2.length := List.length_pos_iff.mpr h1
  have p2 : 0 < y.2.length := List.length_pos_iff.mpr h2
  have hle : x.2.length * y.2.length * (M1 * M2) ≤ (2 * S1 + 1) * (2 * S2 + 1) * (M1 * M2) := Nat.mul_le_mul_right _ (Nat.mul_le_mul l1 l2)
  have hle2 : M1 * M2 ≤ (2 * S1 + 1) * (2 * S2 + 1) * (M1 * M2) := by
    refine Nat.le_mul_of_pos_left _ ?_
    exact Nat.mul_pos (by omega) (by omega)
  obtain ⟨u3, u4, u5, u6, h3, h4⟩ := rp_outer (X := some (.d (eW x))) (Y := some (.d (eW y))) (base := m) (xs := x.2) (ys := y.2) (fun a ha => ⟨hx.bd a ha, n1.sm (hx.bd a ha)⟩) (fun b hb => ⟨hy.bd b hb, n2.sm (hy.bd b hb)⟩) h2
    (fun r hr => n3.sm (bd_mono hr hle)) (fun r hr => n3.sm (bd_mono hr hle2)) (.inr ⟨y.1, rfl⟩)
  have hlen : (conv x.2 y.2).length ≤ big := by
    rw [h4.len]
    exact Nat.le_trans (show _ ≤ 100000 by omega) (by decide)
  have e3 := F_row_by_ok (x.1 + y.1) (conv x.2 y.2) hlen (m ++ [none])
  have ht : mulR x y = trim (x.1 + y.1) (conv x.2 y.2) := if_neg (by simp [h1, h2])
  rw [ht]
  have hr : (List.replicate (x.2.length + y.2.length - 1) [dZERO]).flatten = (List.replicate (x.2.length + y.2.length - 1) (0 : Rat)).map eQ := by
    rw [List.map_replicate]
    generalize x.2.length + y.2.length - 1 = k
    induction k with
    | zero => rfl
    | succ k ih => rw [List.replicate_succ, List.flatten_cons, ih, List.replicate_succ]; rfl
  have hn : ((x.2.length : Int) + (y.2.length : Int) - 1).toNat = x.2.length + y.2.length - 1 := by omega
  have hg : (0 ≤ (x.2.length : Int) + (y.2.length : Int) - 1 ∧ (x.2.length : Int) + (y.2.length : Int) - 1 ≤ (big : Nat)) ∧ 1 * (x.2.length + y.2.length - 1) ≤ big := by
    have hb : 100000 ≤ big := by decide
    omega
  have hgr : ∀ e : En, e[0]? = some (some (.d (eW x))) → e[1]? = some (some (.d (eW y))) → glRep (glD (glc (gC dZERO) (gl0))) (g2 subD (g2 addD (g1 lenD (g2 idxD (gVar 0) (gC (.int 1)))) (g1 lenD (g2 idxD (gVar 1) (gC (.int 1))))) (gC (.int 1))) e m =
      some ((List.replicate (x.2.length + y.2.length - 1) (0 : Rat)).map eQ, m) := by
    intro e he1 he2
    rw [glRep_ok (xs := [dZERO]) (k := (x.2.length : Int) + (y.2.length : Int) - 1) (by simp) (by simp [he1, he2]) hg.1 (by rw [hn]; exact hg.2), hn, hr]
  rw [List.map_replicate] at h3 hgr
  simp [F_row_product, g_row_product, e1, e2, h1, h2, hgr, gxE, h3, e3]
end Bs.Mt
/-! MF: places and halves. -/
namespace Bs.Mt
open PySem

def cf (x : Rw) (k : Int) : Rat := if x.1 ≤ k then (x.2[(k - x.1).toNat]?).getD 0 else 0
theorem cf_in {x : Rw} {k : Nat} {r : Rat} (h : x.2[k]? = some r) : cf x (x.1 + k) = r := by
  unfold cf
  rw [if_pos (by omega), show (x.1 + (k : Int) - x.1).toNat = k by omega, h]
  rfl
theorem cf_out {x : Rw} {k : Int} (h : ¬ (x.1 ≤ k ∧ k < x.1 + x.2.length)) : cf x k = 0 := by
  unfold cf
  split
  · rw [List.getElem?_eq_none (by omega)]
    rfl
  · rfl
@[simp] theorem F_end_of_ok (x : Rw) (m : Mm) : F_end_of [.d (eW x)] m = some (.int (x.1 + x.2.length), m) := by
  simp [F_end_of, g_end_of]
theorem at_cf {x : Rw} {k : Int} (h : x.1 ≤ k) (h2 : k < x.1 + x.2.length) : atD (x.2.map eQ) (k - x.1) = some (eQ (cf x k)) := by
  obtain ⟨j, hj⟩ : ∃ j : Nat, k = x.1 + j := ⟨(k - x.1).toNat, by omega⟩
  subst hj
  have hl : j < x.2.length := by omega
  have e : x.2[j]? = some x.2[j] := List.getElem?_eq_getElem hl
  rw [cf_in e, show x.1 + (j : Int) - x.1 = j by omega]
  exact atD_map e
theorem eQ_zero : eQ 0 = dZERO := rfl
@[simp] theorem F_at_place_ok (x : Rw) (k : Int) (m : Mm) : F_at_place [.d (eW x), .d (.int k)] m = some (eQ (cf x k), m) := by
  by_cases h : x.1 ≤ k
  · by_cases h2 : k < x.1 + x.2.length
    · simp [F_at_place, g_at_place, h, h2, at_cf h h2]
    · have e : cf x k = 0 := cf_out (by omega)
      simp [F_at_place, g_at_place, h, h2, e, eQ_zero]
  · have e : cf x k = 0 := cf_out (by omega)
    simp [F_at_place, g_at_place, h, e, eQ_zero]
@[simp] theorem F_law_at_ok (x : Rw) (k : Int) (m : Mm) : F_law_at [.d (eW x), .d (.int k)] m = some (eQ (cf x k), m) := by
  by_cases h : x.1 ≤ k
  · have h' : 0 ≤ k - x.1 := by omega
    by_cases h2 : k < x.1 + x.2.length
    · have h3 : k - x.1 < x.2.length := by omega
      simp [F_law_at, g_law_at, h, h3, at_cf h h2]
    · have e : cf x k = 0 := cf_out (by omega)
      have h3 : ¬ k - x.1 < x.2.length := by omega
      simp [F_law_at, g_law_at, h, h3, e, eQ]
  · have e : cf x k = 0 := cf_out (by omega)
    have h' : ¬ 0 ≤ k - x.1 := by omega
    simp [F_law_at, g_law_at, h, e, eQ]
theorem alt2_get {α : Type} : ∀ (l : List α) (i : Nat), (alt2 l)[i]? = l[2 * i]?
  | [], i => by simp [alt2]
  | [x], 0 => by simp [alt2]
  | [x], i + 1 => by simp [alt2]
  | x :: y :: r, 0 => by simp [alt2]
  | x :: y :: r, i + 1 => by
    have ih := alt2_get r i
    rw [show 2 * (i + 1) = 2 * i + 1 + 1 by omega]
    simpa [alt2] using ih
theorem alt2_len {α : Type} : ∀ l : List α, (alt2 l).length = (l.length + 1) / 2
  | [] => by simp [alt2]
  | [x] => by simp [alt2]
  | x :: y :: r => by
    have ih := alt2_len r
    simp [alt2, ih]
    omega
theorem alt2_map {α β : Type} (f : α → β) : ∀ l : List α, alt2 (l.map f) = (alt2 l).map f
  | [] => rfl
  | [x] => rfl
  | x :: y :: r => by simp [alt2, alt2_map f r]
def first (x : Rw) (o : Int) : Int := x.1 + (x.1 + o) % 2
def halfL (x : Rw) (o : Int) : List Rat := alt2 (x.2.drop (first x o - x.1).toNat)
def halfR (x : Rw) (o : Int) : Rw := trim ((first x o - o).fdiv 2) (halfL x o)
theorem fdiv2 (i : Int) : i.fdiv 2 = i / 2 := Int.fdiv_eq_ediv_of_nonneg i (by decide)
theorem op_div2 {i : Int} : divN (.int i) (.int 2) = some (.int (i / 2)) := by
  rw [op_divNS (by decide) (by decide +kernel), fdiv2]
theorem op_mod2 {i : Int} : modD (.int i) (.int 2) = some (.int (i % 2)) := op_modP (by decide)
theorem half_list {x : Rw} {lo hi : Int} (h1 : lo = (x.1 + 1) / 2) (h2 : hi = (x.1 + x.2.length + 1) / 2) : halfL x 0 = (List.range (hi - lo).toNat).map fun i : Nat => cf x (2 * (lo + (i : Nat))) := by
  unfold halfL first
  apply List.ext_getElem?
  intro i
  rw [alt2_get, List.getElem?_drop, List.getElem?_map]
  by_cases hi2 : i < (hi - lo).toNat
  · rw [List.getElem?_range hi2]
    show _ = some (cf x (2 * (lo + (i : Int))))
    have hx : (x.1 + (x.1 + 0) % 2 - x.1).toNat + 2 * i < x.2.length := by omega
    have e : x.2[(x.1 + (x.1 + 0) % 2 - x.1).toNat + 2 * i]? = some (x.2[(x.1 + (x.1 + 0) % 2 - x.1).toNat + 2 * i]'hx) := List.getElem?_eq_getElem hx
    rw [e, ← cf_in e]
    congr 2
    omega
  · have hr : (List.range (hi - lo).toNat)[i]? = none := List.getElem?_eq_none (by rw [List.length_range]; omega)
    rw [hr, List.getElem?_eq_none (by omega)]
    rfl
theorem rng2 (lo hi : Int) : rngD lo hi = (List.range (hi - lo).toNat).map fun k => PyData.int (lo + (k : Nat)) := rfl
theorem sm2 : SmI 2 := by
  unfold SmI
  exact Nat.lt_of_lt_of_le (show (2 : Nat) < 2 ^ 2 by decide) (Nat.pow_le_pow_right (by decide) (by decide))
theorem small_smI {i : Int} (h : i.natAbs < 2 ^ 64) : SmI i := Nat.lt_of_lt_of_le h (Nat.pow_le_pow_right (by decide) (by decide))
theorem F_even_of_ok {D M S : Nat} {x : Rw} (h : RB D M S x) (hS : S ≤ 100000) (m : Mm) : F_even_of [.d (eW x)] m = some (eW (halfR x 0), m) := by
  have h1 := h.lo
  have h2 := h.hi
  have hlen := h.len
  have e1 : (x.1 + 1) / 2 = (first x 0 - 0).fdiv 2 := by
    rw [fdiv2]
    unfold first
    omega
  have hc : ∀ e : En, e[0]? = some (some (.d (eW x))) → e[1]? = some (some (.d (.int 0))) → e.length = 5 → compG e 4 gtYes (gCall (F_at_place) (gac (gVar 0) (gac (g2 addD (g2 mulD (gC (.int 2)) (gVar 4)) (gVar 1)) (ga0)))) (rngD ((x.1 + 1) / 2) ((x.1 + x.2.length + 1) / 2)) m [] =
      some ((halfL x 0).map eQ, m) := by
    intro e he1 he2 hl
    have hl2 : ((x.1 + x.2.length + 1) / 2 - (x.1 + 1) / 2).toNat ≤ big := Nat.le_trans (show _ ≤ 1000000 by omega) (by decide)
    rw [rng2, comp_map (fun k : Nat => PyData.int ((x.1 + 1) / 2 + (k : Nat))) (fun k : Nat => eQ (cf x (2 * ((x.1 + 1) / 2 + (k : Nat))))) _ (fun k hk => ?_) (by rw [List.length_range]; exact hl2)]
    · rw [half_list rfl rfl, List.map_map]
      rfl
    · have hk2 : k < ((x.1 + x.2.length + 1) / 2 - (x.1 + 1) / 2).toNat := List.mem_range.mp hk
      have e3 : (e.set 4 (some (.d (.int ((x.1 + 1) / 2 + (k : Nat))))))[4]? = some (some (.d (.int ((x.1 + 1) / 2 + (k : Nat))))) := List.getElem?_set_self (by omega)
      have e4 : (e.set 4 (some (.d (.int ((x.1 + 1) / 2 + (k : Nat))))))[0]? = some (some (.d (eW x))) := by rw [List.getElem?_set_ne (by decide)]; exact he1
      have e5 : (e.set 4 (some (.d (.int ((x.1 + 1) / 2 + (k : Nat))))))[1]? = some (some (.d (.int 0))) := by rw [List.getElem?_set_ne (by decide)]; exact he2
      have e6 : mulD (.int 2) (.int ((x.1 + 1) / 2 + (k : Nat))) = some (.int (2 * ((x.1 + 1) / 2 + (k : Nat)))) := op_mulSm sm2 (small_smI (by omega))
      simp [e3, e4, e5, e6]
  have r1 : (-1000000 ≤ (x.1 + 1) / 2 ∧ (x.1 + 1) / 2 ≤ 1000000) ∧ (-1000000 ≤ (x.1 + x.2.length + 1) / 2 ∧ (x.1 + x.2.length + 1) / 2 ≤ 1000000) := by omega
  have e7 := F_row_by_ok ((x.1 + 1) / 2) (halfL x 0) (by
    unfold halfL
    rw [alt2_len, List.length_drop]
    exact Nat.le_trans (show _ ≤ 1000000 by omega) (by decide)) m
  have ht : halfR x 0 = trim ((x.1 + 1) / 2) (halfL x 0) := by
    unfold halfR
    rw [e1]
  rw [ht]
  simp [F_even_of, g_even_of, F_part_from, g_part_from, op_div2, r1, hc, e7]
theorem F_law_half_ok {D M S : Nat} {x : Rw} (h : RB D M S x) (hS : S ≤ 100000) (o : Int) (ho : o = 0 ∨ o = 1) (m : Mm) : F_law_half [.d (eW x), .d (.int o)] m = some (eW (halfR x o), m) := by
  have h1 := h.lo
  have h2 := h.hi
  have hlen := h.len
  have e7 := F_law_trim_ok ((first x o - o).fdiv 2) (halfL x o) (by
    unfold halfL
    rw [alt2_len, List.length_drop]
    omega) m
  have e8 : (x.2.map eQ).drop (first x o - x.1).toNat = (x.2.drop (first x o - x.1).toNat).map eQ := (List.map_drop).symm
  have p : x.1 ≤ first x o := by
    unfold first
    omega
  have ef : x.1 + (x.1 + o) % 2 = first x o := rfl
  rw [fdiv2] at e7
  have ht : halfR x o = trim ((first x o - o) / 2) (halfL x o) := by
    unfold halfR
    rw [fdiv2]
  rw [ht]
  have e9 : alt2 ((x.2.map eQ).drop (first x o - x.1).toNat) = (halfL x o).map eQ := by
    rw [e8, alt2_map]
    rfl
  simp only [F_law_half, g_law_half]
  simp [op_mod2, op_div2, ef, gSl2, glOf, p, e7, e9]
end Bs.Mt
/-! MG: the law's product: over one denominator. -/
namespace Bs.Mt
open PySem

def toI (u : Nat) (r : Rat) : Int := r.num * ((u / r.den : Nat) : Int)
theorem toI_eq {u : Nat} {r : Rat} (h : r.den ∣ u) : r * (u : Rat) = (toI u r : Rat) := by
  obtain ⟨v, rfl⟩ := h
  unfold toI
  rw [Nat.mul_div_cancel_left _ r.den_pos, Rat.intCast_mul, ← rat_den_mul r, Rat.natCast_mul, Rat.intCast_natCast]
  grind
theorem toI_bd {D M u : Nat} {r : Rat} (hD : 0 < D) (h : Bd D M r) (h1 : r.den ∣ u) (h2 : u ∣ D) : (toI u r).natAbs ≤ M := by
  obtain ⟨q, e, l⟩ := bd_cross h
  obtain ⟨v, rfl⟩ := h1
  obtain ⟨s, hs⟩ := h2
  have hq : q = v * s := by
    refine Nat.eq_of_mul_eq_mul_left r.den_pos ?_
    rw [← e, hs, Nat.mul_assoc]
  have hv : v ≤ q := by
    rcases Nat.eq_zero_or_pos s with z | z
    · rw [hs, z, Nat.mul_zero] at hD
      omega
    · rw [hq]
      exact Nat.le_mul_of_pos_right v z
  unfold toI
  rw [Nat.mul_div_cancel_left _ r.den_pos, Int.natAbs_mul, Int.natAbs_natCast]
  exact Nat.le_trans (Nat.mul_le_mul_left _ hv) l
/-- the common denominator, as the law builds it -/
def und : Nat → List Rat → Nat
  | u, [] => u
  | u, r :: l => und (Nat.lcm u r.den) l
theorem und_snoc : ∀ (l : List Rat) (u : Nat) (r : Rat), und u (l ++ [r]) = Nat.lcm (und u l) r.den
  | [], _, _ => rfl
  | _ :: l, u, r => und_snoc l _ r
theorem und_dvd {D : Nat} : ∀ (l : List Rat) (u : Nat), u ∣ D → (∀ r ∈ l, r.den ∣ D) → und u l ∣ D
  | [], _, h, _ => h
  | r :: l, u, h, hl => und_dvd l _ (Nat.lcm_dvd h (hl r (List.mem_cons_self ..))) fun q hq => hl q (List.mem_cons_of_mem _ hq)
theorem und_has : ∀ (l : List Rat) (u : Nat), u ∣ und u l ∧ ∀ r ∈ l, r.den ∣ und u l
  | [], u => ⟨Nat.dvd_refl u, fun r hr => by cases hr⟩
  | r :: l, u => by
    obtain ⟨h1, h2⟩ := und_has l (Nat.lcm u r.den)
    refine ⟨Nat.dvd_trans (Nat.dvd_lcm_left u r.den) h1, fun q hq => ?_⟩
    rcases List.mem_cons.mp hq with e | hq
    · rw [e]
      exact Nat.dvd_trans (Nat.dvd_lcm_right u r.den) h1
    · exact h2 q hq
theorem und_pos : ∀ (l : List Rat) (u : Nat), 0 < u → 0 < und u l
  | [], _, h => h
  | r :: l, u, h => und_pos l _ (Nat.lcm_pos h r.den_pos)
theorem lcm_as (u d : Nat) : u * (d / Nat.gcd u d) = Nat.lcm u d := by
  unfold Nat.lcm
  rw [Nat.mul_div_assoc _ (Nat.gcd_dvd_right u d)]
theorem op_divNat {a b : Nat} (h : 0 < b) (k : b.log2 < 9000) : divN (.int (a : Int)) (.int (b : Int)) = some (.int ((a / b : Nat) : Int)) := by
  rw [op_divNS (by omega) (by rw [Int.natAbs_natCast]; exact k), Int.fdiv_eq_ediv_of_nonneg _ (by omega)]
  rfl
theorem lt_log {n : Nat} (h : n < 2 ^ 1900) : n.log2 < 1900 := log2_lt h (by decide)
theorem F_law_ints_ok {D M : Nat} (hn : Ns D M) {l : List Rat} (hl : ∀ r ∈ l, Bd D M r) (hL : l.length ≤ 1000000) (m : Mm) :
    F_law_ints [.d (.tuple (l.map eQ))] m = some (.tuple [.list (l.map fun r => .int (toI (und 1 l) r)), .int (und 1 l)], m) := by
  have hden : ∀ r ∈ l, r.den ∣ D := fun r hr => by
    obtain ⟨q, e, _⟩ := bd_cross (hl r hr)
    exact ⟨q, e⟩
  have key := for_pre (gg := ggN 2) (b := gsAsg (g2 mulD (gVar 1) (g2 divN (g2 idxD (gVar 2) (gC (.int 1))) (gCall (F_law_deep) (gac (gVar 1) (gac (g2 idxD (gVar 2) (gC (.int 1))) (ga0)))))) (ggN 1)) eQ
    (fun pre e m' => ∃ u, e = [some (.d (.tuple (l.map eQ))), some (.d (.int (und 1 pre : Nat))), u] ∧ m' = m) l (fun pre r post e m' hpl hR => by
      obtain ⟨u, rfl, rfl⟩ := hR
      have hr : r ∈ l := by rw [hpl]; simp
      have hsm := hn.sm (hl r hr)
      have hpre : und 1 pre ∣ D := und_dvd pre 1 (Nat.one_dvd D) fun q hq => hden q (by rw [hpl]; simp [hq])
      have hule : und 1 pre ≤ D := Nat.le_of_dvd hn.p hpre
      have hd := hn.d
      have hg : 0 < Nat.gcd (und 1 pre) r.den := Nat.gcd_pos_of_pos_right _ r.den_pos
      have hgl : Nat.gcd (und 1 pre) r.den ≤ r.den := Nat.gcd_le_right _ r.den_pos
      have s2 := hsm.2
      have e1 := F_law_deep_ok (und 1 pre : Nat) (r.den : Nat) (by rw [Int.natAbs_natCast]; have := lt_log s2; omega) m'
      have e2 := op_divNat (a := r.den) hg (by have := lt_log (n := Nat.gcd (und 1 pre) r.den) (by omega); omega)
      have hq : r.den / Nat.gcd (und 1 pre) r.den ≤ r.den := Nat.div_le_self _ _
      have e3 : mulD (.int (und 1 pre : Nat)) (.int ((r.den / Nat.gcd (und 1 pre) r.den : Nat) : Int)) = some (.int ((Nat.lcm (und 1 pre) r.den : Nat) : Int)) := by
        rw [op_mulSm (by unfold SmI; rw [Int.natAbs_natCast]; omega) (by unfold SmI; rw [Int.natAbs_natCast]; omega), ← lcm_as, Int.natCast_mul]
      refine ⟨_, _, ?_, some (.d (eQ r)), rfl, rfl⟩
      rw [und_snoc]
      have e1' : F_law_deep [.d (.int (und 1 pre : Nat)), .d (.int (r.den : Nat))] m' = some (.int ((Nat.gcd (und 1 pre) r.den : Nat) : Int), m') := by
        rw [e1]
        simp [Int.gcd]
      rw [Int.natCast_ediv] at e2 e3
      simp [e1', e2, e3]) [some (.d (.tuple (l.map eQ))), some (.d (.int 1)), none] m ⟨none, rfl, rfl⟩
  obtain ⟨e1, m1, h1, u, rfl, rfl⟩ := key
  obtain ⟨_, hhas⟩ := und_has l 1
  have hdv : und 1 l ∣ D := und_dvd l 1 (Nat.one_dvd D) hden
  have hule : und 1 l ≤ D := Nat.le_of_dvd hn.p hdv
  have hd := hn.d
  have hmm := hn.m
  have hc : compG [some (.d (.tuple (l.map eQ))), some (.d (.int (und 1 l : Nat))), none] 2 gtYes (g2 mulD (g2 idxD (gVar 2) (gC (.int 0))) (g2 divN (gVar 1) (g2 idxD (gVar 2) (gC (.int 1))))) (l.map eQ) m1 [] = some (l.map fun r => .int (toI (und 1 l) r), m1) := by
    rw [comp_map eQ (fun r => .int (toI (und 1 l) r)) l (fun r hr => ?_) (Nat.le_trans hL (by decide))]
    have hsm := hn.sm (hl r hr)
    have s2 := hsm.2
    have e2 := op_divNat (a := und 1 l) r.den_pos (by have := lt_log s2; omega)
    have hq : und 1 l / r.den ≤ und 1 l := Nat.div_le_self _ _
    have e3 : mulD (.int r.num) (.int ((und 1 l / r.den : Nat) : Int)) = some (.int (toI (und 1 l) r)) := by
      rw [op_mulSm hsm.1 (by unfold SmI; rw [Int.natAbs_natCast]; omega)]
      rfl
    rw [Int.natCast_ediv] at e2 e3
    simp [e2, e3]
  simp [F_law_ints, g_law_ints, h1, hc]
end Bs.Mt
/-! MH: the law's product of two rows is the program's. -/
namespace Bs.Mt
open PySem

/-- r over U, as a whole number -/
def tI (U : Nat) (r : Rat) : Int := (r * (U : Rat)).num
theorem tI_of {U : Nat} {r : Rat} {z : Int} (h : r * (U : Rat) = (z : Rat)) : tI U r = z := by
  unfold tI
  rw [h, Rat.num_intCast]
def eI (U : Nat) (r : Rat) : D := .int (tI U r)
theorem bd_toI {D M u : Nat} {r : Rat} (hD : 0 < D) (h : Bd D M r) (h1 : r.den ∣ u) (h2 : u ∣ D) : Bd u M r ∧ toI u r = tI u r := ⟨⟨_, toI_eq h1, toI_bd hD h h1 h2⟩, (tI_of (toI_eq h1)).symm⟩
theorem tI_add {U M N : Nat} {a b : Rat} (h : Bd U M a) (k : Bd U N b) : tI U (a + b) = tI U a + tI U b := by
  obtain ⟨z, h1, _⟩ := h
  obtain ⟨y, k1, _⟩ := k
  rw [tI_of h1, tI_of k1]
  exact tI_of (by rw [Rat.add_mul, h1, k1, Rat.intCast_add])
theorem tI_mul {u w M N : Nat} {a b : Rat} (h : Bd u M a) (k : Bd w N b) : tI (u * w) (a * b) = tI u a * tI w b := by
  obtain ⟨z, h1, _⟩ := h
  obtain ⟨y, k1, _⟩ := k
  rw [tI_of h1, tI_of k1]
  exact tI_of (by rw [Rat.natCast_mul, Rat.intCast_mul, ← h1, ← k1]; grind)
theorem tI_le {U M : Nat} {a : Rat} (h : Bd U M a) : (tI U a).natAbs ≤ M := by
  obtain ⟨z, h1, h2⟩ := h
  rw [tI_of h1]
  exact h2
theorem tI_back {U M : Nat} {a : Rat} (hU : 0 < U) (h : Bd U M a) : Rat.divInt (tI U a) (U : Nat) = a := by
  obtain ⟨z, h1, _⟩ := h
  rw [tI_of h1, Rat.divInt_eq_div, ← h1, Rat.intCast_natCast]
  exact Rat.mul_div_cancel (fun z => by
    have := Rat.natCast_eq_zero_iff.mp z
    omega)
theorem addAt_mapI {U : Nat} {f : List Rat} {k : Nat} {c v : Rat} (h : f[k]? = some c) : (addAt f k v).map (eI U) = (f.map (eI U)).set k (eI U (c + v)) := by
  unfold addAt
  rw [h, List.map_set]
  rfl
theorem range_zip {α : Type} (l : List α) : (List.range l.length).map (fun k => PyData.int (k : Nat)) = l.zipIdx.map fun p => PyData.int (p.2 : Nat) := by
  apply List.ext_getElem?
  intro i
  rw [List.getElem?_map, List.getElem?_map, List.getElem?_zipIdx]
  by_cases h : i < l.length
  · rw [List.getElem?_range h, List.getElem?_eq_getElem h]
    simp
  · rw [List.getElem?_eq_none (by rw [List.length_range]; omega), List.getElem?_eq_none (by omega)]
    rfl
theorem lt_inner {X Y O2 O4 : Option Sl} {base : Mm} {u w M1 M2 n t i : Nat} {a : Rat} {xs ys f : List Rat} (hO2 : O2 = some (.d (.list (xs.map (eI u))))) (hO4 : O4 = some (.d (.list (ys.map (eI w))))) {O3 O5 : Option Sl}
    (hai : xs[i]? = some a) (ha : Bd u M1 a) (hys : ∀ b ∈ ys, Bd w M2 b) (hf : Tb (u * w) (t * (M1 * M2)) n f) (hn : i + ys.length ≤ n) (hM1 : M1 < 2 ^ 1900) (hM2 : M2 < 2 ^ 1900) (j8 j9 : Option Sl) :
    ∃ u8 u9, forG (ggN 8) (gsAsg (g2 addD (gMIx 6 (g2 addD (gVar 7) (gVar 8))) (g2 mulD (g2 idxD (gVar 2) (gVar 7)) (g2 idxD (gVar 4) (gVar 8)))) (ggM 6 (g2 addD (gVar 7) (gVar 8))))
      ((List.range ys.length).map fun k => PyData.int (k : Nat)) [X, Y, O2, O3, O4, O5, some (.at base.length), some (.d (.int i)), j8, j9] (base ++ [some (f.map (eI (u * w)))]) =
      some (.nx [X, Y, O2, O3, O4, O5, some (.at base.length), some (.d (.int i)), u8, u9] (base ++ [some ((convRow f i a ys.zipIdx).map (eI (u * w)))])) ∧
      Tb (u * w) ((t + ys.length) * (M1 * M2)) n (convRow f i a ys.zipIdx) := by
  rw [range_zip]
  have key := for_pre (gg := ggN 8) (b := gsAsg (g2 addD (gMIx 6 (g2 addD (gVar 7) (gVar 8))) (g2 mulD (g2 idxD (gVar 2) (gVar 7)) (g2 idxD (gVar 4) (gVar 8)))) (ggM 6 (g2 addD (gVar 7) (gVar 8))))
    (fun p : Rat × Nat => PyData.int (p.2 : Nat))
    (fun pre e m => ∃ u8 u9, e = [X, Y, O2, O3, O4, O5, some (.at base.length), some (.d (.int i)), u8, u9] ∧ m = base ++ [some ((convRow f i a pre).map (eI (u * w)))] ∧ Tb (u * w) ((t + pre.length) * (M1 * M2)) n (convRow f i a pre))
    ys.zipIdx (fun pre p post e m hl hR => by
      obtain ⟨u8, u9, rfl, rfl, hT⟩ := hR
      obtain ⟨hp1, hp2⟩ := mem_idx hl
      have hb1 := hys p.1 (List.mem_of_getElem? hp1)
      have hk : i + p.2 < n := by omega
      obtain ⟨c, hc1, hc2⟩ := tb_get hT hk
      have hab : Bd (u * w) (M1 * M2) (a * p.1) := bd_mul ha hb1
      have e0 : mulD (eI u a) (eI w p.1) = some (eI (u * w) (a * p.1)) := by
        unfold eI
        rw [op_mulSm (Nat.lt_of_le_of_lt (tI_le ha) hM1) (Nat.lt_of_le_of_lt (tI_le hb1) hM2), tI_mul ha hb1]
      have e1 : addD (eI (u * w) c) (eI (u * w) (a * p.1)) = some (eI (u * w) (c + a * p.1)) := by
        unfold eI
        rw [op_add, tI_add hc2 hab]
      have e2 : atD (xs.map (eI u)) (i : Int) = some (eI u a) := atD_map hai
      have e2' : atD (ys.map (eI w)) ((p.2 : Nat) : Int) = some (eI w p.1) := atD_map hp1
      have e3 : atD ((convRow f i a pre).map (eI (u * w))) ((i : Int) + (p.2 : Nat)) = some (eI (u * w) c) := by
        rw [← Int.natCast_add]
        exact atD_map hc1
      have e4 : setM (base ++ [some ((convRow f i a pre).map (eI (u * w)))]) base.length ((i : Int) + (p.2 : Nat)) (eI (u * w) (c + a * p.1)) = some (base ++ [some ((addAt (convRow f i a pre) (i + p.2) (a * p.1)).map (eI (u * w)))]) := by
        rw [← Int.natCast_add, setM_nat (by rw [List.length_map, hT.len]; exact hk), addAt_mapI hc1]
      have e5 : convRow f i a (pre ++ [p]) = addAt (convRow f i a pre) (i + p.2) (a * p.1) := by
        unfold convRow
        rw [List.foldl_append]
        rfl
      refine ⟨_, _, ?_, some (.d (.int (p.2 : Nat))), u9, rfl, rfl, ?_⟩
      · rw [e5]
        subst hO2
        subst hO4
        simp [e2, e2', e3, e4, e0, e1]
      · rw [e5, List.length_append, List.length_singleton, ← Nat.add_assoc, Nat.add_mul _ 1, Nat.one_mul]
        exact tb_add hT hk hab) [X, Y, O2, O3, O4, O5, some (.at base.length), some (.d (.int i)), j8, j9] (base ++ [some (f.map (eI (u * w)))]) ⟨j8, j9, rfl, rfl, by simpa [convRow] using hf⟩
  obtain ⟨e1, m1, h1, u8, u9, rfl, rfl, h2⟩ := key
  rw [List.length_zipIdx] at h2
  exact ⟨u8, u9, h1, h2⟩
theorem lt_outer {X Y O2 O4 : Option Sl} {base : Mm} {u w M1 M2 : Nat} {xs ys : List Rat} (hO2 : O2 = some (.d (.list (xs.map (eI u))))) (hO4 : O4 = some (.d (.list (ys.map (eI w))))) {O3 O5 : Option Sl}
    (hxs : ∀ a ∈ xs, Bd u M1 a) (hys : ∀ b ∈ ys, Bd w M2 b) (hy : ys ≠ []) (hyl : ys.length ≤ 1000000) (hM1 : M1 < 2 ^ 1900) (hM2 : M2 < 2 ^ 1900) :
    ∃ u7 u8 u9, forG (ggN 7) (gsFor (gxR1 (g1 lenD (gVar 4))) (ggN 8) (gsAsg (g2 addD (gMIx 6 (g2 addD (gVar 7) (gVar 8))) (g2 mulD (g2 idxD (gVar 2) (gVar 7)) (g2 idxD (gVar 4) (gVar 8)))) (ggM 6 (g2 addD (gVar 7) (gVar 8)))))
      ((List.range xs.length).map fun k => PyData.int (k : Nat)) [X, Y, O2, O3, O4, O5, some (.at base.length), none, none, none] (base ++ [some ((List.replicate (xs.length + ys.length - 1) 0).map (eI (u * w)))]) =
      some (.nx [X, Y, O2, O3, O4, O5, some (.at base.length), u7, u8, u9] (base ++ [some ((conv xs ys).map (eI (u * w)))])) ∧ Tb (u * w) (xs.length * ys.length * (M1 * M2)) (xs.length + ys.length - 1) (conv xs ys) := by
  rw [range_zip]
  have hyp : 0 < ys.length := List.length_pos_iff.mpr hy
  have key := for_pre (gg := ggN 7) (b := gsFor (gxR1 (g1 lenD (gVar 4))) (ggN 8) (gsAsg (g2 addD (gMIx 6 (g2 addD (gVar 7) (gVar 8))) (g2 mulD (g2 idxD (gVar 2) (gVar 7)) (g2 idxD (gVar 4) (gVar 8)))) (ggM 6 (g2 addD (gVar 7) (gVar 8)))))
    (fun p : Rat × Nat => PyData.int (p.2 : Nat))
    (fun pre e m => ∃ u7 u8 u9, e = [X, Y, O2, O3, O4, O5, some (.at base.length), u7, u8, u9] ∧ m = base ++ [some ((convs (List.replicate (xs.length + ys.length - 1) 0) pre ys).map (eI (u * w)))] ∧ Tb (u * w) (pre.length * ys.length * (M1 * M2)) (xs.length + ys.length - 1) (convs (List.replicate (xs.length + ys.length - 1) 0) pre ys))
    xs.zipIdx (fun pre p post e m hl hR => by
      obtain ⟨u7, u8, u9, rfl, rfl, hT⟩ := hR
      obtain ⟨hp1, hp2⟩ := mem_idx hl
      have ha := hxs p.1 (List.mem_of_getElem? hp1)
      obtain ⟨v8, v9, h1, h2⟩ := lt_inner (X := X) (Y := Y) (base := base) (i := p.2) (O3 := O3) (O5 := O5) hO2 hO4 hp1 ha hys hT (by omega) hM1 hM2 u8 u9
      refine ⟨_, _, ?_, some (.d (.int (p.2 : Nat))), v8, v9, rfl, rfl, ?_⟩
      · rw [convs_snoc]
        have hr : -1000000 ≤ (ys.length : Int) ∧ (ys.length : Int) ≤ 1000000 := by omega
        have h0 : O4 = some (.d (.list (ys.map (eI w)))) := hO4
        subst h0
        simp [hr, rng0]
        exact h1
      · rw [convs_snoc, List.length_append, List.length_singleton, Nat.add_mul pre.length 1, Nat.one_mul]
        exact h2) [X, Y, O2, O3, O4, O5, some (.at base.length), none, none, none] (base ++ [some ((List.replicate (xs.length + ys.length - 1) 0).map (eI (u * w)))])
    ⟨none, none, none, rfl, rfl, by simpa [convs] using (tb_rep (D := u * w) (M := 0 * ys.length * (M1 * M2)))⟩
  obtain ⟨e1, m1, h1, u7, u8, u9, rfl, rfl, h2⟩ := key
  rw [List.length_zipIdx] at h2
  exact ⟨u7, u8, u9, h1, h2⟩
theorem den_dvd {D M : Nat} {r : Rat} (h : Bd D M r) : r.den ∣ D := by
  obtain ⟨q, e, _⟩ := bd_cross h
  exact ⟨q, e⟩
theorem F_law_times_ok {D1 M1 S1 D2 M2 S2 : Nat} {x y : Rw} (hx : RB D1 M1 S1 x) (hy : RB D2 M2 S2 y) (n1 : Ns D1 M1) (n2 : Ns D2 M2) (n3 : Ns (D1 * D2) ((2 * S1 + 1) * (2 * S2 + 1) * (M1 * M2))) (hS : S1 + S2 ≤ 10000) (m : Mm) :
    F_law_times [.d (eW x), .d (eW y)] m = some (eW (mulR x y), m) := by
  by_cases h1 : x.2 = []
  · have ht : mulR x y = (0, []) := if_pos (.inl h1)
    simp [F_law_times, g_law_times, h1, ht, eW]
    have e0 : eqD (.tuple []) (.tuple []) = some (.bool true) := by
      rw [op_eqT0 rfl]
      rfl
    simp [e0]
  by_cases h2 : y.2 = []
  · have ht : mulR x y = (0, []) := if_pos (.inr h2)
    have e0 : eqD (.tuple []) (.tuple []) = some (.bool true) := by
      rw [op_eqT0 rfl]
      rfl
    simp [F_law_times, g_law_times, h1, h2, ht, eW, e0]
  have l1 := hx.len
  have l2 := hy.len
  have p1 : 0 < x.2.length := List.length_pos_iff.mpr h1
  have p2 : 0 < y.2.length := List.length_pos_iff.mpr h2
  have hle : x.2.length * y.2.length * (M1 * M2) ≤ (2 * S1 + 1) * (2 * S2 + 1) * (M1 * M2) := Nat.mul_le_mul_right _ (Nat.mul_le_mul l1 l2)
  have i1 := F_law_ints_ok n1 hx.bd (by omega) m
  have i2 := F_law_ints_ok n2 hy.bd (by omega) m
  obtain ⟨_, a1⟩ := und_has x.2 1
  obtain ⟨_, a2⟩ := und_has y.2 1
  have d1 : und 1 x.2 ∣ D1 := und_dvd x.2 1 (Nat.one_dvd _) fun r hr => den_dvd (hx.bd r hr)
  have d2 : und 1 y.2 ∣ D2 := und_dvd y.2 1 (Nat.one_dvd _) fun r hr => den_dvd (hy.bd r hr)
  have q1 := und_pos x.2 1 (by decide)
  have q2 := und_pos y.2 1 (by decide)
  have c1 : x.2.map (fun r => PyData.int (toI (und 1 x.2) r)) = x.2.map (eI (und 1 x.2)) := List.map_congr_left fun r hr => by
    unfold eI
    rw [(bd_toI n1.p (hx.bd r hr) (a1 r hr) d1).2]
  have c2 : y.2.map (fun r => PyData.int (toI (und 1 y.2) r)) = y.2.map (eI (und 1 y.2)) := List.map_congr_left fun r hr => by
    unfold eI
    rw [(bd_toI n2.p (hy.bd r hr) (a2 r hr) d2).2]
  rw [c1] at i1
  rw [c2] at i2
  generalize hu : und 1 x.2 = u at *
  generalize hw : und 1 y.2 = w at *
  have b1 : ∀ a ∈ x.2, Bd u M1 a := fun r hr => (bd_toI n1.p (hx.bd r hr) (a1 r hr) d1).1
  have b2 : ∀ a ∈ y.2, Bd w M2 a := fun r hr => (bd_toI n2.p (hy.bd r hr) (a2 r hr) d2).1
  obtain ⟨u7, u8, u9, h3, h4⟩ := lt_outer (X := some (.d (eW x))) (Y := some (.d (eW y))) (base := m) (O3 := some (.d (.int (u : Nat)))) (O5 := some (.d (.int (w : Nat)))) rfl rfl b1 b2 h2 (by omega) n1.m n2.m
  have ht : mulR x y = trim (x.1 + y.1) (conv x.2 y.2) := if_neg (by simp [h1, h2])
  rw [ht]
  have hlen : (conv x.2 y.2).length ≤ 1000000 := by
    rw [h4.len]
    omega
  have e3 := F_law_trim_ok (x.1 + y.1) (conv x.2 y.2) hlen (m ++ [none])
  have huw : u * w ≤ D1 * D2 := Nat.mul_le_mul (Nat.le_of_dvd n1.p d1) (Nat.le_of_dvd n2.p d2)
  have hd3 := n3.d
  have hd1 := n1.d
  have hd2 := n2.d
  have hu1 : u ≤ D1 := Nat.le_of_dvd n1.p d1
  have hw1 : w ≤ D2 := Nat.le_of_dvd n2.p d2
  have huw0 : 0 < u * w := Nat.mul_pos q1 q2
  have e4 : mulD (.int (u : Nat)) (.int (w : Nat)) = some (.int ((u : Int) * (w : Int))) := op_mulSm (by unfold SmI; rw [Int.natAbs_natCast]; omega) (by unfold SmI; rw [Int.natAbs_natCast]; omega)
  have hc : ∀ e : En, e[3]? = some (some (.d (.int (u : Nat)))) → e[5]? = some (some (.d (.int (w : Nat)))) → e.length = 10 → compG e 9 gtYes (gCall (F_law_low) (gac (gVar 9) (gac (g2 mulD (gVar 3) (gVar 5)) (ga0)))) ((conv x.2 y.2).map (eI (u * w))) (m ++ [none]) [] = some ((conv x.2 y.2).map eQ, m ++ [none]) := by
    intro e f1 f2 f3
    rw [comp_map (eI (u * w)) eQ (conv x.2 y.2) (fun r hr => ?_) (Nat.le_trans hlen (by decide))]
    have g1 : ∀ v : Option Sl, (e.set 9 v)[9]? = some v := fun v => List.getElem?_set_self (by omega)
    have g2 : ∀ v : Option Sl, (e.set 9 v)[3]? = some (some (.d (.int (u : Nat)))) := fun v => by rw [List.getElem?_set_ne (by decide)]; exact f1
    have g3 : ∀ v : Option Sl, (e.set 9 v)[5]? = some (some (.d (.int (w : Nat)))) := fun v => by rw [List.getElem?_set_ne (by decide)]; exact f2
    have e5 := F_law_low_ok (tI (u * w) r) ((u * w : Nat) : Int) (m ++ [none]) (by omega) (by rw [Int.natAbs_natCast]; have := lt_log (n := u * w) (by omega); omega)
    rw [tI_back huw0 (h4.bd r hr), Int.natCast_mul] at e5
    simp [g1, g2, g3, e4]
    exact e5
  have hn : ((x.2.length : Int) + (y.2.length : Int) - 1).toNat = x.2.length + y.2.length - 1 := by omega
  have hr : (List.replicate (x.2.length + y.2.length - 1) [PyData.int 0]).flatten = (List.replicate (x.2.length + y.2.length - 1) (0 : Rat)).map (eI (u * w)) := by
    have e0 : eI (u * w) 0 = PyData.int 0 := by
      unfold eI tI
      rw [Rat.zero_mul]
      rfl
    rw [List.map_replicate, e0]
    generalize x.2.length + y.2.length - 1 = k
    induction k with
    | zero => rfl
    | succ k ih => rw [List.replicate_succ, List.flatten_cons, ih, List.replicate_succ]; rfl
  have hg : (0 ≤ (x.2.length : Int) + (y.2.length : Int) - 1 ∧ (x.2.length : Int) + (y.2.length : Int) - 1 ≤ (big : Nat)) ∧ 1 * (x.2.length + y.2.length - 1) ≤ big := by
    have hb : 100000 ≤ big := by decide
    omega
  have hgr : ∀ e : En, e[2]? = some (some (.d (.list (x.2.map (eI u))))) → e[4]? = some (some (.d (.list (y.2.map (eI w))))) → glRep (glD (glc (gC (.int 0)) (gl0))) (g2 subD (g2 addD (g1 lenD (gVar 2)) (g1 lenD (gVar 4))) (gC (.int 1))) e m =
      some ((List.replicate (x.2.length + y.2.length - 1) (0 : Rat)).map (eI (u * w)), m) := by
    intro e he1 he2
    rw [glRep_ok (xs := [PyData.int 0]) (k := (x.2.length : Int) + (y.2.length : Int) - 1) (by simp) (by simp [he1, he2]) hg.1 (by rw [hn]; exact hg.2), hn, hr]
  rw [List.map_replicate] at h3 hgr
  have hra : -1000000 ≤ (x.2.length : Int) ∧ (x.2.length : Int) ≤ 1000000 := by omega
  simp [F_law_times, g_law_times, h1, h2, i1, i2, hgr, hra, rng0, h3, hc, e3]
end Bs.Mt
/-! MI: the rows that come out are rows within bounds; sums, scalings, moves, spreads. -/
namespace Bs.Mt
open PySem

theorem first_ex : ∀ l : List Rat, (∀ x ∈ l, x = 0) ∨ ∃ a : Nat, (∀ i : Nat, i < a → l[i]? = some 0) ∧ ∃ x, l[a]? = some x ∧ x ≠ 0
  | [] => .inl fun x hx => by cases hx
  | y :: r => by
    by_cases h : y = 0
    · rcases first_ex r with q | ⟨a, h1, x, h2, h3⟩
      · left
        intro x hx
        rcases List.mem_cons.mp hx with e | hx
        · rw [e]; exact h
        · exact q x hx
      · right
        refine ⟨a + 1, fun i hi => ?_, x, by simpa using h2, h3⟩
        cases i with
        | zero => simp [h]
        | succ i => simpa using h1 i (by omega)
    · exact .inr ⟨0, fun i hi => absurd hi (Nat.not_lt_zero i), y, rfl, h⟩
theorem last_ex : ∀ l : List Rat, (∀ x ∈ l, x = 0) ∨ ∃ b : Nat, (∃ x, l[b]? = some x ∧ x ≠ 0) ∧ ∀ (i : Nat) x, b < i → l[i]? = some x → x = 0
  | [] => .inl fun x hx => by cases hx
  | y :: r => by
    rcases last_ex r with q | ⟨b, ⟨x, h2, h3⟩, h1⟩
    · by_cases h : y = 0
      · left
        intro x hx
        rcases List.mem_cons.mp hx with e | hx
        · rw [e]; exact h
        · exact q x hx
      · right
        refine ⟨0, ⟨y, rfl, h⟩, fun i x hi hx => ?_⟩
        cases i with
        | zero => omega
        | succ i => exact q x (List.mem_of_getElem? (by simpa using hx))
    · right
      refine ⟨b + 1, ⟨x, by simpa using h2, h3⟩, fun i z hi hz => ?_⟩
      cases i with
      | zero => omega
      | succ i => exact h1 i z (by omega) (by simpa using hz)
theorem trim_cases (s : Int) (l : List Rat) : ((∀ x ∈ l, x = 0) ∧ trim s l = (0, [])) ∨
    ∃ a b : Nat, a ≤ b ∧ b < l.length ∧ (∀ i : Nat, i < a → l[i]? = some 0) ∧ (∃ x, l[a]? = some x ∧ x ≠ 0) ∧ (∃ x, l[b]? = some x ∧ x ≠ 0) ∧ (∀ (i : Nat) x, b < i → l[i]? = some x → x = 0) ∧ trim s l = (s + a, (l.drop a).take (b + 1 - a)) := by
  rcases first_ex l with q | ⟨a, h1, h2⟩
  · exact .inl ⟨q, trim_zero q⟩
  · rcases last_ex l with q | ⟨b, h3, h4⟩
    · exact .inl ⟨q, trim_zero q⟩
    · right
      obtain ⟨x, hx1, hx2⟩ := h2
      have hab : a ≤ b := by
        rcases Nat.lt_or_ge b a with z | z
        · exact absurd (h4 a x z hx1) hx2
        · exact z
      obtain ⟨y, hy1, hy2⟩ := h3
      exact ⟨a, b, hab, (List.getElem?_eq_some_iff.mp hy1).1, h1, ⟨x, hx1, hx2⟩, ⟨y, hy1, hy2⟩, h4, trim_eq h1 ⟨x, hx1, hx2⟩ ⟨y, hy1, hy2⟩ h4⟩
theorem trim_rb {D M S : Nat} {s : Int} {l : List Rat} (h1 : ∀ r ∈ l, Bd D M r) (h2 : l ≠ [] → -(S : Int) ≤ s) (h3 : s + l.length ≤ S + 1) : RB D M S (trim s l) := by
  rcases trim_cases s l with ⟨_, e⟩ | ⟨a, b, hab, hb, g1, ⟨x, g2, g2'⟩, ⟨y, g3, g3'⟩, g4, e⟩
  · rw [e]
    exact ⟨fun _ => rfl, fun r hr => by simp at hr, fun r hr => by simp at hr, by show -(S : Int) ≤ 0; omega, by show (0 : Int) + ((0 : Nat) : Int) ≤ S + 1; omega, fun r hr => by cases hr⟩
  · have hne : l ≠ [] := by
      intro z
      rw [z] at hb
      simp at hb
    have h2' := h2 hne
    have hlen : ((l.drop a).take (b + 1 - a)).length = b + 1 - a := by
      rw [List.length_take, List.length_drop]
      omega
    rw [e]
    refine ⟨fun z => ?_, fun r hr => ?_, fun r hr => ?_, ?_, ?_, fun r hr => ?_⟩
    · have z' : (l.drop a).take (b + 1 - a) = [] := z
      rw [z'] at hlen
      simp at hlen
      omega
    · have hr' : ((l.drop a).take (b + 1 - a))[0]? = some r := hr
      rw [List.getElem?_take_of_lt (by omega), List.getElem?_drop, Nat.add_zero, g2] at hr'
      cases hr'
      exact g2'
    · have hr' : ((l.drop a).take (b + 1 - a)).getLast? = some r := hr
      rw [List.getLast?_eq_getElem?, hlen, List.getElem?_take_of_lt (by omega), List.getElem?_drop, show a + (b + 1 - a - 1) = b by omega, g3] at hr'
      cases hr'
      exact g3'
    · show -(S : Int) ≤ s + a
      omega
    · show s + a + (((l.drop a).take (b + 1 - a)).length : Int) ≤ S + 1
      rw [hlen]
      omega
    · exact h1 r (List.mem_of_mem_drop (List.mem_of_mem_take hr))
theorem convRow_tb {D1 M1 D2 M2 n i : Nat} {a : Rat} (ha : Bd D1 M1 a) : ∀ (ps : List (Rat × Nat)) (f : List Rat) (t : Nat), (∀ p ∈ ps, Bd D2 M2 p.1 ∧ i + p.2 < n) → Tb (D1 * D2) (t * (M1 * M2)) n f → Tb (D1 * D2) ((t + ps.length) * (M1 * M2)) n (convRow f i a ps)
  | [], f, t, _, h => h
  | p :: ps, f, t, hp, h => by
    have h2 := tb_add h (hp p (List.mem_cons_self ..)).2 (bd_mul ha (hp p (List.mem_cons_self ..)).1)
    have e : t * (M1 * M2) + M1 * M2 = (t + 1) * (M1 * M2) := by rw [Nat.add_mul, Nat.one_mul]
    rw [e] at h2
    have h3 := convRow_tb ha ps _ (t + 1) (fun q hq => hp q (List.mem_cons_of_mem _ hq)) h2
    rw [List.length_cons, show t + (ps.length + 1) = t + 1 + ps.length by omega]
    exact h3
theorem convs_tb {D1 M1 D2 M2 n : Nat} {ys : List Rat} (hy : ∀ b ∈ ys, Bd D2 M2 b) : ∀ (ps : List (Rat × Nat)) (f : List Rat) (t : Nat), (∀ p ∈ ps, Bd D1 M1 p.1 ∧ p.2 + ys.length ≤ n) → Tb (D1 * D2) (t * (M1 * M2)) n f → Tb (D1 * D2) ((t + ps.length * ys.length) * (M1 * M2)) n (convs f ps ys)
  | [], f, t, _, h => by simpa [convs] using h
  | p :: ps, f, t, hp, h => by
    obtain ⟨h1, h2⟩ := hp p (List.mem_cons_self ..)
    have h3 := convRow_tb (n := n) (i := p.2) h1 ys.zipIdx f t (fun q hq => by
      have hq' := List.mem_zipIdx_iff_getElem?.mp hq
      have := (List.getElem?_eq_some_iff.mp hq').1
      exact ⟨hy _ (List.mem_of_getElem? hq'), by omega⟩) h
    rw [List.length_zipIdx] at h3
    have h4 := convs_tb hy ps _ (t + ys.length) (fun q hq => hp q (List.mem_cons_of_mem _ hq)) h3
    have e : t + (ps.length + 1) * ys.length = t + ys.length + ps.length * ys.length := by
      rw [Nat.add_mul, Nat.one_mul]
      omega
    rw [List.length_cons, e]
    exact h4
theorem conv_tb {D1 M1 D2 M2 : Nat} {xs ys : List Rat} (hx : ∀ a ∈ xs, Bd D1 M1 a) (hy : ∀ b ∈ ys, Bd D2 M2 b) : Tb (D1 * D2) (xs.length * ys.length * (M1 * M2)) (xs.length + ys.length - 1) (conv xs ys) := by
  have := convs_tb (D1 := D1) (M1 := M1) (n := xs.length + ys.length - 1) hy xs.zipIdx (List.replicate (xs.length + ys.length - 1) 0) 0 (fun p hp => by
    have hp' := List.mem_zipIdx_iff_getElem?.mp hp
    have := (List.getElem?_eq_some_iff.mp hp').1
    exact ⟨hx _ (List.mem_of_getElem? hp'), by omega⟩) tb_rep
  rw [List.length_zipIdx, Nat.zero_add] at this
  exact this
theorem rb_zero {D M S : Nat} : RB D M S (0, []) := ⟨fun _ => rfl, fun r hr => by simp at hr, fun r hr => by simp at hr, by show -(S : Int) ≤ 0; omega, by show (0 : Int) + ((0 : Nat) : Int) ≤ S + 1; omega, fun r hr => by cases hr⟩
theorem rb_mul {D1 M1 S1 D2 M2 S2 : Nat} {x y : Rw} (hx : RB D1 M1 S1 x) (hy : RB D2 M2 S2 y) : RB (D1 * D2) ((2 * S1 + 1) * (2 * S2 + 1) * (M1 * M2)) (S1 + S2) (mulR x y) := by
  unfold mulR
  split
  · exact rb_zero
  · rename_i h
    have h1 : x.2 ≠ [] := fun z => h (.inl z)
    have h2 : y.2 ≠ [] := fun z => h (.inr z)
    have p1 : 0 < x.2.length := List.length_pos_iff.mpr h1
    have p2 : 0 < y.2.length := List.length_pos_iff.mpr h2
    have T := conv_tb hx.bd hy.bd
    have hle : x.2.length * y.2.length * (M1 * M2) ≤ (2 * S1 + 1) * (2 * S2 + 1) * (M1 * M2) := Nat.mul_le_mul_right _ (Nat.mul_le_mul hx.len hy.len)
    have a1 := hx.lo
    have a2 := hx.hi
    have b1 := hy.lo
    have b2 := hy.hi
    refine trim_rb (fun r hr => bd_mono (T.bd r hr) hle) (fun _ => by omega) ?_
    rw [T.len]
    omega
theorem rb_mono {D M N S T : Nat} {x : Rw} (h : RB D M S x) (l : M ≤ N) (k : S ≤ T) : RB D N T x :=
  ⟨h.z, h.hd, h.la, by have := h.lo; omega, by have := h.hi; omega, fun r hr => bd_mono (h.bd r hr) l⟩
theorem mem_alt2 {α : Type} : ∀ {l : List α} {x : α}, x ∈ alt2 l → x ∈ l
  | [], x, h => by simp [alt2] at h
  | [y], x, h => by simpa [alt2] using h
  | y :: z :: r, x, h => by
    have h2 : x = y ∨ x ∈ alt2 r := by simpa [alt2] using h
    rcases h2 with e | h2
    · rw [e]; simp
    · exact List.mem_cons_of_mem _ (List.mem_cons_of_mem _ (mem_alt2 h2))
theorem rb_half {D M S : Nat} {x : Rw} (h : RB D M S x) {o : Int} (ho : o = 0 ∨ o = 1) : RB D M (S / 2 + 1) (halfR x o) := by
  have h1 := h.lo
  have h2 := h.hi
  unfold halfR
  refine trim_rb (fun r hr => h.bd r (List.mem_of_mem_drop (mem_alt2 hr))) (fun _ => ?_) ?_
  · rw [fdiv2]
    unfold first
    omega
  · rw [fdiv2]
    unfold halfL
    rw [alt2_len, List.length_drop]
    unfold first
    omega
end Bs.Mt
/-! MJ: sums, scalings, moves, spreads of rows. -/
namespace Bs.Mt
open PySem

theorem cf_bd {D M S : Nat} {x : Rw} (h : RB D M S x) (k : Int) : Bd D M (cf x k) := by
  by_cases hk : x.1 ≤ k ∧ k < x.1 + x.2.length
  · obtain ⟨j, hj⟩ : ∃ j : Nat, k = x.1 + j := ⟨(k - x.1).toNat, by omega⟩
    subst hj
    have hl : j < x.2.length := by omega
    have e : x.2[j]? = some x.2[j] := List.getElem?_eq_getElem hl
    rw [cf_in e]
    exact h.bd _ (List.mem_of_getElem? e)
  · rw [cf_out hk]
    exact bd_zero
def mnR (x y : Rw) : Int := if y.1 < x.1 then y.1 else x.1
def mxR (x y : Rw) : Int := if y.1 + y.2.length > x.1 + x.2.length then y.1 + y.2.length else x.1 + x.2.length
def sumL (x y : Rw) : List Rat := (List.range (mxR x y - mnR x y).toNat).map fun i => cf x (mnR x y + (i : Nat)) + cf y (mnR x y + (i : Nat))
def addR (x y : Rw) : Rw := if x.2 = [] ∨ y.2 = [] then (if y.2 = [] then x else y) else trim (mnR x y) (sumL x y)
theorem op_min {i j : Int} : minD (.int i) (.int j) = some (.int (if j < i then j else i)) := rfl
theorem op_max {i j : Int} : maxD (.int i) (.int j) = some (.int (if j > i then j else i)) := rfl
theorem F_law_sum_ok {D M N S T : Nat} {x y : Rw} (hx : RB D M S x) (hy : RB D N T y) (n1 : Ns D M) (n2 : Ns D N) (hS : S ≤ 10000) (hT : T ≤ 10000) (m : Mm) :
    F_law_sum [.d (eW x), .d (eW y)] m = some (eW (addR x y), m) := by
  have e0 : eqD (.tuple []) (.tuple []) = some (.bool true) := by
    rw [op_eqT0 rfl]
    rfl
  by_cases h2 : y.2 = []
  · have ht : addR x y = x := by
      unfold addR
      rw [if_pos (.inr h2), if_pos h2]
    by_cases h1 : x.2 = []
    · simp [F_law_sum, g_law_sum, h1, h2, e0, ht]
    · simp [F_law_sum, g_law_sum, h1, h2, e0, ht]
  by_cases h1 : x.2 = []
  · have ht : addR x y = y := by
      unfold addR
      rw [if_pos (.inl h1), if_neg h2]
    simp [F_law_sum, g_law_sum, h1, h2, e0, ht]
  have a1 := hx.lo
  have a2 := hx.hi
  have a3 := hx.len
  have b1 := hy.lo
  have b2 := hy.hi
  have b3 := hy.len
  have ht : addR x y = trim (mnR x y) (sumL x y) := if_neg (by simp [h1, h2])
  have q1 : -10000 ≤ mnR x y ∧ mnR x y ≤ 10001 := by
    unfold mnR
    split <;> omega
  have q2 : -10000 ≤ mxR x y ∧ mxR x y ≤ 10001 := by
    unfold mxR
    split <;> omega
  have hL : (mxR x y - mnR x y).toNat ≤ 1000000 := by omega
  have e3 := F_law_trim_ok (mnR x y) (sumL x y) (by
    unfold sumL
    rw [List.length_map, List.length_range]
    exact hL) m
  have hc : ∀ e : En, e[0]? = some (some (.d (eW x))) → e[1]? = some (some (.d (eW y))) → e.length = 5 → compG e 4 gtYes (gCall (F_law_plus) (gac (gCall (F_law_at) (gac (gVar 0) (gac (gVar 4) (ga0)))) (gac (gCall (F_law_at) (gac (gVar 1) (gac (gVar 4) (ga0)))) (ga0)))) (rngD (mnR x y) (mxR x y)) m [] = some ((sumL x y).map eQ, m) := by
    intro e f1 f2 f3
    rw [rng2, comp_map (fun k : Nat => PyData.int (mnR x y + (k : Nat))) (fun k : Nat => eQ (cf x (mnR x y + (k : Nat)) + cf y (mnR x y + (k : Nat)))) _ (fun k hk => ?_) (by rw [List.length_range]; exact Nat.le_trans hL (by decide))]
    · unfold sumL
      rw [List.map_map]
      rfl
    · have g1 : ∀ v : Option Sl, (e.set 4 v)[4]? = some v := fun v => List.getElem?_set_self (by omega)
      have g2 : ∀ v : Option Sl, (e.set 4 v)[0]? = some (some (.d (eW x))) := fun v => by rw [List.getElem?_set_ne (by decide)]; exact f1
      have g3 : ∀ v : Option Sl, (e.set 4 v)[1]? = some (some (.d (eW y))) := fun v => by rw [List.getElem?_set_ne (by decide)]; exact f2
      have e5 := F_law_plus_ok (n1.sm (cf_bd hx (mnR x y + (k : Nat)))) (n2.sm (cf_bd hy (mnR x y + (k : Nat)))) m
      simp [g1, g2, g3, e5]
  have hr : (-1000000 ≤ mnR x y ∧ mnR x y ≤ 1000000) ∧ (-1000000 ≤ mxR x y ∧ mxR x y ≤ 1000000) := by omega
  have f1 : (if y.1 < x.1 then y.1 else x.1) = mnR x y := rfl
  have f2 : (if x.1 + x.2.length < y.1 + y.2.length then y.1 + y.2.length else x.1 + x.2.length) = mxR x y := rfl
  rw [ht]
  simp [F_law_sum, g_law_sum, h1, h2, op_min, op_max, f1, f2, hr, hc, e3]
theorem rb_add {D M N S T : Nat} {x y : Rw} (hx : RB D M S x) (hy : RB D N T y) : RB D (M + N) (max S T) (addR x y) := by
  unfold addR
  split
  · split
    · exact rb_mono hx (Nat.le_add_right _ _) (Nat.le_max_left _ _)
    · exact rb_mono hy (Nat.le_add_left _ _) (Nat.le_max_right _ _)
  · rename_i h
    have h1 : x.2 ≠ [] := fun z => h (.inl z)
    have h2 : y.2 ≠ [] := fun z => h (.inr z)
    have p1 : 0 < x.2.length := List.length_pos_iff.mpr h1
    have p2 : 0 < y.2.length := List.length_pos_iff.mpr h2
    have a1 := hx.lo
    have a2 := hx.hi
    have b1 := hy.lo
    have b2 := hy.hi
    have q : mnR x y ≤ mxR x y := by
      unfold mnR mxR
      split <;> split <;> omega
    refine trim_rb (fun r hr => ?_) (fun _ => ?_) ?_
    · unfold sumL at hr
      obtain ⟨i, _, rfl⟩ := List.mem_map.mp hr
      exact bd_add (cf_bd hx _) (cf_bd hy _)
    · unfold mnR
      split <;> omega
    · unfold sumL
      rw [List.length_map, List.length_range, show mnR x y + (((mxR x y - mnR x y).toNat : Nat) : Int) = mxR x y by omega]
      unfold mxR
      split <;> omega
/-! ### scalings -/
def scaleR (x : Rw) (c : Rat) : Rw := trim x.1 (x.2.map (· * c))
theorem F_law_scaled_ok {D M S : Nat} {x : Rw} {c : Rat} (hx : RB D M S x) (n1 : Ns D M) (hc : Sm c) (hS : S ≤ 10000) (m : Mm) : F_law_scaled [.d (eW x), .d (eQ c)] m = some (eW (scaleR x c), m) := by
  have a3 := hx.len
  have e3 := F_law_trim_ok x.1 (x.2.map (· * c)) (by rw [List.length_map]; omega) m
  have hcm : ∀ e : En, e[1]? = some (some (.d (eQ c))) → e.length = 3 → compG e 2 gtYes (gCall (F_law_prod) (gac (gVar 2) (gac (gVar 1) (ga0)))) (x.2.map eQ) m [] = some ((x.2.map (· * c)).map eQ, m) := by
    intro e f1 f2
    rw [comp_map eQ (fun r => eQ (r * c)) x.2 (fun r hr => ?_) (Nat.le_trans (show _ ≤ 100000 by omega) (by decide))]
    · rw [List.map_map]
      rfl
    · have g1 : ∀ v : Option Sl, (e.set 2 v)[2]? = some v := fun v => List.getElem?_set_self (by omega)
      have g2 : ∀ v : Option Sl, (e.set 2 v)[1]? = some (some (.d (eQ c))) := fun v => by rw [List.getElem?_set_ne (by decide)]; exact f1
      have e5 := F_law_prod_ok (n1.sm (hx.bd r hr)) hc m
      simp [g1, g2, e5]
  unfold scaleR
  generalize x.2.map (· * c) = L at *
  simp [F_law_scaled, g_law_scaled, hcm, e3]
theorem rb_neg {D M S : Nat} {x : Rw} (hx : RB D M S x) : RB D M S (scaleR x (-1)) := by
  have a1 := hx.lo
  have a2 := hx.hi
  refine trim_rb (fun r hr => ?_) (fun _ => by omega) (by rw [List.length_map]; omega)
  obtain ⟨q, hq, rfl⟩ := List.mem_map.mp hr
  obtain ⟨z, h1, h2⟩ := hx.bd q hq
  refine ⟨-z, ?_, by rw [Int.natAbs_neg]; exact h2⟩
  rw [Rat.intCast_neg, ← h1]
  grind
theorem eQ_neg1 : eQ (-1) = .tuple [.int (-1), .int 1] := rfl
theorem sm_neg1 : Sm (-1) := ⟨small_smI (by decide +kernel), Nat.lt_of_le_of_lt (show _ ≤ 1 by decide +kernel) (Nat.one_lt_two_pow (by decide))⟩
def lessR (x y : Rw) : Rw := addR x (scaleR y (-1))
theorem F_law_less_ok {D M N S T : Nat} {x y : Rw} (hx : RB D M S x) (hy : RB D N T y) (n1 : Ns D M) (n2 : Ns D N) (hS : S ≤ 10000) (hT : T ≤ 10000) (m : Mm) :
    F_law_less [.d (eW x), .d (eW y)] m = some (eW (lessR x y), m) := by
  have e1 := F_law_scaled_ok hy n2 sm_neg1 hT m
  rw [eQ_neg1] at e1
  have e2 := F_law_sum_ok hx (rb_neg hy) n1 n2 hS hT m
  unfold lessR
  simp [F_law_less, g_law_less, e1, e2]
theorem rb_less {D M N S T : Nat} {x y : Rw} (hx : RB D M S x) (hy : RB D N T y) : RB D (M + N) (max S T) (lessR x y) := rb_add hx (rb_neg hy)
/-! ### moves -/
def movR (x : Rw) (n : Int) : Rw := if x.2 = [] then x else (x.1 + n, x.2)
theorem F_law_moved_ok (x : Rw) (n : Int) (m : Mm) : F_law_moved [.d (eW x), .d (.int n)] m = some (eW (movR x n), m) := by
  unfold movR
  by_cases h : x.2 = []
  · have e0 : neD (.tuple []) (.tuple []) = some (.bool false) := by
      rw [op_neT0 rfl]
      rfl
    simp [F_law_moved, g_law_moved, h, e0]
  · simp [F_law_moved, g_law_moved, h, eW]
theorem rb_mov1 {D M S : Nat} {x : Rw} (hx : RB D M S x) : RB D M (S + 1) (movR x 1) := by
  unfold movR
  split
  · exact rb_mono hx (Nat.le_refl _) (by omega)
  · rename_i h
    have a1 := hx.lo
    have a2 := hx.hi
    exact ⟨fun z => absurd z h, hx.hd, hx.la, by show -(((S + 1 : Nat)) : Int) ≤ x.1 + 1; omega, by show x.1 + 1 + (x.2.length : Int) ≤ ((S + 1 : Nat) : Int) + 1; omega, hx.bd⟩
/-! ### spreads -/
def wideL : List Rat → List Rat
  | [] => []
  | [a] => [a]
  | a :: b :: r => a :: 0 :: wideL (b :: r)
def wideR (x : Rw) : Rw := (2 * x.1, wideL x.2)
def wideF (l : List Rat) : List Rat := l.flatMap fun r => [r, 0]
theorem wide_take : ∀ l : List Rat, (wideF l).take ((wideF l).length - 1) = wideL l
  | [] => rfl
  | [a] => rfl
  | a :: b :: r => by
    have ih := wide_take (b :: r)
    have e : wideF (a :: b :: r) = a :: 0 :: wideF (b :: r) := rfl
    have hp : 0 < (wideF (b :: r)).length := by
      show 0 < (b :: 0 :: wideF r).length
      simp
    rw [e, List.length_cons, List.length_cons, show (wideF (b :: r)).length + 1 + 1 - 1 = ((wideF (b :: r)).length - 1) + 1 + 1 by omega, List.take_succ_cons, List.take_succ_cons, ih]
    rfl
theorem wideF_len (l : List Rat) : (wideF l).length = 2 * l.length := by
  induction l with
  | nil => rfl
  | cons a r ih =>
    show (a :: 0 :: wideF r).length = _
    simp [ih]
    omega
theorem wideL_get : ∀ (l : List Rat) (i : Nat), (wideL l)[2 * i]? = l[i]? ∧ ((wideL l)[2 * i + 1]? = none ∨ (wideL l)[2 * i + 1]? = some 0)
  | [], i => ⟨by simp [wideL], .inl (by simp [wideL])⟩
  | [a], 0 => ⟨rfl, .inl rfl⟩
  | [a], i + 1 => ⟨by simp [wideL], .inl (by simp [wideL])⟩
  | a :: b :: r, 0 => ⟨rfl, .inr rfl⟩
  | a :: b :: r, i + 1 => by
    obtain ⟨h1, h2⟩ := wideL_get (b :: r) i
    have e : wideL (a :: b :: r) = a :: 0 :: wideL (b :: r) := rfl
    rw [e, show 2 * (i + 1) = 2 * i + 1 + 1 by omega, show 2 * i + 1 + 1 + 1 = (2 * i + 1) + 1 + 1 by omega]
    simp only [List.getElem?_cons_succ]
    exact ⟨h1, h2⟩
theorem wideL_len : ∀ l : List Rat, (wideL l).length = 2 * l.length - 1
  | [] => rfl
  | [a] => rfl
  | a :: b :: r => by
    have ih := wideL_len (b :: r)
    have e : wideL (a :: b :: r) = a :: 0 :: wideL (b :: r) := rfl
    rw [e, List.length_cons, List.length_cons, ih]
    simp only [List.length_cons]
    omega
theorem op_addLs {xs ys : List D} (h : xs.length + ys.length ≤ big) : addD (.list xs) (.list ys) = some (.list (xs ++ ys)) := by
  unfold addD
  exact if_pos h
theorem F_law_wide_ok {D M S : Nat} {x : Rw} (hx : RB D M S x) (hS : S ≤ 10000) (m : Mm) : F_law_wide [.d (eW x)] m = some (eW (wideR x), m) := by
  have a1 := hx.lo
  have a2 := hx.hi
  have a3 := hx.len
  have key := for_pre (gg := ggN 2) (b := gsAsg (g2 addD (gVar 1) (gList (glD (glc (gVar 2) (glc (gTup (glc (gC (.int 0)) (glc (gC (.int 1)) (gl0)))) (gl0)))))) (ggN 1)) eQ
    (fun pre e m' => ∃ u, e = [some (.d (eW x)), some (.d (.list ((wideF pre).map eQ))), u] ∧ m' = m) x.2 (fun pre r post e m' hpl hR => by
      obtain ⟨u, rfl, rfl⟩ := hR
      have hp : pre.length ≤ x.2.length := by
        rw [hpl, List.length_append]
        omega
      have e1 : addD (.list ((wideF pre).map eQ)) (.list [eQ r, .tuple [.int 0, .int 1]]) = some (.list ((wideF (pre ++ [r])).map eQ)) := by
        have hb : (100000 : Nat) ≤ big := by decide
        rw [op_addLs (by rw [List.length_map, wideF_len]; simp; omega)]
        unfold wideF
        rw [List.flatMap_append, List.map_append]
        rfl
      exact ⟨_, _, by simp [e1], some (.d (eQ r)), rfl, rfl⟩) [some (.d (eW x)), some (.d (.list [])), none] m ⟨none, rfl, rfl⟩
  obtain ⟨e1, m1, h1, u, rfl, rfl⟩ := key
  have hc : cutD ((wideF x.2).map eQ) none (some (-1)) = (wideL x.2).map eQ := by
    unfold cutD sxD
    simp only []
    rw [if_pos (by decide), List.drop_zero, ← List.map_take]
    congr 1
    rw [← wide_take]
    congr 1
    rw [List.length_map]
    omega
  have e2 : mulD (.int 2) (.int x.1) = some (.int (2 * x.1)) := op_mulSm sm2 (small_smI (by omega))
  have e3 : eW (wideR x) = .tuple [.int (2 * x.1), .tuple ((wideL x.2).map eQ)] := rfl
  rw [e3]
  simp [F_law_wide, g_law_wide, h1, hc, e2]
theorem rb_wide {D M S : Nat} {x : Rw} (hx : RB D M S x) : RB D M (2 * S) (wideR x) := by
  have a1 := hx.lo
  have a2 := hx.hi
  unfold wideR
  refine ⟨fun z => ?_, fun r hr => ?_, fun r hr => ?_, by show -(((2 * S : Nat)) : Int) ≤ 2 * x.1; omega, ?_, fun r hr => ?_⟩
  · have z' : wideL x.2 = [] := z
    have := wideL_len x.2
    rw [z'] at this
    have h0 : x.2 = [] := by
      cases h : x.2 with
      | nil => rfl
      | cons a r =>
        rw [h] at this
        simp at this
        omega
    show 2 * x.1 = 0
    rw [hx.z h0]
    rfl
  · have h0 := (wideL_get x.2 0).1
    rw [Nat.mul_zero] at h0
    exact hx.hd r (by rw [← h0]; exact hr)
  · have hr' : (wideL x.2).getLast? = some r := hr
    rw [List.getLast?_eq_getElem?, wideL_len] at hr'
    have hp : 0 < x.2.length := by
      cases h : x.2 with
      | nil =>
        rw [h] at hr'
        simp [wideL] at hr'
      | cons a r => simp
    rw [show 2 * x.2.length - 1 - 1 = 2 * (x.2.length - 1) by omega, (wideL_get x.2 _).1, ← List.getLast?_eq_getElem?] at hr'
    exact hx.la r hr'
  · show 2 * x.1 + ((wideL x.2).length : Int) ≤ ((2 * S : Nat) : Int) + 1
    rw [wideL_len]
    by_cases h0 : x.2 = []
    · rw [hx.z h0, h0]
      simp
      omega
    · have hp : 0 < x.2.length := List.length_pos_iff.mpr h0
      omega
  · obtain ⟨i, hi⟩ := List.getElem?_of_mem (show r ∈ wideL x.2 from hr)
    rcases Nat.mod_two_eq_zero_or_one i with e | e
    · rw [show i = 2 * (i / 2) by omega, (wideL_get x.2 _).1] at hi
      exact hx.bd r (List.mem_of_getElem? hi)
    · rw [show i = 2 * (i / 2) + 1 by omega] at hi
      rcases (wideL_get x.2 (i / 2)).2 with z | z
      · rw [z] at hi; cases hi
      · rw [z] at hi
        cases hi
        exact bd_zero
end Bs.Mt
/-! MK: splitting, counting, the checks. -/
namespace Bs.Mt
open PySem

def eP (p : Rw × Rw) : D := .tuple [eW p.1, eW p.2]
structure PB (D M S : Nat) (p : Rw × Rw) : Prop where
  a : RB D M S p.1
  b : RB D M S p.2
def splitR (p : Rw × Rw) (x : Rw) : Rw × Rw := (halfR (mulR p.1 x) 0, halfR (mulR p.2 x) 0)
theorem rb_split {Dp Mp Sp D M S : Nat} {p : Rw × Rw} {x : Rw} (hp : PB Dp Mp Sp p) (hx : RB D M S x) : PB (Dp * D) ((2 * Sp + 1) * (2 * S + 1) * (Mp * M)) ((Sp + S) / 2 + 1) (splitR p x) :=
  ⟨rb_half (rb_mul hp.a hx) (.inl rfl), rb_half (rb_mul hp.b hx) (.inl rfl)⟩
@[simp] theorem idx_eP0 (p : Rw × Rw) : idxD (eP p) (.int 0) = some (eW p.1) := by simp [eP]
@[simp] theorem idx_eP1 (p : Rw × Rw) : idxD (eP p) (.int 1) = some (eW p.2) := by simp [eP]
theorem F_split_by_ok {Dp Mp Sp D M S : Nat} {p : Rw × Rw} {x : Rw} (hp : PB Dp Mp Sp p) (hx : RB D M S x) (n1 : Ns Dp Mp) (n2 : Ns D M) (n3 : Ns (Dp * D) ((2 * Sp + 1) * (2 * S + 1) * (Mp * M))) (hS : Sp + S ≤ 10000) (m : Mm) :
    F_split_by [.d (eP p), .d (eW x)] m = some (eP (splitR p x), m) := by
  have a1 := F_row_product_ok hp.a hx n1 n2 n3 hS m
  have a2 := F_row_product_ok hp.b hx n1 n2 n3 hS m
  have b1 := F_even_of_ok (rb_mul hp.a hx) (by omega) m
  have b2 := F_even_of_ok (rb_mul hp.b hx) (by omega) m
  have hc : ∀ e : En, e[1]? = some (some (.d (eW x))) → e.length = 3 → compG e 2 gtYes (gCall (F_even_of) (gac (gCall (F_row_product) (gac (gVar 2) (gac (gVar 1) (ga0)))) (ga0))) [eW p.1, eW p.2] m [] = some ([eW (splitR p x).1, eW (splitR p x).2], m) := by
    intro e f1 f2
    have g1 : ∀ v : Option Sl, (e.set 2 v)[2]? = some v := fun v => List.getElem?_set_self (by omega)
    have g2 : ∀ v : Option Sl, (e.set 2 v)[1]? = some (some (.d (eW x))) := fun v => by rw [List.getElem?_set_ne (by decide)]; exact f1
    have := comp_map (e := e) (j := 2) (y := gCall (F_even_of) (gac (gCall (F_row_product) (gac (gVar 2) (gac (gVar 1) (ga0)))) (ga0))) (m := m) eW (fun q => eW (halfR (mulR q x) 0)) [p.1, p.2] (fun q hq => by
      rcases List.mem_cons.mp hq with e1 | hq
      · subst e1
        simp [g1, g2, a1, b1]
      · rcases List.mem_cons.mp hq with e1 | hq
        · subst e1
          simp [g1, g2, a2, b2]
        · cases hq) (show 2 ≤ big by decide)
    exact this
  have ep : eP p = .tuple [eW p.1, eW p.2] := rfl
  have eq : eP (splitR p x) = .tuple [eW (splitR p x).1, eW (splitR p x).2] := rfl
  rw [eq, ep]
  simp [F_split_by, g_split_by, hc]
theorem F_law_parted_ok {Dp Mp Sp D M S : Nat} {p : Rw × Rw} {x : Rw} (hp : PB Dp Mp Sp p) (hx : RB D M S x) (n1 : Ns Dp Mp) (n2 : Ns D M) (n3 : Ns (Dp * D) ((2 * Sp + 1) * (2 * S + 1) * (Mp * M))) (hS : Sp + S ≤ 10000) (m : Mm) :
    F_law_parted [.d (eP p), .d (eW x)] m = some (eP (splitR p x), m) := by
  have a1 := F_law_times_ok hp.a hx n1 n2 n3 hS m
  have a2 := F_law_times_ok hp.b hx n1 n2 n3 hS m
  have b1 := F_law_half_ok (rb_mul hp.a hx) (by omega) 0 (.inl rfl) m
  have b2 := F_law_half_ok (rb_mul hp.b hx) (by omega) 0 (.inl rfl) m
  have eq : eP (splitR p x) = .tuple [eW (halfR (mulR p.1 x) 0), eW (halfR (mulR p.2 x) 0)] := rfl
  rw [eq]
  simp [F_law_parted, g_law_parted, a1, a2, b1, b2]
/-! ### numbers -/
def cnt (x : Rw) : Nat := (x.2.filter fun r => !decide (r.num = 0)).length
theorem cnt_comp {l : List Rat} (hl : l.length ≤ big) {e : En} {m : Mm} (f2 : e.length = 2) : compG e 1 (gtV (g2 neD (g2 idxD (gVar 1) (gC (.int 0))) (gC (.int 0)))) (gVar 1) (l.map eQ) m [] = some ((l.filter fun r => !decide (r.num = 0)).map eQ, m) := by
  rw [comp_ok eQ eQ (fun r => !decide (r.num = 0)) l [] (fun r hr => ?_) (by simpa using hl)]
  · rfl
  · have g1 : ∀ v : Option Sl, (e.set 1 v)[1]? = some v := fun v => List.getElem?_set_self (by omega)
    simp [g1]
theorem F_numbers_in_ok (x : Rw) (hl : x.2.length ≤ big) (m : Mm) : F_numbers_in [.d (eW x)] m = some (.int (cnt x), m) := by
  have h := fun (e : En) (f2 : e.length = 2) => cnt_comp (m := m) hl f2
  unfold cnt
  generalize x.2.filter (fun r => !decide (r.num = 0)) = L at *
  simp [F_numbers_in, g_numbers_in, h]
theorem F_law_count_ok (x : Rw) (hl : x.2.length ≤ big) (m : Mm) : F_law_count [.d (eW x)] m = some (.int (cnt x), m) := by
  have h := fun (e : En) (f2 : e.length = 2) => cnt_comp (m := m) hl f2
  unfold cnt
  generalize x.2.filter (fun r => !decide (r.num = 0)) = L at *
  simp [F_law_count, g_law_count, h]
theorem rb_big {D M S : Nat} {x : Rw} (h : RB D M S x) (hS : S ≤ 10000) : x.2.length ≤ big := Nat.le_trans h.len (Nat.le_trans (show _ ≤ 20001 by omega) (by decide))
/-! ### the checks -/
theorem blsD_true {α : Type} (l : List α) : blsD (l.map fun _ => PyData.bool true) = some (l.map fun _ => true) := by
  induction l with
  | nil => rfl
  | cons a r ih => simp [blsD, ih]
theorem allD_true {α : Type} (l : List α) : allD (.list (l.map fun _ => PyData.bool true)) = some (.bool true) := by
  unfold allD
  simp only []
  rw [blsD_true]
  show some (PyData.bool ((l.map fun _ => true).all id)) = _
  rw [List.all_map]
  congr 2
  induction l with
  | nil => rfl
  | cons a r ih => simp
theorem F_are_wholes_ok (i j : Int) (m : Mm) : F_are_wholes [.d (.tuple [.int i, .int j]), .d (.int 2)] m = some (.bool true, m) := by
  have hc : ∀ e : En, e.length = 3 → compG e 2 gtYes (gCall (F_is_whole) (gac (gVar 2) (ga0))) [.int i, .int j] m [] = some ([.bool true, .bool true], m) := by
    intro e f
    have g1 : ∀ v : Option Sl, (e.set 2 v)[2]? = some v := fun v => List.getElem?_set_self (by omega)
    exact comp_map (e := e) (j := 2) (m := m) PyData.int (fun _ => PyData.bool true) [i, j] (fun q _ => by simp [g1]) (show 2 ≤ big by decide)
  have ha : allD (.list [.bool true, .bool true]) = some (.bool true) := rfl
  simp [F_are_wholes, g_are_wholes, hc, ha]
theorem F_is_ratio_ok (r : Rat) (m : Mm) : F_is_ratio [.d (eQ r)] m = some (.bool true, m) := by
  have h1 := F_are_wholes_ok r.num r.den m
  have h2 : Int.gcd r.num r.den = 1 := by
    have := r.reduced
    unfold Nat.Coprime at this
    rw [Int.gcd]
    simpa using this
  have h3 : 0 < r.den := r.den_pos
  unfold eQ
  simp [F_is_ratio, g_is_ratio, h1, h2, h3]
theorem F_is_laid_ok {D M S : Nat} {x : Rw} (h : RB D M S x) (hS : S ≤ 10000) (m : Mm) : F_is_laid [.d (eW x)] m = some (.bool true, m) := by
  by_cases h1 : x.2 = []
  · have h0 := h.z h1
    have e0 : eqD (.tuple []) (.tuple []) = some (.bool true) := by
      rw [op_eqT0 rfl]
      rfl
    have ex : eW x = .tuple [.int 0, .tuple []] := by
      unfold eW
      rw [h0, h1]
      rfl
    rw [ex]
    simp [F_is_laid, g_is_laid, e0]
  · have hl := rb_big h hS
    have hp : 0 < x.2.length := List.length_pos_iff.mpr h1
    have hc : ∀ e : En, e.length = 2 → compG e 1 gtYes (gCall (F_is_ratio) (gac (gVar 1) (ga0))) (x.2.map eQ) m [] = some (x.2.map fun _ => PyData.bool true, m) := by
      intro e f
      have g1 : ∀ v : Option Sl, (e.set 1 v)[1]? = some v := fun v => List.getElem?_set_self (by omega)
      exact comp_map (e := e) (j := 1) (m := m) eQ (fun _ => PyData.bool true) x.2 (fun q _ => by simp [g1, F_is_ratio_ok]) hl
    have e1 : x.2[0]? = some (x.2[0]'hp) := List.getElem?_eq_getElem hp
    have e2 : atD (x.2.map eQ) 0 = some (eQ (x.2[0]'hp)) := atD_map (k := 0) e1
    obtain ⟨z, hz⟩ : ∃ z, x.2.getLast? = some z := by
      rw [List.getLast?_eq_getElem?]
      exact ⟨_, List.getElem?_eq_getElem (by omega)⟩
    have e3 : atD (x.2.map eQ) (-1) = some (eQ z) := atD_last (by rw [List.getLast?_map, hz]; rfl)
    have n1 : ¬ (x.2[0]'hp).num = 0 := fun w => h.hd _ e1 (Rat.num_eq_zero.mp w)
    have n2 : ¬ z.num = 0 := fun w => h.la _ hz (Rat.num_eq_zero.mp w)
    have ha := allD_true x.2
    have ex : eW x = .tuple [.int x.1, .tuple (x.2.map eQ)] := rfl
    rw [ex]
    generalize (x.2.map fun _ => PyData.bool true) = B at *
    simp [F_is_laid, g_is_laid, h1, hc, ha, e2, e3, n1, n2]
theorem F_check_row_ok {D M S : Nat} {x : Rw} (h : RB D M S x) (hS : S ≤ 10000) (m : Mm) : F_check_row [.d (eW x)] m = some (.none, m) := by
  have h1 := F_is_laid_ok h hS m
  simp [F_check_row, g_check_row, h1]
theorem F_check_splitter_ok {D M S : Nat} {p : Rw × Rw} (h : PB D M S p) (hS : S ≤ 10000) (m : Mm) : F_check_splitter [.d (eP p)] m = some (.none, m) := by
  have h1 := F_is_laid_ok h.a hS m
  have h2 := F_is_laid_ok h.b hS m
  have h3 : F_are_two_rows [.d (eP p)] m = some (.bool true, m) := by
    unfold eP
    simp [F_are_two_rows, g_are_two_rows, h1, h2]
  simp [F_check_splitter, g_check_splitter, h3]
theorem F_check_depth_ok (k : Nat) (hk : k ≤ 4) (m : Mm) : F_check_depth [.d (.int k)] m = some (.none, m) := by
  have h1 : (k : Int) ≤ 4 := by omega
  simp [F_check_depth, g_check_depth, F_is_between, g_is_between, h1]
end Bs.Mt
/-! ML: trees: channels, the best tree, all trees. -/
namespace Bs.Mt
open PySem

inductive Tr where
  | lf
  | nd (a b : Tr)
def eT : Tr → D
  | .lf => .none
  | .nd a b => .tuple [eT a, eT b]
def Tr.dep : Tr → Nat
  | .lf => 0
  | .nd a b => max a.dep b.dep + 1
def Tr.lvs : Tr → Nat
  | .lf => 1
  | .nd a b => a.lvs + b.lvs
/-- x may be split k times more -/
def Bud (Dp Mp Sp : Nat) : Nat → Nat → Nat → Nat → Prop
  | 0, D, M, S => Ns D M ∧ Sp + S ≤ 10000
  | k + 1, D, M, S => (Ns D M ∧ Sp + S ≤ 10000) ∧ Bud Dp Mp Sp k (Dp * D) ((2 * Sp + 1) * (2 * S + 1) * (Mp * M)) ((Sp + S) / 2 + 1)
theorem Bud.here {Dp Mp Sp k D M S : Nat} (h : Bud Dp Mp Sp k D M S) : Ns D M ∧ Sp + S ≤ 10000 := by
  cases k with
  | zero => exact h
  | succ k => exact h.1
theorem Bud.less {Dp Mp Sp : Nat} : ∀ {k D M S : Nat}, Bud Dp Mp Sp (k + 1) D M S → Bud Dp Mp Sp k D M S
  | 0, _, _, _, h => h.1
  | k + 1, _, _, _, h => ⟨h.1, Bud.less h.2⟩
theorem op_idx0 {x y : D} : idxD (.tuple [x, y]) (.int 0) = some x := by simp
theorem op_idx1 {x y : D} : idxD (.tuple [x, y]) (.int 1) = some y := by simp
section
variable {Dp Mp Sp : Nat} {p : Rw × Rw}
theorem split_go {k D M S : Nat} {x : Rw} (hp : PB Dp Mp Sp p) (n1 : Ns Dp Mp) (hb : Bud Dp Mp Sp (k + 1) D M S) (hx : RB D M S x) (m : Mm) :
    F_split_by [.d (eP p), .d (eW x)] m = some (eP (splitR p x), m) ∧ F_law_parted [.d (eP p), .d (eW x)] m = some (eP (splitR p x), m) ∧
    RB (Dp * D) ((2 * Sp + 1) * (2 * S + 1) * (Mp * M)) ((Sp + S) / 2 + 1) (splitR p x).1 ∧ RB (Dp * D) ((2 * Sp + 1) * (2 * S + 1) * (Mp * M)) ((Sp + S) / 2 + 1) (splitR p x).2 := by
  obtain ⟨⟨n2, hS⟩, hb2⟩ := hb
  have n3 := hb2.here.1
  have hr := rb_split hp hx
  exact ⟨F_split_by_ok hp hx n1 n2 n3 hS m, F_law_parted_ok hp hx n1 n2 n3 hS m, hr.a, hr.b⟩
/-! ### the channels of a tree -/
def led (p : Rw × Rw) : Tr → Rw → List Rw
  | .lf, x => [x]
  | .nd a b, x => led p a (splitR p x).1 ++ led p b (splitR p x).2
theorem led_len : ∀ (t : Tr) (x : Rw), (led p t x).length = t.lvs
  | .lf, _ => rfl
  | .nd a b, x => by
    unfold led Tr.lvs
    rw [List.length_append, led_len a, led_len b]
theorem lvs_le : ∀ t : Tr, t.lvs ≤ 2 ^ t.dep
  | .lf => Nat.le_refl 1
  | .nd a b => by
    have h1 := lvs_le a
    have h2 := lvs_le b
    have h3 : 2 ^ a.dep ≤ 2 ^ max a.dep b.dep := Nat.pow_le_pow_right (by decide) (Nat.le_max_left _ _)
    have h4 : 2 ^ b.dep ≤ 2 ^ max a.dep b.dep := Nat.pow_le_pow_right (by decide) (Nat.le_max_right _ _)
    unfold Tr.lvs Tr.dep
    rw [Nat.pow_succ]
    omega
theorem lvs_big {t : Tr} (h : t.dep ≤ 6) : t.lvs ≤ 64 := Nat.le_trans (lvs_le t) (Nat.pow_le_pow_right (by decide) h)
theorem F_led_ok (hp : PB Dp Mp Sp p) (n1 : Ns Dp Mp) (m : Mm) : ∀ (n : Nat) (t : Tr) (k D M S : Nat) (x : Rw), t.dep ≤ k → k < n → n ≤ 6 → Bud Dp Mp Sp k D M S → RB D M S x →
    F_channels_in n [.d (eP p), .d (eT t), .d (eW x)] m = some (.list ((led p t x).map eW), m) ∧ F_law_led n [.d (eP p), .d (eT t), .d (eW x)] m = some (.list ((led p t x).map eW), m)
  | 0, _, _, _, _, _, _, _, hk, _, _, _ => absurd hk (Nat.not_lt_zero _)
  | n + 1, .lf, k, D, M, S, x, hd, hk, hn, hb, hx => by
    constructor
    · simp [F_channels_in, g_channels_in, eT, led]
    · simp [F_law_led, g_law_led, eT, led]
  | n + 1, .nd a b, k, D, M, S, x, hd, hk, hn, hb, hx => by
    unfold Tr.dep at hd
    obtain ⟨j, rfl⟩ : ∃ j, k = j + 1 := ⟨k - 1, by omega⟩
    obtain ⟨s1, s2, r1, r2⟩ := split_go hp n1 hb hx m
    have da : a.dep ≤ j := by omega
    have db : b.dep ≤ j := by omega
    obtain ⟨c1, c2⟩ := F_led_ok hp n1 m n a j _ _ _ _ da (by omega) (by omega) hb.2 r1
    obtain ⟨d1, d2⟩ := F_led_ok hp n1 m n b j _ _ _ _ db (by omega) (by omega) hb.2 r2
    have ep : eP (splitR p x) = .tuple [eW (splitR p x).1, eW (splitR p x).2] := rfl
    rw [ep] at s1 s2
    have la := lvs_big (t := a) (by omega)
    have lb := lvs_big (t := b) (by omega)
    have e1 : addD (.list ((led p a (splitR p x).1).map eW)) (.list ((led p b (splitR p x).2).map eW)) = some (.list ((led p (.nd a b) x).map eW)) := by
      rw [op_addLs (by rw [List.length_map, List.length_map, led_len, led_len]; exact Nat.le_trans (show _ ≤ 128 by omega) (by decide)), ← List.map_append]
      rfl
    constructor
    · simp [F_channels_in, g_channels_in, eT, s1, c1, d1, e1]
    · simp [F_law_led, g_law_led, eT, s2, c2, d2, e1]
/-! ### the best tree -/
def best (p : Rw × Rw) : Nat → Rw → Nat × Tr
  | 0, x => (cnt x, .lf)
  | k + 1, x => if (best p k (splitR p x).1).1 + (best p k (splitR p x).2).1 < cnt x
    then ((best p k (splitR p x).1).1 + (best p k (splitR p x).2).1, .nd (best p k (splitR p x).1).2 (best p k (splitR p x).2).2) else (cnt x, .lf)
theorem best_dep : ∀ (k : Nat) (x : Rw), (best p k x).2.dep ≤ k
  | 0, _ => Nat.le_refl 0
  | k + 1, x => by
    have h1 := best_dep k (splitR p x).1
    have h2 := best_dep k (splitR p x).2
    unfold best
    split
    · show max _ _ + 1 ≤ k + 1
      omega
    · exact Nat.zero_le _
theorem best_le : ∀ (k : Nat) (x : Rw), (best p k x).1 ≤ cnt x
  | 0, _ => Nat.le_refl _
  | k + 1, x => by
    unfold best
    split
    · rename_i h
      exact Nat.le_of_lt h
    · exact Nat.le_refl _
/-- one step deeper: no more numbers -/
theorem best_mono : ∀ (k : Nat) (x : Rw), (best p (k + 1) x).1 ≤ (best p k x).1
  | 0, x => best_le 1 x
  | k + 1, x => by
    have h1 := best_mono k (splitR p x).1
    have h2 := best_mono k (splitR p x).2
    have e1 : (best p (k + 2) x).1 = if (best p (k + 1) (splitR p x).1).1 + (best p (k + 1) (splitR p x).2).1 < cnt x then (best p (k + 1) (splitR p x).1).1 + (best p (k + 1) (splitR p x).2).1 else cnt x := by
      conv => lhs; unfold best
      split <;> rfl
    have e2 : (best p (k + 1) x).1 = if (best p k (splitR p x).1).1 + (best p k (splitR p x).2).1 < cnt x then (best p k (splitR p x).1).1 + (best p k (splitR p x).2).1 else cnt x := by
      conv => lhs; unfold best
      split <;> rfl
    rw [e1, e2]
    split <;> split <;> omega
/-- the best tree's channels hold just so many numbers -/
theorem best_sum : ∀ (k : Nat) (x : Rw), ((led p (best p k x).2 x).map cnt).sum = (best p k x).1
  | 0, x => by simp [best, led]
  | k + 1, x => by
    have h1 := best_sum k (splitR p x).1
    have h2 := best_sum k (splitR p x).2
    unfold best
    split
    · show ((led p _ _ ++ led p _ _).map cnt).sum = _
      rw [List.map_append, List.sum_append, h1, h2]
    · simp [led]
theorem F_best_in_ok (hp : PB Dp Mp Sp p) (n1 : Ns Dp Mp) (m : Mm) : ∀ (n k D M S : Nat) (x : Rw), k < n → Bud Dp Mp Sp k D M S → RB D M S x →
    F_best_in n [.d (eP p), .d (eW x), .d (.int k)] m = some (.tuple [.int (best p k x).1, eT (best p k x).2], m)
  | 0, _, _, _, _, _, hk, _, _ => absurd hk (Nat.not_lt_zero _)
  | n + 1, 0, D, M, S, x, hk, hb, hx => by
    have hc := F_numbers_in_ok x (rb_big hx (by have := hb.here.2; omega)) m
    simp [F_best_in, g_best_in, hc, best, eT]
  | n + 1, k + 1, D, M, S, x, hk, hb, hx => by
    have hc := F_numbers_in_ok x (rb_big hx (by have := hb.here.2; omega)) m
    obtain ⟨s1, s2, r1, r2⟩ := split_go hp n1 hb hx m
    have c1 := F_best_in_ok hp n1 m n k _ _ _ _ (by omega) hb.2 r1
    have c2 := F_best_in_ok hp n1 m n k _ _ _ _ (by omega) hb.2 r2
    have ep : eP (splitR p x) = .tuple [eW (splitR p x).1, eW (splitR p x).2] := rfl
    have hcm : ∀ e : En, e[0]? = some (some (.d (eP p))) → e[2]? = some (some (.d (.int ((k : Int) + 1)))) → e.length = 7 → compG e 6 gtYes (gCall (F_best_in n) (gac (gVar 0) (gac (gVar 6) (gac (g2 subD (gVar 2) (gC (.int 1))) (ga0))))) [eW (splitR p x).1, eW (splitR p x).2] m [] =
        some ([.tuple [.int (best p k (splitR p x).1).1, eT (best p k (splitR p x).1).2], .tuple [.int (best p k (splitR p x).2).1, eT (best p k (splitR p x).2).2]], m) := by
      intro e f1 f2 f3
      have g1 : ∀ v : Option Sl, (e.set 6 v)[6]? = some v := fun v => List.getElem?_set_self (by omega)
      have g2 : ∀ v : Option Sl, (e.set 6 v)[0]? = some (some (.d (eP p))) := fun v => by rw [List.getElem?_set_ne (by decide)]; exact f1
      have g3 : ∀ v : Option Sl, (e.set 6 v)[2]? = some (some (.d (.int ((k : Int) + 1)))) := fun v => by rw [List.getElem?_set_ne (by decide)]; exact f2
      have q : (k : Int) + 1 - 1 = k := by omega
      exact comp_map (e := e) (j := 6) (m := m) eW (fun y => PyData.tuple [.int (best p k y).1, eT (best p k y).2]) [(splitR p x).1, (splitR p x).2] (fun y hy => by
        rcases List.mem_cons.mp hy with e1 | hy
        · subst e1
          simp [g1, g2, g3, q, c1]
        · rcases List.mem_cons.mp hy with e1 | hy
          · subst e1
            simp [g1, g2, g3, q, c2]
          · cases hy) (show 2 ≤ big by decide)
    rw [ep] at s1
    have hne : ¬ ((k : Int) + 1 = 0) := by omega
    by_cases hlt : (best p k (splitR p x).1).1 + (best p k (splitR p x).2).1 < cnt x
    · have e1 : best p (k + 1) x = ((best p k (splitR p x).1).1 + (best p k (splitR p x).2).1, .nd (best p k (splitR p x).1).2 (best p k (splitR p x).2).2) := if_pos hlt
      have hlt' : ((best p k (splitR p x).1).1 : Int) + ((best p k (splitR p x).2).1 : Int) < (cnt x : Int) := by omega
      rw [e1]
      simp [F_best_in, g_best_in, hc, hne, s1, hcm, hlt', eT]
    · have e1 : best p (k + 1) x = (cnt x, .lf) := if_neg hlt
      have hlt' : ¬ ((best p k (splitR p x).1).1 : Int) + ((best p k (splitR p x).2).1 : Int) < (cnt x : Int) := by omega
      rw [e1]
      simp [F_best_in, g_best_in, hc, hne, s1, hcm, hlt', eT]
end
end Bs.Mt
/-! MM: all trees, the least of them, that it stands alone. -/
namespace Bs.Mt
open PySem

abbrev It := Nat × Nat × Tr
def eA (e : It) : D := .tuple [.int (e.1 : Nat), .int (e.2.1 : Nat), eT e.2.2]
def jn (e f : It) : It := (e.1 + f.1, e.2.1 + f.2.1, .nd e.2.2 f.2.2)
def allT (p : Rw × Rw) : Nat → Rw → List It
  | 0, x => [(cnt x, 1, .lf)]
  | k + 1, x => (cnt x, 1, .lf) :: (allT p k (splitR p x).1).flatMap fun e => (allT p k (splitR p x).2).map (jn e)
def szT : Nat → Nat
  | 0 => 1
  | k + 1 => 1 + szT k * szT k
theorem flat_len {α β : Type} (l : List α) (q : List β) (f : α → β → It) : (l.flatMap fun e => q.map (f e)).length = l.length * q.length := by
  induction l with
  | nil => simp
  | cons a r ih =>
    rw [List.flatMap_cons, List.length_append, ih, List.length_map, List.length_cons, Nat.add_mul, Nat.one_mul, Nat.add_comm]
theorem allT_len (p : Rw × Rw) : ∀ (k : Nat) (x : Rw), (allT p k x).length = szT k
  | 0, _ => rfl
  | k + 1, x => by
    unfold allT szT
    rw [List.length_cons, flat_len, allT_len p k, allT_len p k]
    omega
theorem szT_mono : ∀ {j k : Nat}, j ≤ k → szT j ≤ szT k
  | 0, 0, _ => Nat.le_refl _
  | 0, k + 1, _ => by
    show 1 ≤ 1 + szT k * szT k
    omega
  | j + 1, k + 1, h => by
    have ih := szT_mono (j := j) (k := k) (by omega)
    show 1 + szT j * szT j ≤ 1 + szT k * szT k
    have := Nat.mul_le_mul ih ih
    omega
theorem szT_le {k : Nat} (h : k ≤ 4) : szT k ≤ 677 := szT_mono h
@[simp] theorem ap_gsApp {i : Nat} {a : GE} {e : En} {m : Mm} : gsApp i a e m = (match e[i]? with
  | some (some (.at k)) => (match m[k]? with
    | some (some _) => (a e m).bind fun p => (match p.2[k]? with
      | some (some xs) => if xs.length < big then some (.nx e (p.2.set k (some (xs ++ [p.1])))) else none
      | _ => none)
    | _ => none)
  | _ => none) := rfl
@[simp] theorem eA0 (e : It) : idxD (eA e) (.int 0) = some (.int (e.1 : Nat)) := by simp [eA]
@[simp] theorem eA1 (e : It) : idxD (eA e) (.int 1) = some (.int (e.2.1 : Nat)) := by simp [eA]
@[simp] theorem eA2 (e : It) : idxD (eA e) (.int 2) = some (eT e.2.2) := by simp [eA]
theorem eA_jn (e f : It) : eA (jn e f) = .tuple [.int ((e.1 : Int) + (f.1 : Int)), .int ((e.2.1 : Int) + (f.2.1 : Int)), .tuple [eT e.2.2, eT f.2.2]] := rfl
section
variable {Dp Mp Sp : Nat} {p : Rw × Rw}
theorem at_inner {o0 o1 o2 o4 o5 o6 : Option Sl} {base : Mm} {F : List It} {e1 : It} (l : List It) (hF : F.length + l.length ≤ 1000) (u8 : Option Sl) :
    ∃ v8, forG (ggN 8) (gsApp 3 (gTup (glc (g2 addD (g2 idxD (gVar 7) (gC (.int 0))) (g2 idxD (gVar 8) (gC (.int 0)))) (glc (g2 addD (g2 idxD (gVar 7) (gC (.int 1))) (g2 idxD (gVar 8) (gC (.int 1)))) (glc (gTup (glc (g2 idxD (gVar 7) (gC (.int 2))) (glc (g2 idxD (gVar 8) (gC (.int 2))) (gl0)))) (gl0))))))
      (l.map eA) [o0, o1, o2, some (.at base.length), o4, o5, o6, some (.d (eA e1)), u8] (base ++ [some (F.map eA)]) = some (.nx [o0, o1, o2, some (.at base.length), o4, o5, o6, some (.d (eA e1)), v8] (base ++ [some ((F ++ l.map (jn e1)).map eA)])) := by
  have key := for_pre (gg := ggN 8) (b := gsApp 3 (gTup (glc (g2 addD (g2 idxD (gVar 7) (gC (.int 0))) (g2 idxD (gVar 8) (gC (.int 0)))) (glc (g2 addD (g2 idxD (gVar 7) (gC (.int 1))) (g2 idxD (gVar 8) (gC (.int 1)))) (glc (gTup (glc (g2 idxD (gVar 7) (gC (.int 2))) (glc (g2 idxD (gVar 8) (gC (.int 2))) (gl0)))) (gl0)))))) eA
    (fun pre e m => ∃ v8, e = [o0, o1, o2, some (.at base.length), o4, o5, o6, some (.d (eA e1)), v8] ∧ m = base ++ [some ((F ++ pre.map (jn e1)).map eA)]) l (fun pre f post e m hl hR => by
      obtain ⟨v8, rfl, rfl⟩ := hR
      have hp : pre.length ≤ l.length := by
        rw [hl, List.length_append]
        omega
      have hb : ((F ++ pre.map (jn e1)).map eA).length < big := by
        rw [List.length_map, List.length_append, List.length_map]
        exact Nat.lt_of_le_of_lt (show _ ≤ 1000 by omega) (by decide)
      have e5 : ((F ++ (pre ++ [f]).map (jn e1)).map eA) = (F ++ pre.map (jn e1)).map eA ++ [eA (jn e1 f)] := by
        rw [List.map_append, List.map_append, List.map_append, List.map_append, List.append_assoc]
        rfl
      refine ⟨_, _, ?_, some (.d (eA f)), rfl, rfl⟩
      rw [e5, eA_jn]
      generalize (F ++ pre.map (jn e1)).map eA = L at *
      simp [hb]) [o0, o1, o2, some (.at base.length), o4, o5, o6, some (.d (eA e1)), u8] (base ++ [some (F.map eA)]) ⟨u8, rfl, by simp⟩
  obtain ⟨e2, m2, h1, v8, rfl, rfl⟩ := key
  exact ⟨v8, h1⟩
theorem at_outer {o0 o1 o2 o4 o5 : Option Sl} {base : Mm} {F : List It} (l q : List It) (hF : F.length + l.length * q.length ≤ 1000) :
    ∃ v7 v8, forG (ggN 7) (gsFor (gxL (gVar 6)) (ggN 8) (gsApp 3 (gTup (glc (g2 addD (g2 idxD (gVar 7) (gC (.int 0))) (g2 idxD (gVar 8) (gC (.int 0)))) (glc (g2 addD (g2 idxD (gVar 7) (gC (.int 1))) (g2 idxD (gVar 8) (gC (.int 1)))) (glc (gTup (glc (g2 idxD (gVar 7) (gC (.int 2))) (glc (g2 idxD (gVar 8) (gC (.int 2))) (gl0)))) (gl0)))))))
      (l.map eA) [o0, o1, o2, some (.at base.length), o4, o5, some (.d (.list (q.map eA))), none, none] (base ++ [some (F.map eA)]) =
      some (.nx [o0, o1, o2, some (.at base.length), o4, o5, some (.d (.list (q.map eA))), v7, v8] (base ++ [some ((F ++ l.flatMap fun e => q.map (jn e)).map eA)])) := by
  have key := for_pre (gg := ggN 7) (b := gsFor (gxL (gVar 6)) (ggN 8) (gsApp 3 (gTup (glc (g2 addD (g2 idxD (gVar 7) (gC (.int 0))) (g2 idxD (gVar 8) (gC (.int 0)))) (glc (g2 addD (g2 idxD (gVar 7) (gC (.int 1))) (g2 idxD (gVar 8) (gC (.int 1)))) (glc (gTup (glc (g2 idxD (gVar 7) (gC (.int 2))) (glc (g2 idxD (gVar 8) (gC (.int 2))) (gl0)))) (gl0))))))) eA
    (fun pre e m => ∃ v7 v8, e = [o0, o1, o2, some (.at base.length), o4, o5, some (.d (.list (q.map eA))), v7, v8] ∧ m = base ++ [some ((F ++ pre.flatMap fun e => q.map (jn e)).map eA)]) l (fun pre f post e m hl hR => by
      obtain ⟨v7, v8, rfl, rfl⟩ := hR
      have hp : pre.length + 1 ≤ l.length := by
        rw [hl, List.length_append, List.length_cons]
        omega
      have hq : (pre.length + 1) * q.length ≤ l.length * q.length := Nat.mul_le_mul_right _ hp
      rw [Nat.add_mul, Nat.one_mul] at hq
      obtain ⟨w8, h1⟩ := at_inner (o0 := o0) (o1 := o1) (o2 := o2) (o4 := o4) (o5 := o5) (o6 := some (.d (.list (q.map eA)))) (base := base) (F := F ++ pre.flatMap fun e => q.map (jn e)) (e1 := f) q (by
        rw [List.length_append, flat_len]
        omega) v8
      refine ⟨_, _, ?_, some (.d (eA f)), w8, rfl, rfl⟩
      rw [List.flatMap_append, ← List.append_assoc]
      have e6 : [f].flatMap (fun e => q.map (jn e)) = q.map (jn f) := by simp
      rw [e6]
      generalize (F ++ pre.flatMap fun e => q.map (jn e)) = L at *
      generalize hZ : (L ++ q.map (jn f)).map eA = Z at *
      generalize L.map eA = Y at *
      generalize q.map eA = W at *
      simp [h1]) [o0, o1, o2, some (.at base.length), o4, o5, some (.d (.list (q.map eA))), none, none] (base ++ [some (F.map eA)]) ⟨none, none, rfl, by simp⟩
  obtain ⟨e2, m2, h1, v7, v8, rfl, rfl⟩ := key
  exact ⟨v7, v8, h1⟩
theorem F_all_ok (hp : PB Dp Mp Sp p) (n1 : Ns Dp Mp) : ∀ (n k D M S : Nat) (x : Rw) (m : Mm), k < n → k ≤ 4 → Bud Dp Mp Sp k D M S → RB D M S x →
    F_law_all_trees n [.d (eP p), .d (eW x), .d (.int k)] m = some (.list ((allT p k x).map eA), m)
  | 0, _, _, _, _, _, _, hk, _, _, _ => absurd hk (Nat.not_lt_zero _)
  | n + 1, 0, D, M, S, x, m, hk, h4, hb, hx => by
    have hc := F_law_count_ok x (rb_big hx (by have := hb.here.2; omega)) m
    simp [F_law_all_trees, g_law_all_trees, hc, allT, eA, eT]
  | n + 1, k + 1, D, M, S, x, m, hk, h4, hb, hx => by
    have hc := F_law_count_ok x (rb_big hx (by have := hb.here.2; omega)) m
    have e0 : PyData.tuple [.int (cnt x : Nat), .int 1, .none] = eA (cnt x, 1, .lf) := rfl
    obtain ⟨s1, s2, r1, r2⟩ := split_go hp n1 hb hx (m ++ [some [eA (cnt x, 1, .lf)]])
    have c1 := F_all_ok hp n1 n k _ _ _ _ (m ++ [some [eA (cnt x, 1, .lf)]]) (by omega) (by omega) hb.2 r1
    have c2 := F_all_ok hp n1 n k _ _ _ _ (m ++ [some [eA (cnt x, 1, .lf)]]) (by omega) (by omega) hb.2 r2
    have ep : eP (splitR p x) = .tuple [eW (splitR p x).1, eW (splitR p x).2] := rfl
    rw [ep] at s2
    have hne : ¬ ((k : Int) + 1 = 0) := by omega
    have q : (k : Int) + 1 - 1 = k := by omega
    have hs : szT (k + 1) ≤ 677 := szT_le h4
    have hs2 : szT (k + 1) = 1 + szT k * szT k := rfl
    obtain ⟨v7, v8, h1⟩ := at_outer (o0 := some (.d (eP p))) (o1 := some (.d (eW x))) (o2 := some (.d (.int ((k : Int) + 1)))) (o4 := some (.d (eW (splitR p x).1))) (o5 := some (.d (eW (splitR p x).2))) (base := m) (F := [(cnt x, 1, .lf)])
      (allT p k (splitR p x).1) (allT p k (splitR p x).2) (by
        rw [allT_len, allT_len, List.length_singleton]
        omega)
    have e7 : [(cnt x, 1, Tr.lf)] ++ ((allT p k (splitR p x).1).flatMap fun e => (allT p k (splitR p x).2).map (jn e)) = allT p (k + 1) x := rfl
    rw [e7] at h1
    generalize allT p (k + 1) x = R at *
    generalize R.map eA = R' at *
    generalize (allT p k (splitR p x).1).map eA = A1 at *
    generalize (allT p k (splitR p x).2).map eA = A2 at *
    simp only [List.map_cons, List.map_nil] at h1
    simp [F_law_all_trees, g_law_all_trees, hc, e0, hne, s2, q, c1, c2, h1]
end
end Bs.Mt
/-! MN: the least tree stands alone and is the program's. -/
namespace Bs.Mt
open PySem

def klt (a b : It) : Prop := a.1 < b.1 ∨ (a.1 = b.1 ∧ a.2.1 < b.2.1)
def keq (a b : It) : Prop := a.1 = b.1 ∧ a.2.1 = b.2.1
instance : Decidable (klt a b) := by unfold klt; infer_instance
instance : Decidable (keq a b) := by unfold keq; infer_instance
def bst1 (s : It × Nat) (e : It) : It × Nat := if klt e s.1 then (e, 0) else s
def bst2 (s : It × Nat) (e : It) : It × Nat := if keq e s.1 then (s.1, s.2 + 1) else s
def bstep (s : It × Nat) (e : It) : It × Nat := bst2 (bst1 s e) e
@[simp] theorem ap_gSlT {a : GE} {lo hi : En → Mm → Option (Option Int × Mm)} {e : En} {m : Mm} : gSlT a lo hi e m = (a e m).bind fun p => (lo e p.2).bind fun l => (hi e l.2).bind fun h => (match p.1 with
  | .tuple xs => some (.tuple (cutD xs l.1 h.1), h.2)
  | _ => none) := rfl
theorem cut2 {x y z : D} : cutD [x, y, z] none (some 2) = [x, y] := by
  unfold cutD sxD
  simp
theorem op_lt2 {a b c d : Nat} : ltTD (.tuple [.int a, .int b]) (.tuple [.int c, .int d]) = some (.bool (decide (a < c ∨ (a = c ∧ b < d)))) := by
  simp only [ltTD, intsD, Option.map_some, Option.bind_some, lexI]
  by_cases h : (a : Int) = c
  · rw [if_pos h]
    have h' : a = c := by omega
    by_cases h2 : (b : Int) = d
    · rw [if_pos h2]
      have : ¬ (a < c ∨ (a = c ∧ b < d)) := by omega
      rw [decide_eq_false this]
    · rw [if_neg h2]
      congr 2
      apply decide_eq_decide.mpr
      omega
  · rw [if_neg h]
    congr 2
    apply decide_eq_decide.mpr
    omega
theorem op_eq2 {a b c d : Nat} : eqD (.tuple [.int a, .int b]) (.tuple [.int c, .int d]) = some (.bool (decide (a = c ∧ b = d))) := by
  unfold eqD
  have dp : min (PyData.tuple [.int (a : Int), .int (b : Int)]).depth (PyData.tuple [.int (c : Int), .int (d : Int)]).depth ≤ 64 := by
    refine Nat.le_trans (Nat.min_le_left _ _) ?_
    simp [PyData.depth, PyData.depthAll]
  rw [if_pos ⟨rfl, rfl, dp⟩]
  simp only [PyData.eqv, PyData.eqvAll, Bool.and_true]
  congr 2
  rw [Bool.eq_iff_iff]
  simp
  omega
theorem F_best_ok (e0 : It) (l : List It) (hl : l[0]? = some e0) (m : Mm) : F_law_best [.d (.list (l.map eA))] m = some (.tuple [eA (l.foldl bstep (e0, 0)).1, .int ((l.foldl bstep (e0, 0)).2 : Nat)], m) := by
  have h0 : atD (l.map eA) 0 = some (eA e0) := atD_map (k := 0) hl
  have key := for_pre (gg := ggN 3) (b := gsSeq (gsIf (gtV (g2 ltTD (gSlT (gVar 3) (gpN) (gpS (gC (.int 2)))) (gSlT (gVar 1) (gpN) (gpS (gC (.int 2)))))) (gsPar 1 2 (gVar 3) (gC (.int 0))) (gsN)) (gsIf (gtV (g2 eqD (gSlT (gVar 3) (gpN) (gpS (gC (.int 2)))) (gSlT (gVar 1) (gpN) (gpS (gC (.int 2)))))) (gsAsg (g2 addD (gVar 2) (gC (.int 1))) (ggN 2)) (gsN))) eA
    (fun pre e m' => ∃ u, e = [some (.d (.list (l.map eA))), some (.d (eA (pre.foldl bstep (e0, 0)).1)), some (.d (.int ((pre.foldl bstep (e0, 0)).2 : Nat))), u] ∧ m' = m) l (fun pre f post e m' hpl hR => by
      obtain ⟨u, rfl, rfl⟩ := hR
      rw [List.foldl_append]
      generalize pre.foldl bstep (e0, 0) = s
      rw [show [f].foldl bstep s = bstep s f from rfl]
      refine ⟨_, _, ?_, some (.d (eA f)), rfl, rfl⟩
      have c1 : ∀ g : It, eA g = .tuple [.int (g.1 : Nat), .int (g.2.1 : Nat), eT g.2.2] := fun _ => rfl
      by_cases h1 : klt f s.1
      · have e1 : bst1 s f = (f, 0) := if_pos h1
        have h2 : keq f f := ⟨rfl, rfl⟩
        have e2 : bstep s f = (f, 1) := by
          unfold bstep
          rw [e1]
          exact if_pos h2
        have h1' : (f.1 < s.1.1 ∨ (f.1 = s.1.1 ∧ f.2.1 < s.1.2.1)) := h1
        rw [e2]
        simp [c1, cut2, op_lt2, op_eq2, h1']
      · have e1 : bst1 s f = s := if_neg h1
        have h1' : ¬ (f.1 < s.1.1 ∨ (f.1 = s.1.1 ∧ f.2.1 < s.1.2.1)) := h1
        by_cases h2 : keq f s.1
        · have e2 : bstep s f = (s.1, s.2 + 1) := by
            unfold bstep
            rw [e1]
            exact if_pos h2
          have h2' : f.1 = s.1.1 ∧ f.2.1 = s.1.2.1 := h2
          rw [e2]
          simp [c1, cut2, op_lt2, op_eq2, h2']
        · have e2 : bstep s f = s := by
            unfold bstep
            rw [e1]
            exact if_neg h2
          have h2' : ¬ (f.1 = s.1.1 ∧ f.2.1 = s.1.2.1) := h2
          rw [e2]
          simp only [c1, cut2, op_lt2, op_eq2, decide_eq_false h1', decide_eq_false h2', ap_ggN, ap_gsSeq, ap_gsIf, ap_gtV, ap_g2, ap_gSlT, ap_gVar, ap_gpN, ap_gpS, ap_gC, ap_gsN]
          simp [cut2, op_lt2, op_eq2, h2', decide_eq_false h1', decide_eq_false h2']
          ) [some (.d (.list (l.map eA))), some (.d (eA e0)), some (.d (.int 0)), none] m ⟨none, rfl, rfl⟩
  obtain ⟨e1, m1, h1, u, rfl, rfl⟩ := key
  generalize l.map eA = L at *
  simp [F_law_best, g_law_best, h0, h1]
/-! ### alone -/
def Alone (b : It) (l : List It) : Prop := ∃ pre post, l = pre ++ b :: post ∧ ∀ e, e ∈ pre ∨ e ∈ post → klt b e
theorem fold_post {b : It} {n : Nat} : ∀ (l : List It), (∀ e ∈ l, klt b e) → l.foldl bstep (b, n) = (b, n)
  | [], _ => rfl
  | e :: l, h => by
    have h1 := h e (List.mem_cons_self ..)
    have n1 : ¬ klt e b := by unfold klt at *; omega
    have n2 : ¬ keq e b := by unfold klt keq at *; omega
    have e0 : bst1 (b, n) e = (b, n) := if_neg n1
    have e1 : bstep (b, n) e = (b, n) := by
      unfold bstep
      rw [e0]
      exact if_neg n2
    rw [List.foldl_cons, e1]
    exact fold_post l fun q hq => h q (List.mem_cons_of_mem _ hq)
theorem fold_pre {b : It} : ∀ (l : List It) (c : It) (n : Nat), klt b c → (∀ e ∈ l, klt b e) → ∃ d k, l.foldl bstep (c, n) = (d, k) ∧ klt b d
  | [], c, n, h, _ => ⟨c, n, rfl, h⟩
  | e :: l, c, n, h, hl => by
    have h1 := hl e (List.mem_cons_self ..)
    have : ∃ d k, bstep (c, n) e = (d, k) ∧ klt b d := by
      unfold bstep bst2 bst1
      split <;> split
      · exact ⟨_, _, rfl, h1⟩
      · exact ⟨_, _, rfl, h1⟩
      · exact ⟨_, _, rfl, h⟩
      · exact ⟨_, _, rfl, h⟩
    obtain ⟨d, k, e2, h3⟩ := this
    rw [List.foldl_cons, e2]
    exact fold_pre l d k h3 fun q hq => hl q (List.mem_cons_of_mem _ hq)
theorem alone_fold {b : It} {l : List It} (h : Alone b l) : ∃ e0, l[0]? = some e0 ∧ l.foldl bstep (e0, 0) = (b, 1) := by
  obtain ⟨pre, post, rfl, hk⟩ := h
  have hit : ∀ (c : It) (n : Nat), klt b c → bstep (c, n) b = (b, 1) := fun c n hc => by
    have e1 : bst1 (c, n) b = (b, 0) := if_pos hc
    unfold bstep
    rw [e1]
    exact if_pos ⟨rfl, rfl⟩
  cases pre with
  | nil =>
    refine ⟨b, rfl, ?_⟩
    have e1 : bstep (b, 0) b = (b, 1) := by
      have : ¬ klt b b := by unfold klt; omega
      have e1 : bst1 (b, 0) b = (b, 0) := if_neg this
      unfold bstep
      rw [e1]
      exact if_pos ⟨rfl, rfl⟩
    rw [List.nil_append, List.foldl_cons, e1]
    exact fold_post post fun e he => hk e (.inr he)
  | cons c pre =>
    refine ⟨c, rfl, ?_⟩
    obtain ⟨d, k, e1, hd⟩ := fold_pre (c :: pre) c 0 (hk c (.inl (List.mem_cons_self ..))) fun e he => hk e (.inl he)
    rw [List.foldl_append, e1, List.foldl_cons, hit d k hd]
    exact fold_post post fun e he => hk e (.inr he)
theorem klt_jn {a b c d : It} (h1 : klt a c ∨ a = c) (h2 : klt b d ∨ b = d) (h : klt a c ∨ klt b d) : klt (jn a b) (jn c d) := by
  unfold klt jn at *
  simp only at *
  rcases h1 with h1 | h1
  · rcases h2 with h2 | h2
    · omega
    · subst h2; omega
  · subst h1
    rcases h2 with h2 | h2
    · omega
    · subst h2; omega
theorem alone_jn {a b : It} {l q : List It} (h1 : Alone a l) (h2 : Alone b q) : Alone (jn a b) (l.flatMap fun e => q.map (jn e)) := by
  obtain ⟨p1, s1, rfl, k1⟩ := h1
  obtain ⟨p2, s2, rfl, k2⟩ := h2
  refine ⟨(p1.flatMap fun e => (p2 ++ b :: s2).map (jn e)) ++ p2.map (jn a), s2.map (jn a) ++ s1.flatMap fun e => (p2 ++ b :: s2).map (jn e), ?_, fun e he => ?_⟩
  · rw [List.flatMap_append, List.flatMap_cons, List.map_append, List.map_cons]
    simp only [List.append_assoc, List.cons_append]
  · have inq : ∀ f, f ∈ p2 ++ b :: s2 → klt b f ∨ b = f := fun f hf => by
      rcases List.mem_append.mp hf with z | z
      · exact .inl (k2 f (.inl z))
      · rcases List.mem_cons.mp z with z | z
        · exact .inr z.symm
        · exact .inl (k2 f (.inr z))
    have far : ∀ c, klt a c → ∀ e ∈ (p2 ++ b :: s2).map (jn c), klt (jn a b) e := fun c hc e he => by
      obtain ⟨f, hf, rfl⟩ := List.mem_map.mp he
      exact klt_jn (.inl hc) (inq f hf) (.inl hc)
    have near : ∀ f, klt b f → klt (jn a b) (jn a f) := fun f hf => klt_jn (.inr rfl) (.inl hf) (.inr hf)
    rcases he with he | he
    · rcases List.mem_append.mp he with he | he
      · obtain ⟨c, hc, he⟩ := List.mem_flatMap.mp he
        exact far c (k1 c (.inl hc)) e he
      · obtain ⟨f, hf, rfl⟩ := List.mem_map.mp he
        exact near f (k2 f (.inl hf))
    · rcases List.mem_append.mp he with he | he
      · obtain ⟨f, hf, rfl⟩ := List.mem_map.mp he
        exact near f (k2 f (.inr hf))
      · obtain ⟨c, hc, he⟩ := List.mem_flatMap.mp he
        exact far c (k1 c (.inr hc)) e he
theorem lvs_pos : ∀ t : Tr, 1 ≤ t.lvs
  | .lf => Nat.le_refl 1
  | .nd a b => by
    have := lvs_pos a
    unfold Tr.lvs
    omega
theorem allT_lvs {p : Rw × Rw} : ∀ (k : Nat) (x : Rw), ∀ e ∈ allT p k x, e.2.1 = e.2.2.lvs
  | 0, x, e, he => by
    have : e = (cnt x, 1, .lf) := by simpa [allT] using he
    rw [this]
    rfl
  | k + 1, x, e, he => by
    unfold allT at he
    rcases List.mem_cons.mp he with h | h
    · rw [h]
      rfl
    · obtain ⟨c, hc, h⟩ := List.mem_flatMap.mp h
      obtain ⟨f, hf, rfl⟩ := List.mem_map.mp h
      show c.2.1 + f.2.1 = c.2.2.lvs + f.2.2.lvs
      rw [allT_lvs k _ c hc, allT_lvs k _ f hf]
theorem alone_all {p : Rw × Rw} : ∀ (k : Nat) (x : Rw), Alone ((best p k x).1, (best p k x).2.lvs, (best p k x).2) (allT p k x)
  | 0, x => ⟨[], [], rfl, fun e he => by rcases he with h | h <;> cases h⟩
  | k + 1, x => by
    have h1 := alone_all (p := p) k (splitR p x).1
    have h2 := alone_all (p := p) k (splitR p x).2
    have hj := alone_jn h1 h2
    generalize ha : ((best p k (splitR p x).1).1, (best p k (splitR p x).1).2.lvs, (best p k (splitR p x).1).2) = a at *
    generalize hb : ((best p k (splitR p x).2).1, (best p k (splitR p x).2).2.lvs, (best p k (splitR p x).2).2) = b at *
    have hl : 2 ≤ a.2.1 + b.2.1 := by
      rw [← ha, ← hb]
      have g1 := lvs_pos (best p k (splitR p x).1).2
      have g2 := lvs_pos (best p k (splitR p x).2).2
      show 2 ≤ (best p k (splitR p x).1).2.lvs + (best p k (splitR p x).2).2.lvs
      omega
    have f1 : a.1 = (best p k (splitR p x).1).1 := by rw [← ha]
    have f2 : b.1 = (best p k (splitR p x).2).1 := by rw [← hb]
    by_cases hlt : (best p k (splitR p x).1).1 + (best p k (splitR p x).2).1 < cnt x
    · have e1 : best p (k + 1) x = ((best p k (splitR p x).1).1 + (best p k (splitR p x).2).1, .nd (best p k (splitR p x).1).2 (best p k (splitR p x).2).2) := if_pos hlt
      have e2 : ((best p (k + 1) x).1, (best p (k + 1) x).2.lvs, (best p (k + 1) x).2) = jn a b := by
        rw [e1, ← ha, ← hb]
        rfl
      rw [e2]
      obtain ⟨pre, post, e3, hk⟩ := hj
      refine ⟨(cnt x, 1, .lf) :: pre, post, ?_, fun e he => ?_⟩
      · show (cnt x, 1, Tr.lf) :: _ = _
        rw [e3]
        rfl
      · rcases he with he | he
        · rcases List.mem_cons.mp he with h | h
          · rw [h]
            left
            show a.1 + b.1 < cnt x
            omega
          · exact hk e (.inl h)
        · exact hk e (.inr he)
    · have e1 : best p (k + 1) x = (cnt x, .lf) := if_neg hlt
      rw [e1]
      refine ⟨[], _, rfl, fun e he => ?_⟩
      rcases he with he | he
      · cases he
      · -- every pair has no fewer numbers, and more leaves
        obtain ⟨pre, post, e3, hk⟩ := hj
        have key : e = jn a b ∨ klt (jn a b) e := by
          rw [e3] at he
          rcases List.mem_append.mp he with h | h
          · exact .inr (hk e (.inl h))
          · rcases List.mem_cons.mp h with h | h
            · exact .inl h
            · exact .inr (hk e (.inr h))
        have hlv : 2 ≤ e.2.1 := by
          obtain ⟨c, hc, h⟩ := List.mem_flatMap.mp he
          obtain ⟨f, hf, rfl⟩ := List.mem_map.mp h
          have g1 := allT_lvs k _ c hc
          have g2 := allT_lvs k _ f hf
          have g3 := lvs_pos c.2.2
          have g4 := lvs_pos f.2.2
          show 2 ≤ c.2.1 + f.2.1
          omega
        show cnt x < e.1 ∨ (cnt x = e.1 ∧ 1 < e.2.1)
        rcases key with h | h
        · rw [h] at hlv ⊢
          have : (jn a b).1 = a.1 + b.1 := rfl
          omega
        · unfold klt at h
          have : (jn a b).1 = a.1 + b.1 := rfl
          omega
end Bs.Mt
/-! MO: the program's entries: trees, numbers, channels. -/
namespace Bs.Mt
open PySem

@[simp] theorem ap_gsDrop {a : GE} {e : En} {m : Mm} : gsDrop a e m = (a e m).map fun p => .nx e p.2 := rfl
theorem F_is_tree_of_ok (m : Mm) : ∀ (n : Nat) (t : Tr) (k : Nat), t.dep ≤ k → k < n → F_is_tree_of n [.d (eT t), .d (.int k)] m = some (.bool true, m)
  | 0, _, _, _, h => absurd h (Nat.not_lt_zero _)
  | n + 1, .lf, k, h, hk => by
    simp [F_is_tree_of, g_is_tree_of, eT]
  | n + 1, .nd a b, k, h, hk => by
    unfold Tr.dep at h
    obtain ⟨j, rfl⟩ : ∃ j, k = j + 1 := ⟨k - 1, by omega⟩
    have c1 := F_is_tree_of_ok m n a j (by omega) (by omega)
    have c2 := F_is_tree_of_ok m n b j (by omega) (by omega)
    have q : (j : Int) + 1 - 1 = j := by omega
    have hne : ¬ ((j : Int) + 1 = 0) := by omega
    have hc : ∀ e : En, e[1]? = some (some (.d (.int ((j : Int) + 1)))) → e.length = 3 → compG e 2 gtYes (gCall (F_is_tree_of n) (gac (gVar 2) (gac (g2 subD (gVar 1) (gC (.int 1))) (ga0)))) [eT a, eT b] m [] = some ([.bool true, .bool true], m) := by
      intro e f1 f2
      have g1 : ∀ v : Option Sl, (e.set 2 v)[2]? = some v := fun v => List.getElem?_set_self (by omega)
      have g2 : ∀ v : Option Sl, (e.set 2 v)[1]? = some (some (.d (.int ((j : Int) + 1)))) := fun v => by rw [List.getElem?_set_ne (by decide)]; exact f1
      exact comp_map (e := e) (j := 2) (m := m) eT (fun _ => PyData.bool true) [a, b] (fun y hy => by
        rcases List.mem_cons.mp hy with e1 | hy
        · subst e1
          simp [g1, g2, q, c1]
        · rcases List.mem_cons.mp hy with e1 | hy
          · subst e1
            simp [g1, g2, q, c2]
          · cases hy) (show 2 ≤ big by decide)
    have ha : allD (.list [.bool true, .bool true]) = some (.bool true) := rfl
    simp [F_is_tree_of, g_is_tree_of, eT, hne, hc, ha]
theorem F_check_tree_ok {t : Tr} (h : t.dep ≤ 4) (m : Mm) : F_check_tree [.d (eT t)] m = some (.none, m) := by
  have h1 := F_is_tree_of_ok m 6 t 4 h (by decide)
  have h2 : F_is_tree [.d (eT t)] m = some (.bool true, m) := by
    simp [F_is_tree, g_is_tree]
    rw [show ((4 : Nat) : Int) = 4 from rfl] at h1
    simp [h1]
  simp [F_check_tree, g_check_tree, h2]
section
variable {Dp Mp Sp : Nat} {p : Rw × Rw}
theorem F_fewest_ok (hp : PB Dp Mp Sp p) (n1 : Ns Dp Mp) {k D M S : Nat} {x : Rw} (hk : k ≤ 4) (hb : Bud Dp Mp Sp k D M S) (hx : RB D M S x) (m : Mm) :
    F_fewest_tree [.d (eP p), .d (eW x), .d (.int k)] m = some (eT (best p k x).2, m) ∧ F_fewest_numbers [.d (eP p), .d (eW x), .d (.int k)] m = some (.int (best p k x).1, m) := by
  have hS := hb.here.2
  have c1 := F_check_splitter_ok hp (by omega) m
  have c2 := F_check_row_ok hx (by omega) m
  have c3 := F_check_depth_ok k hk m
  have c4 := F_best_in_ok hp n1 m 6 k D M S x (by omega) hb hx
  constructor
  · simp [F_fewest_tree, g_fewest_tree, c1, c2, c3, c4]
  · simp [F_fewest_numbers, g_fewest_numbers, c1, c2, c3, c4]
theorem F_tree_channels_ok (hp : PB Dp Mp Sp p) (n1 : Ns Dp Mp) {k D M S : Nat} {x : Rw} {t : Tr} (ht : t.dep ≤ k) (hk : k ≤ 4) (hb : Bud Dp Mp Sp k D M S) (hx : RB D M S x) (m : Mm) :
    F_tree_channels [.d (eP p), .d (eT t), .d (eW x)] m = some (.tuple ((led p t x).map eW), m) := by
  have hS := hb.here.2
  have c1 := F_check_splitter_ok hp (by omega) m
  have c2 := F_check_row_ok hx (by omega) m
  have c3 := F_check_tree_ok (t := t) (by omega) m
  have c4 := (F_led_ok hp n1 m 6 t k D M S x ht (by omega) (Nat.le_refl _) hb hx).1
  simp [F_tree_channels, g_tree_channels, c1, c2, c3, c4]
/-- every channel is a row within bounds -/
theorem led_rb (hp : PB Dp Mp Sp p) : ∀ (t : Tr) (k D M S : Nat) (x : Rw), t.dep ≤ k → Bud Dp Mp Sp k D M S → RB D M S x → ∀ y ∈ led p t x, ∃ D' M' S', RB D' M' S' y ∧ Ns D' M' ∧ S' ≤ 10000
  | .lf, k, D, M, S, x, _, hb, hx, y, hy => by
    have : y = x := by simpa [led] using hy
    subst this
    have := hb.here
    exact ⟨D, M, S, hx, this.1, by omega⟩
  | .nd a b, k, D, M, S, x, hd, hb, hx, y, hy => by
    unfold Tr.dep at hd
    obtain ⟨j, rfl⟩ : ∃ j, k = j + 1 := ⟨k - 1, by omega⟩
    have hr := rb_split hp hx
    rcases List.mem_append.mp (show y ∈ led p a (splitR p x).1 ++ led p b (splitR p x).2 from hy) with h | h
    · exact led_rb hp a j _ _ _ _ (by omega) hb.2 hr.a y h
    · exact led_rb hp b j _ _ _ _ (by omega) hb.2 hr.b y h
/-- all channels together hold not many places -/
theorem led_tot (hp : PB Dp Mp Sp p) : ∀ (t : Tr) (k D M S : Nat) (x : Rw), t.dep ≤ k → RB D M S x → ((led p t x).map fun y => y.2.length).sum ≤ 2 * S + 1 + (2 ^ k - 1) * (2 * Sp + 5)
  | .lf, k, D, M, S, x, _, hx => by
    have := hx.len
    simp [led]
    omega
  | .nd a b, k, D, M, S, x, hd, hx => by
    unfold Tr.dep at hd
    obtain ⟨j, rfl⟩ : ∃ j, k = j + 1 := ⟨k - 1, by omega⟩
    have hr := rb_split hp hx
    have h1 := led_tot hp a j _ _ _ _ (by omega) hr.a
    have h2 := led_tot hp b j _ _ _ _ (by omega) hr.b
    show (((led p a (splitR p x).1 ++ led p b (splitR p x).2)).map fun y => y.2.length).sum ≤ _
    rw [List.map_append, List.sum_append]
    have hp2 : 0 < 2 ^ j := Nat.two_pow_pos j
    have e : 2 ^ (j + 1) - 1 = (2 ^ j - 1) + (2 ^ j - 1) + 1 := by rw [Nat.pow_succ]; omega
    rw [e, Nat.add_mul, Nat.add_mul, Nat.one_mul]
    generalize (2 ^ j - 1) * (2 * Sp + 5) = z at *
    omega
end
end Bs.Mt
/-! MP: what repr shows stays short. -/
namespace Bs.Mt
open PySem

def L (d : D) : Nat := d.shown.length
theorem len_tup (ts : List Str) : (tupleText ts).length ≤ piled ts + 2 := by
  unfold tupleText
  rw [strLen_append, strLen_append]
  have e1 : ((("(" : String) : Str)).length = 1 := rfl
  rw [e1]
  by_cases h : ts = []
  · subst h
    decide +kernel
  · have h2 := join_length_add ts h
    have e3 : (((if ts.length == 1 then ",)" else ")" : String) : Str)).length ≤ 2 := by split <;> decide +kernel
    omega
theorem len_lst : ∀ ts : List Str, (listText ts).length ≤ piled ts + 2
  | [] => by decide +kernel
  | t :: r => by
    have h := textFrom_length_pos r 1 (("[" : Str) ++ (if (0 : Nat) > 0 then ", " else "" : String) ++ t) (Nat.succ_pos 0)
    have e : ((("[" : Str) ++ (if (0 : Nat) > 0 then ", " else "" : String) ++ t)).length = 1 + t.length := by
      rw [strLen_append, strLen_append]; rfl
    have hY : (textFrom 0 "[" (t :: r)).length = (textFrom 1 (("[" : Str) ++ (if (0 : Nat) > 0 then ", " else "" : String) ++ t) r).length := rfl
    unfold listText
    rw [strLen_append, hY, h, e, piled_cons]
    have e1 : ((("]" : String) : Str)).length = 1 := rfl
    rw [e1]
    omega
/-- the sum of the items' lengths, the marks between them -/
def Ls : List D → Nat
  | [] => 0
  | x :: r => (L x + 2) + Ls r
theorem piled_shown : ∀ xs : List D, piled (PyData.shownAll xs) = Ls xs
  | [] => rfl
  | x :: r => by
    rw [PyData.shownAll, piled_cons, piled_shown r]
    rfl
theorem L_tup (xs : List D) : L (.tuple xs) ≤ Ls xs + 2 := by
  unfold L
  rw [PyData.shown, ← piled_shown]
  exact len_tup _
theorem L_lst (xs : List D) : L (.list xs) ≤ Ls xs + 2 := by
  unfold L
  rw [PyData.shown, ← piled_shown]
  exact len_lst _
theorem L_int {i : Int} (h : SmI i) : L (.int i) ≤ 1921 := by
  unfold L
  rw [PyData.shown]
  exact PyProof.Rows.int_text_len_1921 (Nat.lt_trans (log2_sm h) (by decide))
theorem L_eQ {r : Rat} (h : Sm r) : L (eQ r) ≤ 3848 := by
  have h1 := L_tup [.int r.num, .int r.den]
  have h2 := L_int h.1
  have h3 := L_int (i := r.den) h.2
  simp only [Ls] at h1
  unfold eQ
  omega
theorem Ls_eQ : ∀ {l : List Rat}, (∀ r ∈ l, Sm r) → Ls (l.map eQ) ≤ 3850 * l.length
  | [], _ => Nat.le_refl _
  | a :: r, h => by
    have h1 := L_eQ (h a (List.mem_cons_self ..))
    have h2 := Ls_eQ (l := r) fun q hq => h q (List.mem_cons_of_mem _ hq)
    show (L (eQ a) + 2) + Ls (r.map eQ) ≤ 3850 * (r.length + 1)
    omega
theorem L_eW {D M S : Nat} {x : Rw} (h : RB D M S x) (n : Ns D M) (hS : S ≤ 10000) : L (eW x) ≤ 3850 * x.2.length + 2000 := by
  have h1 := L_tup [.int x.1, .tuple (x.2.map eQ)]
  have a1 := h.lo
  have a2 := h.hi
  have h2 := L_int (i := x.1) (small_smI (by omega))
  have h3 := L_tup (x.2.map eQ)
  have h4 := Ls_eQ (l := x.2) fun r hr => n.sm (h.bd r hr)
  simp only [Ls] at h1
  unfold eW
  omega
theorem Ls_eW : ∀ {l : List Rw}, (∀ y ∈ l, ∃ D' M' S', RB D' M' S' y ∧ Ns D' M' ∧ S' ≤ 10000) → Ls (l.map eW) ≤ 3850 * (l.map fun y => y.2.length).sum + 2002 * l.length
  | [], _ => Nat.le_refl _
  | a :: r, h => by
    obtain ⟨D', M', S', g1, g2, g3⟩ := h a (List.mem_cons_self ..)
    have h1 := L_eW g1 g2 g3
    have h2 := Ls_eW (l := r) fun q hq => h q (List.mem_cons_of_mem _ hq)
    show (L (eW a) + 2) + Ls (r.map eW) ≤ 3850 * (a.2.length + (r.map fun y => y.2.length).sum) + 2002 * (r.length + 1)
    omega
theorem L_eT : ∀ t : Tr, L (eT t) + 6 ≤ 10 * t.lvs
  | .lf => by decide +kernel
  | .nd a b => by
    have h1 := L_tup [eT a, eT b]
    have h2 := L_eT a
    have h3 := L_eT b
    simp only [Ls] at h1
    unfold eT Tr.lvs
    omega
/-! ### it may be shown -/
structure Shw (d : D) : Prop where
  s : d.showable = true
  h : d.hasDict = false
theorem shw_int {i : Int} (h : SmI i) : Shw (.int i) := ⟨by
  simp only [PyData.showable]
  exact decide_eq_true (Nat.lt_trans (log2_sm h) (by decide)), by simp only [PyData.hasDict]⟩
theorem shw_all : ∀ {xs : List D}, (∀ x ∈ xs, Shw x) → PyData.showableAll xs = true ∧ PyData.hasDictAll xs = false
  | [], _ => ⟨by simp only [PyData.showableAll], by simp only [PyData.hasDictAll]⟩
  | x :: r, h => by
    have h1 := h x (List.mem_cons_self ..)
    obtain ⟨h2, h3⟩ := shw_all (xs := r) fun q hq => h q (List.mem_cons_of_mem _ hq)
    constructor
    · simp only [PyData.showableAll, h1.s, h2, Bool.and_self]
    · simp only [PyData.hasDictAll, h1.h, h3, Bool.or_self]
theorem shw_tup {xs : List D} (h : ∀ x ∈ xs, Shw x) : Shw (.tuple xs) := ⟨by
  simp only [PyData.showable]
  exact (shw_all h).1, by
  simp only [PyData.hasDict]
  exact (shw_all h).2⟩
theorem shw_lst {xs : List D} (h : ∀ x ∈ xs, Shw x) : Shw (.list xs) := ⟨by
  simp only [PyData.showable]
  exact (shw_all h).1, by
  simp only [PyData.hasDict]
  exact (shw_all h).2⟩
theorem two_mem {α : Type} {P : α → Prop} {a b : α} (h1 : P a) (h2 : P b) : ∀ x ∈ [a, b], P x := fun x hx => by
  rcases List.mem_cons.mp hx with e | hx
  · rw [e]; exact h1
  · rcases List.mem_cons.mp hx with e | hx
    · rw [e]; exact h2
    · cases hx
theorem shw_eQ {r : Rat} (h : Sm r) : Shw (eQ r) := shw_tup (two_mem (shw_int h.1) (shw_int h.2))
theorem shw_eW {D M S : Nat} {x : Rw} (h : RB D M S x) (n : Ns D M) (hS : S ≤ 10000) : Shw (eW x) := by
  have a1 := h.lo
  have a2 := h.hi
  refine shw_tup (two_mem (shw_int (small_smI (by omega))) (shw_tup fun q hq => ?_))
  obtain ⟨r, hr, rfl⟩ := List.mem_map.mp hq
  exact shw_eQ (n.sm (h.bd r hr))
theorem shw_eT : ∀ t : Tr, Shw (eT t)
  | .lf => ⟨by simp only [eT, PyData.showable], by simp only [eT, PyData.hasDict]⟩
  | .nd a b => by
    unfold eT
    exact shw_tup (two_mem (shw_eT a) (shw_eT b))
theorem depth_all {n : Nat} : ∀ {xs : List D}, (∀ x ∈ xs, x.depth ≤ n) → PyData.depthAll xs ≤ n
  | [], _ => by simp only [PyData.depthAll]; exact Nat.zero_le _
  | x :: r, h => by
    simp only [PyData.depthAll]
    exact Nat.max_le.mpr ⟨h x (List.mem_cons_self ..), depth_all fun q hq => h q (List.mem_cons_of_mem _ hq)⟩
theorem depth_tup {n : Nat} {xs : List D} (h : ∀ x ∈ xs, x.depth ≤ n) : (PyData.tuple xs).depth ≤ n + 1 := by
  simp only [PyData.depth]
  exact Nat.succ_le_succ (depth_all h)
theorem depth_lst {n : Nat} {xs : List D} (h : ∀ x ∈ xs, x.depth ≤ n) : (PyData.list xs).depth ≤ n + 1 := by
  simp only [PyData.depth]
  exact Nat.succ_le_succ (depth_all h)
theorem depth_int (i : Int) (n : Nat) : (PyData.int i).depth ≤ n := by simp only [PyData.depth]; exact Nat.zero_le _
theorem depth_eW (x : Rw) : (eW x).depth ≤ 3 := depth_tup (two_mem (depth_int _ _) (depth_tup fun q hq => by
  obtain ⟨r, hr, rfl⟩ := List.mem_map.mp hq
  exact depth_tup (two_mem (depth_int _ _) (depth_int _ _))))
theorem depth_eT : ∀ t : Tr, (eT t).depth ≤ t.dep
  | .lf => by simp only [eT, PyData.depth]; exact Nat.zero_le _
  | .nd a b => by
    unfold eT Tr.dep
    exact depth_tup (two_mem (Nat.le_trans (depth_eT a) (Nat.le_max_left _ _)) (Nat.le_trans (depth_eT b) (Nat.le_max_right _ _)))
theorem op_repr_tn {t : Tr} (h : t.dep ≤ 4) {n : Nat} (hn : n < 2 ^ 64) : reprD (.list [eT t, .int (n : Nat)]) = some (.str (PyData.list [eT t, .int (n : Nat)]).shown) := by
  have si : SmI (n : Int) := small_smI (by rw [Int.natAbs_natCast]; exact hn)
  have s := shw_lst (two_mem (shw_eT t) (shw_int si))
  have d : (PyData.list [eT t, .int (n : Nat)]).depth ≤ 5 := depth_lst (two_mem (Nat.le_trans (depth_eT t) h) (depth_int _ _))
  have l : (PyData.list [eT t, .int (n : Nat)]).shown.length ≤ sizeLine := by
    have h1 := L_lst [eT t, .int (n : Nat)]
    have h2 := L_eT t
    have h3 := L_int si
    have h4 := lvs_big (t := t) (by omega)
    simp only [Ls] at h1
    have h5 : L (.list [eT t, .int (n : Nat)]) ≤ 10000 := by omega
    exact Nat.le_trans h5 (by decide)
  unfold reprD
  exact if_pos ⟨s.s, s.h, Nat.le_trans d (by decide), l⟩
theorem op_repr_rows {l : List Rw} (h : ∀ y ∈ l, ∃ D' M' S', RB D' M' S' y ∧ Ns D' M' ∧ S' ≤ 10000) (h1 : l.length ≤ 64) (h2 : (l.map fun y => y.2.length).sum ≤ 4000) : reprD (.tuple (l.map eW)) = some (.str (PyData.tuple (l.map eW)).shown) := by
  have s : Shw (.tuple (l.map eW)) := shw_tup fun q hq => by
    obtain ⟨y, hy, rfl⟩ := List.mem_map.mp hq
    obtain ⟨D', M', S', g1, g2, g3⟩ := h y hy
    exact shw_eW g1 g2 g3
  have d : (PyData.tuple (l.map eW)).depth ≤ 4 := depth_tup fun q hq => by
    obtain ⟨y, hy, rfl⟩ := List.mem_map.mp hq
    exact depth_eW y
  have ln : (PyData.tuple (l.map eW)).shown.length ≤ sizeLine := by
    have g1 := L_tup (l.map eW)
    have g2 := Ls_eW h
    have g3 : L (.tuple (l.map eW)) ≤ 16000000 := by omega
    exact Nat.le_trans g3 (by decide)
  unfold reprD
  exact if_pos ⟨s.s, s.h, Nat.le_trans d (by decide), ln⟩
theorem op_neS (s : Str) : neD (.str s) (.str s) = some (.bool false) := by
  unfold neD
  rw [if_pos ⟨rfl, rfl, Nat.zero_le _⟩]
  simp only [PyData.eqv]
  simp
end Bs.Mt
/-! MQ: the pair undone, the row led back. -/
namespace Bs.Mt
open PySem

theorem ns_of {D M a b : Nat} (h0 : 0 < D) (h1 : D ≤ 2 ^ a) (h2 : M ≤ 2 ^ b) (ha : a < 1900) (hb : b < 1900) : Ns D M :=
  ⟨h0, Nat.lt_of_le_of_lt h1 (Nat.pow_lt_pow_right (by decide) ha), Nat.lt_of_le_of_lt h2 (Nat.pow_lt_pow_right (by decide) hb)⟩
theorem mul_pow {x y a b : Nat} (h : x ≤ 2 ^ a) (k : y ≤ 2 ^ b) : x * y ≤ 2 ^ (a + b) := by
  rw [Nat.pow_add]
  exact Nat.mul_le_mul h k
theorem pow_le {x a b : Nat} (h : x ≤ 2 ^ a) (k : a ≤ b) : x ≤ 2 ^ b := Nat.le_trans h (Nat.pow_le_pow_right (by decide) k)
def qa (p : Rw × Rw) : Rw := halfR p.1 0
def qb (p : Rw × Rw) : Rw := movR (halfR p.1 1) 1
def qc (p : Rw × Rw) : Rw := halfR p.2 0
def qd (p : Rw × Rw) : Rw := movR (halfR p.2 1) 1
def detR (p : Rw × Rw) : Rw := lessR (mulR (qa p) (qd p)) (mulR (qb p) (qc p))
section
variable {p : Rw × Rw}
theorem parts_rb {D M : Nat} (h : PB D M 7 p) : RB D M 5 (qa p) ∧ RB D M 5 (qb p) ∧ RB D M 5 (qc p) ∧ RB D M 5 (qd p) :=
  ⟨rb_mono (rb_half h.a (.inl rfl)) (Nat.le_refl _) (by decide), rb_mov1 (rb_half h.a (.inr rfl)), rb_mono (rb_half h.b (.inl rfl)) (Nat.le_refl _) (by decide), rb_mov1 (rb_half h.b (.inr rfl))⟩
theorem F_law_parts_ok {D M : Nat} (h : PB D M 7 p) (m : Mm) : F_law_parts [.d (eP p)] m = some (.list [.list [eW (qa p), eW (qb p)], .list [eW (qc p), eW (qd p)]], m) := by
  have a1 := F_law_half_ok h.a (by decide) 0 (.inl rfl) m
  have a2 := F_law_half_ok h.a (by decide) 1 (.inr rfl) m
  have a3 := F_law_moved_ok (halfR p.1 1) 1 m
  have b1 := F_law_half_ok h.b (by decide) 0 (.inl rfl) m
  have b2 := F_law_half_ok h.b (by decide) 1 (.inr rfl) m
  have b3 := F_law_moved_ok (halfR p.2 1) 1 m
  have hc : ∀ e : En, e.length = 2 → compG e 1 gtYes (gList (glD (glc (gCall (F_law_half) (gac (gVar 1) (gac (gC (.int 0)) (ga0)))) (glc (gCall (F_law_moved) (gac (gCall (F_law_half) (gac (gVar 1) (gac (gC (.int 1)) (ga0)))) (gac (gC (.int 1)) (ga0)))) (gl0))))) [eW p.1, eW p.2] m [] =
      some ([.list [eW (qa p), eW (qb p)], .list [eW (qc p), eW (qd p)]], m) := by
    intro e f1
    have g1 : ∀ v : Option Sl, (e.set 1 v)[1]? = some v := fun v => List.getElem?_set_self (by omega)
    exact comp_map (e := e) (j := 1) (m := m) eW (fun q => PyData.list [eW (halfR q 0), eW (movR (halfR q 1) 1)]) [p.1, p.2] (fun q hq => by
      rcases List.mem_cons.mp hq with e1 | hq
      · subst e1
        simp [g1, a1, a2, a3]
      · rcases List.mem_cons.mp hq with e1 | hq
        · subst e1
          simp [g1, b1, b2, b3]
        · cases hq) (show 2 ≤ big by decide)
  have ep : eP p = .tuple [eW p.1, eW p.2] := rfl
  rw [ep]
  simp [F_law_parts, g_law_parts, hc]
@[simp] theorem ap_ggL {n : Nat} {g : GGs} {xs : List D} {e : En} {m : Mm} : ggL n g (.list xs) e m = if xs.length = n then g xs e m else none := rfl
/-- the law's pairs -/
abbrev PBk (p : Rw × Rw) : Prop := PB 3600 (2 ^ 30) 7 p
theorem nsk : Ns 3600 (2 ^ 30) := ns_of (a := 12) (b := 30) (by decide) (by decide) (Nat.le_refl _) (by decide) (by decide)
theorem nsd : Ns (3600 * 3600) ((2 * 5 + 1) * (2 * 5 + 1) * (2 ^ 30 * 2 ^ 30)) := ns_of (a := 24) (b := 67) (by decide) (by decide) (by decide) (by decide) (by decide)
theorem det_rb (h : PBk p) : RB (3600 * 3600) (2 ^ 68) 10 (detR p) := by
  obtain ⟨ha, hb, hc, hd⟩ := parts_rb h
  exact rb_mono (rb_less (rb_mul ha hd) (rb_mul hb hc)) (by decide) (by decide)
theorem F_law_det_ok (h : PBk p) (m : Mm) : F_law_det [.d (eP p)] m = some (eW (detR p), m) := by
  obtain ⟨ha, hb, hc, hd⟩ := parts_rb h
  have e1 := F_law_parts_ok h m
  have e2 := F_law_times_ok ha hd nsk nsk nsd (by decide) m
  have e3 := F_law_times_ok hb hc nsk nsk nsd (by decide) m
  have e4 := F_law_less_ok (rb_mul ha hd) (rb_mul hb hc) nsd nsd (by decide) (by decide) m
  unfold detR
  simp [F_law_det, g_law_det, e1, e2, e3, e4]
def byR (d : Rw) (r : Rat) : Rw := (-d.1, [r⁻¹])
def lsR (d : Rw) (r : Rat) : Rw := (-d.1, [r⁻¹ * (-1)])
def undR (p : Rw × Rw) (r : Rat) : Rw × Rw :=
  (addR (wideR (mulR (qd p) (byR (detR p) r))) (movR (wideR (mulR (qc p) (lsR (detR p) r))) 1), addR (wideR (mulR (qb p) (lsR (detR p) r))) (movR (wideR (mulR (qa p) (byR (detR p) r))) 1))
theorem rb_one {D M S : Nat} {s : Int} {r : Rat} (h : Bd D M r) (hr : r ≠ 0) (h1 : -(S : Int) ≤ s) (h2 : s ≤ S) : RB D M S (s, [r]) :=
  ⟨fun z => (List.cons_ne_nil _ _ z).elim, fun q hq => (show r = q by simpa using hq) ▸ hr, fun q hq => (show r = q by simpa using hq) ▸ hr, h1, by show s + 1 ≤ S + 1; omega, fun q hq => (show r = q from (List.mem_singleton.mp hq).symm) ▸ h⟩
theorem bd_inv {D M : Nat} {r : Rat} (hD : 0 < D) (h : Bd D M r) (hr : r ≠ 0) : Bd r.num.natAbs D r⁻¹ ∧ 0 < r.num.natAbs ∧ r.num.natAbs ≤ M ∧ r.den ≤ D := by
  obtain ⟨q, e, l⟩ := bd_cross h
  have hn : r.num ≠ 0 := fun z => hr (Rat.num_eq_zero.mp z)
  have hq : 0 < q := by
    rcases Nat.eq_zero_or_pos q with z | z
    · rw [z, Nat.mul_zero] at e
      omega
    · exact z
  have hden : r.den ≤ D := by
    rw [e]
    exact Nat.le_mul_of_pos_right _ hq
  have hnum : r.num.natAbs ≤ M := Nat.le_trans (Nat.le_mul_of_pos_right _ hq) l
  refine ⟨⟨r.num.sign * r.den, ?_, ?_⟩, by omega, hnum, hden⟩
  · have h1 := Rat.mul_inv_cancel r hr
    have h2 := rat_den_mul r
    have h3 : ((r.num.natAbs : Nat) : Rat) = ((r.num.sign : Int) : Rat) * ((r.num : Int) : Rat) := by
      rw [← Rat.intCast_mul, Int.sign_mul_self, Rat.intCast_natCast]
    rw [h3, ← h2, Rat.intCast_mul, Rat.intCast_natCast]
    have : r⁻¹ * (((r.num.sign : Int) : Rat) * (r * ((r.den : Nat) : Rat))) = (r * r⁻¹) * (((r.num.sign : Int) : Rat) * ((r.den : Nat) : Rat)) := by grind
    rw [this, h1, Rat.one_mul]
  · rw [Int.natAbs_mul, Int.natAbs_natCast, Int.natAbs_sign_of_ne_zero hn, Nat.one_mul]
    exact hden
theorem F_law_undone_ok (h : PBk p) {r : Rat} (hr : (detR p).2[0]? = some r) (m : Mm) :
    F_law_undone [.d (eP p)] m = some (eP (undR p r), m) ∧ ∃ Du, 0 < Du ∧ Du ≤ 2 ^ 80 ∧ PB Du (2 ^ 63) 31 (undR p r) := by
  obtain ⟨ha, hb, hc, hd⟩ := parts_rb h
  have T := det_rb h
  have r0 := T.hd r hr
  have rb := T.bd r (List.mem_of_getElem? hr)
  obtain ⟨i1, i2, i3, i4⟩ := bd_inv (by decide) rb r0
  have t1 := T.lo
  have t2 := T.hi
  have tl : 1 ≤ (detR p).2.length := (List.getElem?_eq_some_iff.mp hr).1
  have ri : r⁻¹ ≠ 0 := fun z => by
    have := Rat.mul_inv_cancel r r0
    rw [z, Rat.mul_zero] at this
    exact absurd this (by decide)
  have in1 : Bd r.num.natAbs (3600 * 3600) (r⁻¹ * (-1)) := by
    obtain ⟨z, z1, z2⟩ := i1
    exact ⟨-z, by rw [Rat.intCast_neg, ← z1]; grind, by rw [Int.natAbs_neg]; exact z2⟩
  have ri2 : r⁻¹ * (-1) ≠ 0 := fun z => by
    rcases Rat.mul_eq_zero.mp z with z | z
    · exact ri z
    · exact absurd z (by decide)
  have By : RB r.num.natAbs (3600 * 3600) 10 (byR (detR p) r) := rb_one i1 ri (by omega) (by omega)
  have Ls : RB r.num.natAbs (3600 * 3600) 10 (lsR (detR p) r) := rb_one in1 ri2 (by omega) (by omega)
  have nb : Ns r.num.natAbs (3600 * 3600) := ns_of (a := 68) (b := 24) i2 i3 (by decide) (by decide) (by decide)
  have nm : Ns (3600 * r.num.natAbs) ((2 * 5 + 1) * (2 * 10 + 1) * (2 ^ 30 * (3600 * 3600))) := ns_of (a := 12 + 68) (b := 62) (Nat.mul_pos (by decide) i2) (mul_pow (by decide) i3) (by decide) (by decide) (by decide)
  have nsT : Ns (3600 * 3600) (2 ^ 68) := ns_of (a := 24) (b := 68) (by decide) (by decide) (Nat.le_refl _) (by decide) (by decide)
  have e1 := F_law_parts_ok h m
  have e2 := F_law_det_ok h m
  have e3 := F_law_per_ok r0 (nsT.sm rb) m
  have e4 := F_law_prod_ok (nb.sm i1) sm_neg1 m
  rw [eQ_neg1] at e4
  have m1 := F_law_times_ok hd By nsk nb nm (by decide) m
  have m2 := F_law_times_ok hc Ls nsk nb nm (by decide) m
  have m3 := F_law_times_ok hb Ls nsk nb nm (by decide) m
  have m4 := F_law_times_ok ha By nsk nb nm (by decide) m
  have w1 := F_law_wide_ok (rb_mul hd By) (by decide) m
  have w2 := F_law_wide_ok (rb_mul hc Ls) (by decide) m
  have w3 := F_law_wide_ok (rb_mul hb Ls) (by decide) m
  have w4 := F_law_wide_ok (rb_mul ha By) (by decide) m
  have v2 := F_law_moved_ok (wideR (mulR (qc p) (lsR (detR p) r))) 1 m
  have v4 := F_law_moved_ok (wideR (mulR (qa p) (byR (detR p) r))) 1 m
  have s1 := F_law_sum_ok (rb_wide (rb_mul hd By)) (rb_mov1 (rb_wide (rb_mul hc Ls))) nm nm (by decide) (by decide) m
  have s2 := F_law_sum_ok (rb_wide (rb_mul hb Ls)) (rb_mov1 (rb_wide (rb_mul ha By))) nm nm (by decide) (by decide) m
  have d0 : atD ((detR p).2.map eQ) 0 = some (eQ r) := atD_map (k := 0) hr
  have eb : PyData.tuple [.int (-(detR p).1), .tuple [eQ r⁻¹]] = eW (byR (detR p) r) := rfl
  have el : PyData.tuple [.int (-(detR p).1), .tuple [eQ (r⁻¹ * (-1))]] = eW (lsR (detR p) r) := rfl
  constructor
  · have eu : eP (undR p r) = .tuple [eW (undR p r).1, eW (undR p r).2] := rfl
    rw [eu]
    have ib : ∀ d : Rw, idxD (eW (byR d r)) (.int 0) = some (.int (-d.1)) := fun d => idx_eW0 _
    have ib1 : ∀ d : Rw, idxD (eW (byR d r)) (.int 1) = some (.tuple [eQ r⁻¹]) := fun d => idx_eW1 _
    simp [F_law_undone, g_law_undone, e1, e2, d0, e3, eb, ib, ib1, e4, el, m1, m2, m3, m4, w1, w2, w3, w4, v2, v4, s1, s2, undR]
  · refine ⟨3600 * r.num.natAbs, Nat.mul_pos (by decide) i2, mul_pow (a := 12) (b := 68) (by decide) i3, ?_, ?_⟩
    · exact rb_mono (rb_add (rb_wide (rb_mul hd By)) (rb_mov1 (rb_wide (rb_mul hc Ls)))) (by decide) (by decide)
    · exact rb_mono (rb_add (rb_wide (rb_mul hb Ls)) (rb_mov1 (rb_wide (rb_mul ha By)))) (by decide) (by decide)
end
end Bs.Mt
/-! MR: the row led back. -/
namespace Bs.Mt
open PySem

theorem F_bush_leaves_ok (m : Mm) : ∀ (n : Nat) (t : Tr), t.dep < n → F_law_bush_leaves n [.d (eT t)] m = some (.int (t.lvs : Nat), m)
  | 0, _, h => absurd h (Nat.not_lt_zero _)
  | n + 1, .lf, _ => by
    simp [F_law_bush_leaves, g_law_bush_leaves, eT, Tr.lvs]
  | n + 1, .nd a b, h => by
    unfold Tr.dep at h
    have c1 := F_bush_leaves_ok m n a (by omega)
    have c2 := F_bush_leaves_ok m n b (by omega)
    simp [F_law_bush_leaves, g_law_bush_leaves, eT, Tr.lvs, c1, c2]
def uniR (u : Rw × Rw) (y z : Rw) : Rw := addR (mulR u.1 (wideR y)) (mulR u.2 (wideR z))
def ledB (u : Rw × Rw) : Tr → List Rw → Rw
  | .lf, rows => rows.headD (0, [])
  | .nd a b, rows => uniR u (ledB u a (rows.take a.lvs)) (ledB u b (rows.drop a.lvs))
def Mk (k : Nat) : Nat := 2 ^ (12 + 80 * k)
def Sk : Nat → Nat
  | 0 => 1
  | k + 1 => 31 + 2 * Sk k
theorem sk_le : ∀ {k : Nat}, k ≤ 3 → Sk k ≤ 225
  | 0, _ => by decide
  | 1, _ => by decide
  | 2, _ => by decide
  | 3, _ => by decide
  | k + 4, h => by omega
theorem sk_one : ∀ k : Nat, 1 ≤ Sk k
  | 0 => Nat.le_refl 1
  | k + 1 => by
    show 1 ≤ 31 + 2 * Sk k
    omega
section
variable {u : Rw × Rw} {Du : Nat}
theorem du_pow (h0 : 0 < Du) (h : Du ≤ 2 ^ 80) : ∀ k : Nat, 0 < Du ^ k * 60 ∧ Du ^ k * 60 ≤ 2 ^ (80 * k + 6)
  | 0 => by
    rw [Nat.pow_zero]
    decide
  | k + 1 => by
    obtain ⟨h1, h2⟩ := du_pow h0 h k
    rw [Nat.pow_succ, Nat.mul_right_comm]
    refine ⟨Nat.mul_pos h1 h0, ?_⟩
    rw [show 80 * (k + 1) + 6 = 80 * k + 6 + 80 by omega]
    exact mul_pow h2 h
theorem ns_k (h0 : 0 < Du) (h : Du ≤ 2 ^ 80) {k : Nat} (hk : k ≤ 4) : Ns (Du ^ k * 60) (Mk k) :=
  ns_of (a := 80 * k + 6) (b := 12 + 80 * k) (du_pow h0 h k).1 (du_pow h0 h k).2 (Nat.le_refl _) (by omega) (by omega)
/-- a leaf at the k-th denominator -/
theorem leaf_rb (h0 : 0 < Du) (h : Du ≤ 2 ^ 80) : ∀ {k : Nat} {x : Rw}, RB 60 3600 1 x → RB (Du ^ k * 60) (Mk k) (Sk k) x
  | 0, x, hx => by
    have := rb_mono hx (show 3600 ≤ Mk 0 by decide) (show 1 ≤ Sk 0 by decide)
    rwa [show Du ^ 0 * 60 = 60 by simp]
  | k + 1, x, hx => by
    have ih := leaf_rb h0 h (k := k) hx
    have h1 := sk_one k
    have e : Du ^ (k + 1) * 60 = Du ^ k * 60 * Du := by rw [Nat.pow_succ, Nat.mul_right_comm]
    rw [e]
    refine ⟨ih.z, ih.hd, ih.la, ?_, ?_, fun r hr => bd_mono (bd_scale (ih.bd r hr)) ?_⟩
    · have := ih.lo
      show -((31 + 2 * Sk k : Nat) : Int) ≤ _
      omega
    · have := ih.hi
      show _ ≤ ((31 + 2 * Sk k : Nat) : Int) + 1
      omega
    · unfold Mk
      rw [show 12 + 80 * (k + 1) = 12 + 80 * k + 80 by omega]
      exact mul_pow (Nat.le_refl _) (pow_le h (by decide))
theorem uni_rb (hu : PB Du (2 ^ 63) 31 u) {k : Nat} (hk : k ≤ 2) {y z : Rw} (hy : RB (Du ^ k * 60) (Mk k) (Sk k) y) (hz : RB (Du ^ k * 60) (Mk k) (Sk k) z) : RB (Du ^ (k + 1) * 60) (Mk (k + 1)) (Sk (k + 1)) (uniR u y z) := by
  have e : Du ^ (k + 1) * 60 = Du * (Du ^ k * 60) := by rw [Nat.pow_succ, Nat.mul_right_comm, Nat.mul_comm]
  have hs := sk_le (k := k) (by omega)
  have r := rb_add (rb_mul hu.a (rb_wide hy)) (rb_mul hu.b (rb_wide hz))
  rw [e]
  refine rb_mono r ?_ (by rw [Nat.max_self]; exact Nat.le_refl _)
  have h1 : (2 * 31 + 1) * (2 * (2 * Sk k) + 1) ≤ 2 ^ 16 := by
    have : (2 * 31 + 1) * (2 * (2 * Sk k) + 1) ≤ 63 * 901 := Nat.mul_le_mul (by decide) (by omega)
    exact Nat.le_trans this (by decide)
  have h2 : (2 * 31 + 1) * (2 * (2 * Sk k) + 1) * (2 ^ 63 * Mk k) ≤ 2 ^ (16 + (63 + (12 + 80 * k))) := mul_pow h1 (mul_pow (Nat.le_refl _) (Nat.le_refl _))
  have key := Nat.add_le_add h2 h2
  have e2 : Mk (k + 1) = 2 ^ (16 + (63 + (12 + 80 * k))) + 2 ^ (16 + (63 + (12 + 80 * k))) := by
    unfold Mk
    rw [show 12 + 80 * (k + 1) = (16 + (63 + (12 + 80 * k))) + 1 by omega, Nat.pow_succ]
    omega
  rw [e2]
  exact key
theorem F_uni_ok (h0 : 0 < Du) (h : Du ≤ 2 ^ 80) (hu : PB Du (2 ^ 63) 31 u) {k : Nat} (hk : k ≤ 2) {y z : Rw} (hy : RB (Du ^ k * 60) (Mk k) (Sk k) y) (hz : RB (Du ^ k * 60) (Mk k) (Sk k) z) (m : Mm) :
    F_law_united [.d (eP u), .d (.tuple [eW y, eW z])] m = some (eW (uniR u y z), m) := by
  have hs := sk_le (k := k) (by omega)
  have nu : Ns Du (2 ^ 63) := ns_of (a := 80) (b := 63) h0 h (Nat.le_refl _) (by decide) (by decide)
  have nk := ns_k h0 h (k := k) (by omega)
  have h1 : (2 * 31 + 1) * (2 * (2 * Sk k) + 1) ≤ 2 ^ 16 := by
    have : (2 * 31 + 1) * (2 * (2 * Sk k) + 1) ≤ 63 * 901 := Nat.mul_le_mul (by decide) (by omega)
    exact Nat.le_trans this (by decide)
  obtain ⟨p1, p2⟩ := du_pow h0 h k
  have nm : Ns (Du * (Du ^ k * 60)) ((2 * 31 + 1) * (2 * (2 * Sk k) + 1) * (2 ^ 63 * Mk k)) := ns_of (a := 80 + (80 * k + 6)) (b := 16 + (63 + (12 + 80 * k))) (Nat.mul_pos h0 p1) (mul_pow h p2) (mul_pow h1 (mul_pow (Nat.le_refl _) (Nat.le_refl _))) (by omega) (by omega)
  have w1 := F_law_wide_ok hy (by omega) m
  have w2 := F_law_wide_ok hz (by omega) m
  have m1 := F_law_times_ok hu.a (rb_wide hy) nu nk nm (by omega) m
  have m2 := F_law_times_ok hu.b (rb_wide hz) nu nk nm (by omega) m
  have s1 := F_law_sum_ok (rb_mul hu.a (rb_wide hy)) (rb_mul hu.b (rb_wide hz)) nm nm (by omega) (by omega) m
  unfold uniR
  simp [F_law_united, g_law_united, w1, w2, m1, m2, s1]
theorem ledB_rb (h0 : 0 < Du) (h : Du ≤ 2 ^ 80) (hu : PB Du (2 ^ 63) 31 u) : ∀ (t : Tr) (k : Nat) (rows : List Rw), t.dep ≤ k → k ≤ 3 → (∀ y ∈ rows, RB 60 3600 1 y) → RB (Du ^ k * 60) (Mk k) (Sk k) (ledB u t rows)
  | .lf, k, rows, _, _, hr => by
    cases rows with
    | nil => exact rb_zero
    | cons y r => exact leaf_rb h0 h (hr y (List.mem_cons_self ..))
  | .nd a b, k, rows, hd, hk, hr => by
    unfold Tr.dep at hd
    obtain ⟨j, rfl⟩ : ∃ j, k = j + 1 := ⟨k - 1, by omega⟩
    exact uni_rb hu (by omega) (ledB_rb h0 h hu a j _ (by omega) (by omega) fun y hy => hr y (List.mem_of_mem_take hy)) (ledB_rb h0 h hu b j _ (by omega) (by omega) fun y hy => hr y (List.mem_of_mem_drop hy))
theorem cut_lo {xs : List D} {c : Nat} (h : c ≤ xs.length) : cutD xs none (some (c : Int)) = xs.take c := by
  unfold cutD sxD
  simp only []
  rw [if_neg (by omega), List.drop_zero, Int.toNat_natCast, Nat.min_eq_left h, Nat.sub_zero]
theorem cut_hi {xs : List D} {c : Nat} (h : c ≤ xs.length) : cutD xs (some (c : Int)) none = xs.drop c := by
  unfold cutD sxD
  simp only []
  rw [if_neg (by omega), Int.toNat_natCast, Nat.min_eq_left h, List.take_of_length_le (by rw [List.length_drop]; exact Nat.le_refl _)]
theorem F_led_back_ok (h0 : 0 < Du) (h : Du ≤ 2 ^ 80) (hu : PB Du (2 ^ 63) 31 u) (m : Mm) : ∀ (n : Nat) (t : Tr) (k : Nat) (rows : List Rw), t.dep ≤ k → k ≤ 3 → k < n → rows.length = t.lvs → (∀ y ∈ rows, RB 60 3600 1 y) →
    F_law_led_back n [.d (eP u), .d (eT t), .d (.list (rows.map eW))] m = some (eW (ledB u t rows), m)
  | 0, _, _, _, _, _, h, _, _ => absurd h (Nat.not_lt_zero _)
  | n + 1, .lf, k, rows, hd, hk, hn, hl, hr => by
    cases rows with
    | nil => simp [Tr.lvs] at hl
    | cons y r =>
      simp [F_law_led_back, g_law_led_back, eT, ledB]
  | n + 1, .nd a b, k, rows, hd, hk, hn, hl, hr => by
    unfold Tr.dep at hd
    obtain ⟨j, rfl⟩ : ∃ j, k = j + 1 := ⟨k - 1, by omega⟩
    have hla : a.lvs ≤ rows.length := by
      rw [hl]
      exact Nat.le_add_right _ _
    have hl2 : rows.length = a.lvs + b.lvs := hl
    have c0 := F_bush_leaves_ok m 6 a (by omega)
    have c1 := F_led_back_ok h0 h hu m n a j (rows.take a.lvs) (by omega) (by omega) (by omega) (by rw [List.length_take]; omega) fun y hy => hr y (List.mem_of_mem_take hy)
    have c2 := F_led_back_ok h0 h hu m n b j (rows.drop a.lvs) (by omega) (by omega) (by omega) (by rw [List.length_drop]; omega) fun y hy => hr y (List.mem_of_mem_drop hy)
    have k1 := cut_lo (xs := rows.map eW) (c := a.lvs) (by rw [List.length_map]; exact hla)
    have k2 := cut_hi (xs := rows.map eW) (c := a.lvs) (by rw [List.length_map]; exact hla)
    rw [List.map_take] at c1
    rw [List.map_drop] at c2
    have e1 := F_uni_ok h0 h hu (k := j) (by omega) (ledB_rb h0 h hu a j (rows.take a.lvs) (by omega) (by omega) fun y hy => hr y (List.mem_of_mem_take hy)) (ledB_rb h0 h hu b j (rows.drop a.lvs) (by omega) (by omega) fun y hy => hr y (List.mem_of_mem_drop hy)) m
    unfold ledB
    simp [F_law_led_back, g_law_led_back, eT, c0, k1, k2, c1, c2, e1]
end
end Bs.Mt
/-! MS: the law's pairs have a determinant. -/
namespace Bs.Mt
open PySem

theorem cf_nil {s k : Int} : cf (s, []) k = 0 := by
  unfold cf
  split <;> rfl
theorem cf_trim (s : Int) (l : List Rat) (k : Int) : cf (trim s l) k = cf (s, l) k := by
  rcases trim_cases s l with ⟨h, e⟩ | ⟨a, b, hab, hb, g1, g2, g3, g4, e⟩
  · rw [e, cf_nil]
    unfold cf
    split
    · show 0 = (l[(k - s).toNat]?).getD 0
      cases q : l[(k - s).toNat]? with
      | none => rfl
      | some x => exact (h x (List.mem_of_getElem? q)).symm
    · rfl
  · rw [e]
    unfold cf
    show (if s + (a : Int) ≤ k then (((l.drop a).take (b + 1 - a))[(k - (s + a)).toNat]?).getD 0 else 0) = if s ≤ k then (l[(k - s).toNat]?).getD 0 else 0
    by_cases h1 : s + (a : Int) ≤ k
    · rw [if_pos h1, if_pos (by omega)]
      by_cases h2 : (k - (s + a)).toNat < b + 1 - a
      · rw [List.getElem?_take_of_lt h2, List.getElem?_drop, show a + (k - (s + a)).toNat = (k - s).toNat by omega]
      · rw [List.getElem?_eq_none (by rw [List.length_take]; omega)]
        cases q : l[(k - s).toNat]? with
        | none => rfl
        | some x => rw [g4 _ x (by omega) q]; rfl
    · rw [if_neg h1]
      split
      · rw [g1 _ (by omega)]
        rfl
      · rfl
theorem cf_half (x : Rw) (o k : Int) : cf (halfR x o) k = cf x (2 * k + o) := by
  unfold halfR
  rw [cf_trim, fdiv2]
  have hf : (first x o - o) % 2 = 0 ∧ x.1 ≤ first x o ∧ first x o ≤ x.1 + 1 := by
    unfold first
    omega
  unfold cf
  show (if (first x o - o) / 2 ≤ k then ((halfL x o)[(k - (first x o - o) / 2).toNat]?).getD 0 else 0) = if x.1 ≤ 2 * k + o then (x.2[(2 * k + o - x.1).toNat]?).getD 0 else 0
  by_cases h : (first x o - o) / 2 ≤ k
  · rw [if_pos h, if_pos (by omega)]
    unfold halfL
    rw [alt2_get, List.getElem?_drop]
    congr 2
    omega
  · rw [if_neg h, if_neg (by omega)]
theorem cf_empty {x : Rw} (h : x.2 = []) (k : Int) : cf x k = 0 := by
  unfold cf
  rw [h]
  split <;> rfl
theorem cf_add {D M N S T : Nat} {x y : Rw} (hx : RB D M S x) (hy : RB D N T y) (k : Int) : cf (addR x y) k = cf x k + cf y k := by
  unfold addR
  by_cases h2 : y.2 = []
  · rw [if_pos (.inr h2), if_pos h2, cf_empty h2, Rat.add_zero]
  by_cases h1 : x.2 = []
  · rw [if_pos (.inl h1), if_neg h2, cf_empty h1, Rat.zero_add]
  rw [if_neg (by simp [h1, h2]), cf_trim]
  have p1 : 0 < x.2.length := List.length_pos_iff.mpr h1
  have p2 : 0 < y.2.length := List.length_pos_iff.mpr h2
  have q1 : mnR x y ≤ x.1 ∧ mnR x y ≤ y.1 := by
    unfold mnR
    split <;> omega
  have q2 : x.1 + x.2.length ≤ mxR x y ∧ y.1 + y.2.length ≤ mxR x y := by
    unfold mxR
    split <;> omega
  by_cases h : mnR x y ≤ k ∧ k < mxR x y
  · obtain ⟨j, hj⟩ : ∃ j : Nat, k = mnR x y + j := ⟨(k - mnR x y).toNat, by omega⟩
    have e : (sumL x y)[j]? = some (cf x k + cf y k) := by
      unfold sumL
      rw [List.getElem?_map, List.getElem?_range (by omega), hj]
      rfl
    have := cf_in (x := (mnR x y, sumL x y)) e
    rw [← hj] at this
    exact this
  · rw [cf_out (x := (mnR x y, sumL x y)) (by
      show ¬ (mnR x y ≤ k ∧ k < mnR x y + ((sumL x y).length : Int))
      unfold sumL
      rw [List.length_map, List.length_range]
      omega), cf_out (x := x) (by omega), cf_out (x := y) (by omega), Rat.zero_add]
theorem cf_wide_odd (x : Rw) (k : Int) : cf (wideR x) (2 * k + 1) = 0 := by
  unfold cf wideR
  show (if 2 * x.1 ≤ 2 * k + 1 then ((wideL x.2)[(2 * k + 1 - 2 * x.1).toNat]?).getD 0 else 0) = 0
  by_cases h : 2 * x.1 ≤ 2 * k + 1
  · rw [if_pos h, show (2 * k + 1 - 2 * x.1).toNat = 2 * (k - x.1).toNat + 1 by omega]
    rcases (wideL_get x.2 (k - x.1).toNat).2 with e | e <;> rw [e] <;> rfl
  · rw [if_neg h]
theorem convs_single (r : Rat) : ∀ (l A : List Rat), convs (A ++ List.replicate l.length 0) (l.zipIdx A.length) [r] = A ++ l.map (· * r)
  | [], A => by simp [convs]
  | a :: l, A => by
    have ih := convs_single r l (A ++ [a * r])
    rw [List.zipIdx_cons]
    have e1 : convRow (A ++ List.replicate (l.length + 1) 0) A.length a [r].zipIdx = A ++ [a * r] ++ List.replicate l.length 0 := by
      show addAt (A ++ List.replicate (l.length + 1) 0) (A.length + 0) (a * r) = _
      simp only [addAt, Nat.add_zero, List.replicate_succ]
      rw [List.getElem?_append_right (Nat.le_refl _), Nat.sub_self, List.set_append_right _ _ (Nat.le_refl _), Nat.sub_self]
      simp [Rat.zero_add]
    show convs (convRow (A ++ List.replicate (l.length + 1) 0) A.length a [r].zipIdx) (l.zipIdx (A.length + 1)) [r] = _
    rw [e1]
    rw [List.length_append, List.length_singleton] at ih
    rw [ih]
    simp
theorem conv_single (l : List Rat) (r : Rat) : conv l [r] = l.map (· * r) := by
  have := convs_single r l []
  unfold conv
  simpa using this
theorem cf_mul_single (x : Rw) (s : Int) (r : Rat) (k : Int) : cf (mulR x (s, [r])) k = cf x (k - s) * r := by
  unfold mulR
  by_cases h : x.2 = []
  · rw [if_pos (.inl h), cf_nil, cf_empty h, Rat.zero_mul]
  · rw [if_neg (by simp [h]), cf_trim]
    show cf (x.1 + s, conv x.2 [r]) k = _
    rw [conv_single]
    unfold cf
    show (if x.1 + s ≤ k then ((x.2.map (· * r))[(k - (x.1 + s)).toNat]?).getD 0 else 0) = (if x.1 ≤ k - s then (x.2[(k - s - x.1).toNat]?).getD 0 else 0) * r
    by_cases h1 : x.1 + s ≤ k
    · rw [if_pos h1, if_pos (by omega), List.getElem?_map, show (k - (x.1 + s)).toNat = (k - s - x.1).toNat by omega]
      cases q : x.2[(k - s - x.1).toNat]? with
      | none => simp
      | some z => rfl
    · rw [if_neg h1, if_neg (by omega), Rat.zero_mul]
theorem cf_ne {x : Rw} {k : Int} (h : cf x k ≠ 0) : x.2 ≠ [] := fun z => h (cf_empty z k)
theorem rb_all0 {D M S : Nat} {x : Rw} (hx : RB D M S x) (h : ∀ k, cf x k = 0) : x = (0, []) := by
  have h2 : x.2 = [] := by
    cases q : x.2 with
    | nil => rfl
    | cons a r =>
      have e : x.2[0]? = some a := by rw [q]; rfl
      have := cf_in (k := 0) e
      rw [h] at this
      exact absurd this.symm (hx.hd a e)
  have h1 := hx.z h2
  exact Prod.ext h1 h2
/-- the first place of a product -/
theorem convRow_keep {i : Nat} {a : Rat} : ∀ (ps : List (Rat × Nat)) (f : List Rat), (∀ p ∈ ps, 0 < i + p.2) → (convRow f i a ps)[0]? = f[0]?
  | [], _, _ => rfl
  | p :: ps, f, h => by
    have h1 := h p (List.mem_cons_self ..)
    have ih := convRow_keep (i := i) (a := a) ps (addAt f (i + p.2) (a * p.1)) fun q hq => h q (List.mem_cons_of_mem _ hq)
    show (convRow (addAt f (i + p.2) (a * p.1)) i a ps)[0]? = _
    rw [ih]
    unfold addAt
    rw [List.getElem?_set_ne (by omega)]
theorem convs_keep {ys : List Rat} : ∀ (ps : List (Rat × Nat)) (f : List Rat), (∀ p ∈ ps, 0 < p.2) → (convs f ps ys)[0]? = f[0]?
  | [], _, _ => rfl
  | p :: ps, f, h => by
    have h1 := h p (List.mem_cons_self ..)
    have ih := convs_keep (ys := ys) ps (convRow f p.2 p.1 ys.zipIdx) fun q hq => h q (List.mem_cons_of_mem _ hq)
    show (convs (convRow f p.2 p.1 ys.zipIdx) ps ys)[0]? = _
    rw [ih]
    exact convRow_keep _ _ fun q _ => by omega
theorem zip_pos {l : List Rat} {n : Nat} {p : Rat × Nat} (h : p ∈ l.zipIdx n) : n ≤ p.2 := by
  have := List.le_snd_of_mem_zipIdx h
  exact this
theorem conv_first {x y : Rat} {xs ys : List Rat} : (conv (x :: xs) (y :: ys))[0]? = some (x * y) := by
  unfold conv
  rw [List.zipIdx_cons]
  show (convs (convRow _ 0 x (y :: ys).zipIdx) (xs.zipIdx (0 + 1)) (y :: ys))[0]? = _
  rw [convs_keep _ _ fun p hp => zip_pos hp, List.zipIdx_cons]
  show (convRow (addAt _ (0 + 0) (x * y)) 0 x (ys.zipIdx (0 + 1)))[0]? = _
  rw [convRow_keep _ _ fun p hp => by have := zip_pos hp; omega]
  unfold addAt
  rw [List.length_cons, List.length_cons, show xs.length + 1 + (ys.length + 1) - 1 = xs.length + ys.length + 1 by omega, List.replicate_succ]
  simp [Rat.zero_add]
theorem mul_ne {D M S E N T : Nat} {x y : Rw} (hx : RB D M S x) (hy : RB E N T y) (h1 : x.2 ≠ []) (h2 : y.2 ≠ []) : (mulR x y).2 ≠ [] := by
  unfold mulR
  rw [if_neg (by simp [h1, h2])]
  cases q1 : x.2 with
  | nil => exact absurd q1 h1
  | cons a xs =>
    cases q2 : y.2 with
    | nil => exact absurd q2 h2
    | cons b ys =>
      have n1 := hx.hd a (by rw [q1]; rfl)
      have n2 := hy.hd b (by rw [q2]; rfl)
      have e := conv_first (x := a) (y := b) (xs := xs) (ys := ys)
      refine cf_ne (k := x.1 + y.1) ?_
      rw [cf_trim]
      have := cf_in (x := (x.1 + y.1, conv (a :: xs) (b :: ys))) (k := 0) e
      rw [Int.natCast_zero, Int.add_zero] at this
      rw [this]
      intro z
      rcases Rat.mul_eq_zero.mp z with z | z
      · exact n1 z
      · exact n2 z
theorem mov_ne {x : Rw} {n : Int} (h : x.2 ≠ []) : (movR x n).2 ≠ [] := by
  unfold movR
  rw [if_neg h]
  exact h
theorem det_ne {p : Rw × Rw} (hp : PBk p) {i j : Int} (h1 : cf p.1 (2 * i) ≠ 0) (h2 : cf p.2 (2 * j + 1) ≠ 0) (h3 : (∀ k, cf p.2 (2 * k) = 0) ∨ ∀ k, cf p.1 (2 * k + 1) = 0) : (detR p).2 ≠ [] := by
  obtain ⟨ha, hb, hc, hd⟩ := parts_rb hp
  have a0 : (qa p).2 ≠ [] := cf_ne (k := i) (by unfold qa; rw [cf_half, Int.add_zero]; exact h1)
  have d0 : (qd p).2 ≠ [] := mov_ne (cf_ne (k := j) (by rw [cf_half]; exact h2))
  have bc : (qb p).2 = [] ∨ (qc p).2 = [] := by
    rcases h3 with h3 | h3
    · right
      have : qc p = (0, []) := rb_all0 hc fun k => by unfold qc; rw [cf_half, Int.add_zero]; exact h3 k
      rw [this]
    · left
      have : halfR p.1 1 = (0, []) := rb_all0 (rb_half hp.a (.inr rfl)) fun k => by rw [cf_half]; exact h3 k
      unfold qb movR
      rw [this]
      rfl
  have e1 : mulR (qb p) (qc p) = (0, []) := if_pos bc
  have e2 : scaleR (0, []) (-1) = (0, []) := rfl
  have e3 : detR p = mulR (qa p) (qd p) := by
    unfold detR lessR
    rw [e1, e2]
    unfold addR
    rw [if_pos (.inr rfl), if_pos rfl]
  rw [e3]
  exact mul_ne ha hd a0 d0
/-! ### the pair of means -/
def hf : Rat := { num := 1, den := 2, den_nz := by decide, reduced := by decide }
def haarP : Rw × Rw := ((0, [hf, hf]), (0, [-1, 1]))
theorem haar_bd : PBk haarP := by
  have b1 : Bd 3600 (2 ^ 30) hf := ⟨1800, by decide +kernel, by decide⟩
  have b2 : Bd 3600 (2 ^ 30) (-1) := ⟨-3600, by decide +kernel, by decide⟩
  have b3 : Bd 3600 (2 ^ 30) 1 := ⟨3600, by decide +kernel, by decide⟩
  have n1 : hf ≠ 0 := by decide +kernel
  have n2 : (-1 : Rat) ≠ 0 := by decide +kernel
  have n3 : (1 : Rat) ≠ 0 := by decide +kernel
  refine ⟨⟨fun z => (List.cons_ne_nil _ _ z).elim, fun q hq => (show hf = q by simpa [haarP] using hq) ▸ n1, fun q hq => (show hf = q by simpa [haarP] using hq) ▸ n1, by decide, by decide, two_mem b1 b1⟩,
    ⟨fun z => (List.cons_ne_nil _ _ z).elim, fun q hq => (show (-1 : Rat) = q by simpa [haarP] using hq) ▸ n2, fun q hq => (show (1 : Rat) = q by simpa [haarP] using hq) ▸ n3, by decide, by decide, two_mem b2 b3⟩⟩
theorem haar_det : (detR haarP).2 ≠ [] := by decide +kernel
end Bs.Mt
/-! MT: what is drawn. -/
namespace Bs.Mt
open PySem

structure St3 where
  a : Int
  b : Int
  c : Int
def eS (s : St3) : List D := [.int s.a, .int s.b, .int s.c]
abbrev Ms (s : St3) (rest : Mm) : Mm := some (eS s) :: rest
/-- n sips at most were taken -/
structure Spd (n : Nat) (s : St3) : Prop where
  b0 : 0 ≤ s.b
  b1 : s.b < 2147483563
  c0 : 0 ≤ s.c
  c1 : s.c ≤ n
theorem Spd.mono {n k : Nat} {s : St3} (h : Spd n s) (l : n ≤ k) : Spd k s := ⟨h.b0, h.b1, h.c0, by have := h.c1; omega⟩
theorem setS0 {s : St3} {v : Int} {rest : Mm} : setM (Ms s rest) 0 0 (.int v) = some (Ms ⟨v, s.b, s.c⟩ rest) := rfl
theorem setS1 {s : St3} {v : Int} {rest : Mm} : setM (Ms s rest) 0 1 (.int v) = some (Ms ⟨s.a, v, s.c⟩ rest) := rfl
theorem setS2 {s : St3} {v : Int} {rest : Mm} : setM (Ms s rest) 0 2 (.int v) = some (Ms ⟨s.a, s.b, v⟩ rest) := rfl
theorem atS0 {s : St3} : atD (eS s) 0 = some (.int s.a) := rfl
theorem atS1 {s : St3} : atD (eS s) 1 = some (.int s.b) := rfl
theorem atS2 {s : St3} : atD (eS s) 2 = some (.int s.c) := rfl
theorem op_dm {i j : Int} (h : 0 < j) (k : j < 1073741824) : dmD (.int i) (.int j) = some (.tuple [.int (i / j), .int (i % j)]) := by
  unfold dmD
  exact if_pos ⟨h, k⟩
theorem op_mul64 {i j : Int} (h : i.natAbs < 2 ^ 64) (k : j.natAbs < 2 ^ 64) : mulD (.int i) (.int j) = some (.int (i * j)) := op_mulSm (small_smI h) (small_smI k)
theorem sip_ok {n : Nat} {st : St3} {top : Int} (h : Spd n st) (hn : n + 1 ≤ 1000000) (ht : 0 < top) (ht2 : top < 1000) (rest : Mm) :
    ∃ v st', F_law_sip [.at 0, .d (.int top)] (Ms st rest) = some (.int v, Ms st' rest) ∧ 0 ≤ v ∧ v < top ∧ Spd (n + 1) st' := by
  obtain ⟨a, b, c⟩ := st
  have b0 : 0 ≤ b := h.b0
  have b1 : b < 2147483563 := h.b1
  have c0 : 0 ≤ c := h.c0
  have c1 : c ≤ n := h.c1
  by_cases ha : 0 < a
  · refine ⟨a % top, ⟨a / top, b, c⟩, ?_, Int.emod_nonneg _ (by omega), Int.emod_lt_of_pos _ ht, ⟨b0, b1, c0, by show c ≤ ((n + 1 : Nat) : Int); omega⟩⟩
    have e1 := op_dm (i := a) ht (by omega)
    simp [F_law_sip, g_law_sip, atS0, ha, e1, setS0]
  · have e1 : mulD (.int 6) (.int (c + 1)) = some (.int (6 * (c + 1))) := op_mul64 (by decide) (by omega)
    have e2 : mulD (.int b) (.int (30011 + 6 * (c + 1))) = some (.int (b * (30011 + 6 * (c + 1)))) := op_mul64 (by omega) (by omega)
    have e3 : mulD (.int 60013) (.int (c + 1)) = some (.int (60013 * (c + 1))) := op_mul64 (by decide) (by omega)
    have e4 : ∀ i : Int, modD (.int i) (.int 2147483563) = some (.int (i % 2147483563)) := fun i => op_modP (by decide)
    have e5 : ∀ i : Int, divN (.int i) (.int 97) = some (.int (i.fdiv 97)) := fun i => op_divNS (by decide) (by decide +kernel)
    have e6 : ∀ i : Int, modD (.int i) (.int top) = some (.int (i % top)) := fun i => op_modP ht
    refine ⟨((b * (30011 + 6 * (c + 1)) + 60013 * (c + 1) + 11) % 2147483563).fdiv 97 % top, ⟨a, (b * (30011 + 6 * (c + 1)) + 60013 * (c + 1) + 11) % 2147483563, c + 1⟩, ?_, Int.emod_nonneg _ (by omega), Int.emod_lt_of_pos _ ht,
      ⟨Int.emod_nonneg _ (by decide), Int.emod_lt_of_pos _ (by decide), by show 0 ≤ c + 1; omega, by show c + 1 ≤ ((n + 1 : Nat) : Int); omega⟩⟩
    simp [F_law_sip, g_law_sip, atS0, atS1, atS2, ha, setS0, setS1, setS2, e1, e2, e3, e4, e5, e6]
theorem pick_ok {n : Nat} {st : St3} {xs : List D} (h : Spd n st) (hn : n + 1 ≤ 1000000) (h1 : 0 < xs.length) (h2 : xs.length < 1000) (rest : Mm) :
    ∃ x st', F_law_pick [.at 0, .d (.list xs)] (Ms st rest) = some (x, Ms st' rest) ∧ x ∈ xs ∧ Spd (n + 1) st' := by
  obtain ⟨v, st', e1, v0, v1, hs⟩ := sip_ok (top := xs.length) h hn (by omega) (by omega) rest
  obtain ⟨k, rfl⟩ : ∃ k : Nat, v = k := ⟨v.toNat, by omega⟩
  have hk : k < xs.length := by omega
  have e2 : atD xs (k : Int) = some (xs[k]'hk) := by
    rw [atD_nat hk]
    exact List.getElem?_eq_getElem hk
  refine ⟨xs[k]'hk, st', ?_, List.getElem_mem hk, hs⟩
  simp [F_law_pick, g_law_pick, e1, e2]
/-- the denominators -/
theorem den_mem {x : D} (h : x ∈ [PyData.int 1, .int 1, .int 1, .int 2, .int 2, .int 3, .int 4, .int 15]) : ∃ d q : Nat, x = .int (d : Int) ∧ 0 < d ∧ d * q = 60 ∧ d ≤ 15 := by
  simp only [List.mem_cons, List.not_mem_nil, or_false] at h
  rcases h with h | h | h | h | h | h | h | h <;> subst h
  · exact ⟨1, 60, rfl, by decide, by decide, by decide⟩
  · exact ⟨1, 60, rfl, by decide, by decide, by decide⟩
  · exact ⟨1, 60, rfl, by decide, by decide, by decide⟩
  · exact ⟨2, 30, rfl, by decide, by decide, by decide⟩
  · exact ⟨2, 30, rfl, by decide, by decide, by decide⟩
  · exact ⟨3, 20, rfl, by decide, by decide, by decide⟩
  · exact ⟨4, 15, rfl, by decide, by decide, by decide⟩
  · exact ⟨15, 4, rfl, by decide, by decide, by decide⟩
theorem bd60 {t : Int} {d q : Nat} (ht : t.natAbs ≤ 60) (hd : 0 < d) (hq : d * q = 60) : Bd 60 3600 (Rat.divInt t (d : Int)) := by
  refine ⟨t * q, ?_, ?_⟩
  · have hne : ((d : Nat) : Rat) ≠ 0 := fun z => by
      have := Rat.natCast_eq_zero_iff.mp z
      omega
    rw [Rat.divInt_eq_div, ← hq, Rat.natCast_mul, Rat.intCast_mul, Rat.intCast_natCast, Rat.intCast_natCast]
    have := Rat.div_mul_cancel (a := (t : Rat)) hne
    have e : (t : Rat) / ((d : Nat) : Rat) * (((d : Nat) : Rat) * ((q : Nat) : Rat)) = ((t : Rat) / ((d : Nat) : Rat) * ((d : Nat) : Rat)) * ((q : Nat) : Rat) := by grind
    rw [e, this]
  · rw [Int.natAbs_mul, Int.natAbs_natCast]
    have hq2 : q ≤ 60 := by
      rw [← hq]
      exact Nat.le_mul_of_pos_left _ hd
    exact Nat.mul_le_mul ht hq2
theorem any_ok {n : Nat} {st : St3} (h : Spd n st) (hn : n + 3 ≤ 1000000) (rest : Mm) :
    ∃ r st', F_law_any [.at 0] (Ms st rest) = some (eQ r, Ms st' rest) ∧ Bd 60 3600 r ∧ Spd (n + 3) st' := by
  obtain ⟨x, s1, e1, hx, h1⟩ := pick_ok (xs := [.int 4, .int 4, .int 4, .int 4, .int 9, .int 60]) h (by omega) (by decide) (by decide) rest
  obtain ⟨w, rfl, w0, w1⟩ : ∃ w : Int, x = .int w ∧ 4 ≤ w ∧ w ≤ 60 := by
    simp only [List.mem_cons, List.not_mem_nil, or_false] at hx
    rcases hx with h | h | h | h | h | h <;> subst h <;> exact ⟨_, rfl, by decide, by decide⟩
  obtain ⟨v, s2, e2, v0, v1, h2⟩ := sip_ok (top := 2 * w + 1) h1 (by omega) (by omega) (by omega) rest
  obtain ⟨y, s3, e3, hy, h3⟩ := pick_ok (xs := [.int 1, .int 1, .int 1, .int 2, .int 2, .int 3, .int 4, .int 15]) h2 (by omega) (by decide) (by decide) rest
  obtain ⟨d, q, rfl, d0, dq, d1⟩ := den_mem hy
  have e4 : mulD (.int 2) (.int w) = some (.int (2 * w)) := op_mul64 (by decide) (by omega)
  have e5 := F_law_low_ok (v - w) (d : Int) (Ms s3 rest) (by omega) (by rw [Int.natAbs_natCast]; exact Nat.lt_of_le_of_lt (Nat.log2_le_self d) (by omega))
  refine ⟨Rat.divInt (v - w) d, s3, ?_, bd60 (by omega) d0 dq, h3⟩
  simp [F_law_any, g_law_any, e1, e4, e2, e3, e5]
theorem some_ok {n : Nat} {st : St3} (h : Spd n st) (hn : n + 4 ≤ 1000000) (rest : Mm) :
    ∃ r st', F_law_some [.at 0] (Ms st rest) = some (eQ r, Ms st' rest) ∧ Bd 60 3600 r ∧ r ≠ 0 ∧ Spd (n + 4) st' := by
  obtain ⟨x, s1, e1, hx, h1⟩ := pick_ok (xs := [.int 1, .int 3, .int 3, .int 9, .int 60]) h (by omega) (by decide) (by decide) rest
  obtain ⟨w, rfl, w0, w1⟩ : ∃ w : Int, x = .int w ∧ 1 ≤ w ∧ w ≤ 60 := by
    simp only [List.mem_cons, List.not_mem_nil, or_false] at hx
    rcases hx with h | h | h | h | h <;> subst h <;> exact ⟨_, rfl, by decide, by decide⟩
  obtain ⟨v, s2, e2, v0, v1, h2⟩ := sip_ok (top := w) h1 (by omega) (by omega) (by omega) rest
  obtain ⟨z, s3, e3, z0, z1, h3⟩ := sip_ok (top := 2) h2 (by omega) (by decide) (by decide) rest
  obtain ⟨y, s4, e4, hy, h4⟩ := pick_ok (xs := [.int 1, .int 1, .int 1, .int 2, .int 2, .int 3, .int 4, .int 15]) h3 (by omega) (by decide) (by decide) rest
  obtain ⟨d, q, rfl, d0, dq, d1⟩ := den_mem hy
  have ne : ∀ t : Int, t ≠ 0 → Rat.divInt t (d : Int) ≠ 0 := fun t ht z => by
    have e6 : (Rat.divInt t (d : Int)).num = 0 := by rw [z]; rfl
    have e7 := rat_num (n := t) (d := (d : Int)) (by omega)
    rw [e6] at e7
    obtain ⟨k, hk⟩ := (sgcd_dvd (n := t) (d := (d : Int)) (by omega)).1
    have e8 : t.fdiv (sgcd t d) = k := by
      conv => lhs; arg 1; rw [hk]
      exact Int.mul_fdiv_cancel_left _ (sgcd_ne (by omega))
    rw [e8] at e7
    rw [e7, Int.mul_zero] at hk
    exact ht hk
  have lg : ((d : Nat) : Int).natAbs.log2 < 4999 := by rw [Int.natAbs_natCast]; exact Nat.lt_of_le_of_lt (Nat.log2_le_self d) (by omega)
  by_cases hz : z = 0
  · have e5 := F_law_low_ok (1 + v) (d : Int) (Ms s4 rest) (by omega) lg
    refine ⟨Rat.divInt (1 + v) d, s4, ?_, bd60 (by omega) d0 dq, ne _ (by omega), h4⟩
    simp [F_law_some, g_law_some, e1, e2, e3, hz, e4, e5]
  · have e5 := F_law_low_ok (0 - (1 + v)) (d : Int) (Ms s4 rest) (by omega) lg
    refine ⟨Rat.divInt (0 - (1 + v)) d, s4, ?_, bd60 (by omega) d0 dq, ne _ (by omega), h4⟩
    rw [Int.zero_sub] at e5 ⊢
    simp [F_law_some, g_law_some, e1, e2, e3, hz, e4, e5]
end Bs.Mt
/-! MU: rows, trees that are drawn. -/
namespace Bs.Mt
open PySem

theorem ns60 : Ns 60 3600 := ns_of (a := 6) (b := 12) (by decide) (by decide) (by decide) (by decide) (by decide)
theorem atD_lastm {α : Type} {f : α → D} {l : List α} {x : α} (h : l.getLast? = some x) : atD (l.map f) (-1) = some (f x) := atD_last (by rw [List.getLast?_map, h]; rfl)
theorem lenM {st : St3} {rest : Mm} : (Ms st rest).length = rest.length + 1 := rfl
theorem getM {st : St3} {rest : Mm} {x : Option (List D)} : (Ms st (rest ++ [x]))[rest.length + 1]? = some x := by
  show (some (eS st) :: (rest ++ [x]))[rest.length + 1]? = _
  simp
theorem setMl {st : St3} {rest : Mm} {xs : List D} {x : D} (h : 0 < xs.length) : setM (Ms st (rest ++ [some xs])) (rest.length + 1) (-1) x = some (Ms st (rest ++ [some (xs.set (xs.length - 1) x)])) := by
  unfold setM
  rw [getM]
  unfold ixD
  simp only []
  rw [if_neg (by decide), if_pos (by omega)]
  show some ((Ms st (rest ++ [some xs])).set (rest.length + 1) (some (xs.set (-1 + (xs.length : Int)).toNat x))) = _
  rw [show (-1 + (xs.length : Int)).toNat = xs.length - 1 by omega]
  show some (some (eS st) :: (rest ++ [some xs]).set rest.length _) = _
  rw [setK]
theorem row_ok {n most : Nat} {st : St3} (h : Spd n st) (hm : 1 ≤ most) (hm2 : most ≤ 8) (hn : n + 100 ≤ 1000000) (rest : Mm) :
    ∃ x st', F_law_row [.at 0, .d (.int most)] (Ms st rest) = some (eW x, Ms st' rest) ∧ RB 60 3600 (most + 2) x ∧ x.2 ≠ [] ∧ x.2.length ≤ most ∧ Spd (n + 100) st' := by
  obtain ⟨r, s1, e1, b1, r1, h1⟩ := some_ok h (by omega) rest
  obtain ⟨v, s2, e2, v0, v1, h2⟩ := sip_ok (top := most) h1 (by omega) (by omega) (by omega) (rest ++ [some [eQ r]])
  obtain ⟨q, rfl⟩ : ∃ q : Nat, v = q := ⟨v.toNat, by omega⟩
  have key := for_pre (gg := ggN 3) (b := gsApp 2 (gCall (F_law_any) (gam 0 (ga0)))) (fun k : Nat => PyData.int (k : Nat))
    (fun pre e m' => ∃ st' l u, e = [some (.at 0), some (.d (.int most)), some (.at (rest.length + 1)), u] ∧ m' = Ms st' (rest ++ [some ((r :: l).map eQ)]) ∧ l.length = pre.length ∧ (∀ z ∈ l, Bd 60 3600 z) ∧ Spd (n + 5 + 3 * pre.length) st')
    (List.range q) (fun pre k post e m' hpl hR => by
      obtain ⟨st', l, u, rfl, rfl, hl, hbd, hsp⟩ := hR
      have hp : pre.length + 1 ≤ q := by
        have := congrArg List.length hpl
        rw [List.length_range, List.length_append, List.length_cons] at this
        omega
      obtain ⟨z, s3, e3, b3, h3⟩ := any_ok hsp (by omega) (rest ++ [some ((r :: l).map eQ)])
      have hb : ((r :: l).map eQ).length < big := by
        rw [List.length_map, List.length_cons, hl]
        exact Nat.lt_of_le_of_lt (show _ ≤ 100 by omega) (by decide)
      refine ⟨_, _, ?_, s3, l ++ [z], some (.d (.int (k : Nat))), rfl, rfl, by rw [List.length_append, List.length_append, hl]; rfl, fun y hy => ?_, ?_⟩
      · have e4 : (r :: (l ++ [z])).map eQ = (r :: l).map eQ ++ [eQ z] := by simp
        rw [e4]
        have g1 : (Ms st' (rest ++ [some ((r :: l).map eQ)]))[rest.length + 1]? = some (some ((r :: l).map eQ)) := getM
        have g2 : (Ms s3 (rest ++ [some ((r :: l).map eQ)]))[rest.length + 1]? = some (some ((r :: l).map eQ)) := getM
        generalize (r :: l).map eQ = Y at *
        have g3 : (Ms s3 (rest ++ [some Y])).set (rest.length + 1) (some (Y ++ [eQ z])) = Ms s3 (rest ++ [some (Y ++ [eQ z])]) := by
          show some (eS s3) :: (rest ++ [some Y]).set rest.length _ = _
          rw [setK]
        simp only [ap_ggN, Option.bind_some, ap_gsApp]
        simp [e3, hb]
      · rcases List.mem_append.mp hy with hy | hy
        · exact hbd y hy
        · rw [List.mem_singleton.mp hy]
          exact b3
      · rw [List.length_append, List.length_singleton]
        exact h3.mono (by omega)) [some (.at 0), some (.d (.int most)), some (.at (rest.length + 1)), none] (Ms s2 (rest ++ [some [eQ r]])) ⟨s2, [], none, rfl, rfl, rfl, (fun z hz => by cases hz), h2.mono (by show n + 4 + 1 ≤ n + 5 + 3 * 0; omega)⟩
  obtain ⟨e5, m5, h5, s5, l, u, rfl, rfl, hl, hbd, hsp⟩ := key
  rw [List.length_range] at hl hsp
  have hne : (r :: l).getLast? = some ((r :: l).getLast (List.cons_ne_nil r l)) := List.getLast?_eq_some_getLast _
  generalize hz : (r :: l).getLast (List.cons_ne_nil r l) = z at hne
  have zb : Bd 60 3600 z := by
    have : z ∈ r :: l := List.mem_of_getLast? hne
    rcases List.mem_cons.mp this with e | e
    · rw [e]; exact b1
    · exact hbd z e
  have hq : (q : Int) < most := v1
  have hlen : ((r :: l).map eQ).length = q + 1 := by rw [List.length_map, List.length_cons, hl]
  have al := atD_lastm (f := eQ) hne
  -- what stands last in the end
  have fin : ∀ (w : Rat) (s6 : St3), w ≠ 0 → Bd 60 3600 w → Spd (n + 90) s6 → ∃ v7 s7, F_law_sip [.at 0, .d (.int 7)] (Ms s6 (rest ++ [some (((r :: l).map eQ).set q (eQ w))])) = some (.int v7, Ms s7 (rest ++ [some (((r :: l).map eQ).set q (eQ w))])) ∧
      RB 60 3600 (most + 2) (v7 - 3, (r :: l).set q w) ∧ (r :: l).set q w ≠ [] ∧ ((r :: l).set q w).length ≤ most ∧ Spd (n + 100) s7 := by
    intro w s6 hw bw hs6
    obtain ⟨v7, s7, e7, z0, z1, h7⟩ := sip_ok (top := 7) hs6 (by omega) (by decide) (by decide) (rest ++ [some (((r :: l).map eQ).set q (eQ w))])
    have sl : ((r :: l).set q w).length = q + 1 := by rw [List.length_set, List.length_cons, hl]
    refine ⟨v7, s7, e7, ⟨fun y => ?_, fun y hy => ?_, fun y hy => ?_, ?_, ?_, fun y hy => ?_⟩, ?_, ?_, h7.mono (by omega)⟩
    · have y' : (r :: l).set q w = [] := y
      rw [y'] at sl
      simp at sl
    · have hy' : ((r :: l).set q w)[0]? = some y := hy
      by_cases q0 : q = 0
      · rw [q0] at hy'
        have : w = y := by simpa using hy'
        exact this ▸ hw
      · rw [List.getElem?_set_ne q0] at hy'
        have : r = y := by simpa using hy'
        exact this ▸ r1
    · have hy' : ((r :: l).set q w).getLast? = some y := hy
      rw [List.getLast?_eq_getElem?, sl, show q + 1 - 1 = q by omega, List.getElem?_set_self (by rw [List.length_cons, hl]; omega)] at hy'
      exact Option.some.inj hy' ▸ hw
    · show -((most + 2 : Nat) : Int) ≤ v7 - 3
      omega
    · show v7 - 3 + (((r :: l).set q w).length : Int) ≤ ((most + 2 : Nat) : Int) + 1
      rw [sl]
      omega
    · rcases List.mem_or_eq_of_mem_set (show y ∈ (r :: l).set q w from hy) with hy | hy
      · rcases List.mem_cons.mp hy with e | e
        · rw [e]; exact b1
        · exact hbd y e
      · rw [hy]; exact bw
    · intro y'
      rw [y'] at sl
      simp at sl
    · rw [sl]
      omega
  have q0 : -1000000 ≤ (q : Int) ∧ (q : Int) ≤ 1000000 := by omega
  have t1 : ∀ st' : St3, (Ms st' (rest ++ [some ((r :: l).map eQ)]))[rest.length + 1]? = some (some ((r :: l).map eQ)) := fun st' => getM
  by_cases hz0 : z = 0
  · obtain ⟨w, s6, e6, b6, w6, h6⟩ := some_ok hsp (by omega) (rest ++ [some ((r :: l).map eQ)])
    obtain ⟨v7, s7, f1, f2, f3, f4, f5⟩ := fin w s6 w6 b6 (h6.mono (by omega))
    refine ⟨(v7 - 3, (r :: l).set q w), s7, ?_, f2, f3, f4, f5⟩
    have zn : z.num = 0 := Rat.num_eq_zero.mpr hz0
    have t2 := setMl (st := s6) (rest := rest) (xs := (r :: l).map eQ) (x := eQ w) (by omega)
    rw [hlen, show q + 1 - 1 = q by omega] at t2
    have ew : eW (v7 - 3, (r :: l).set q w) = .tuple [.int (v7 - 3), .tuple (((r :: l).map eQ).set q (eQ w))] := by
      unfold eW
      rw [List.map_set]
    rw [ew]
    generalize hY : ((r :: l).map eQ) = Y at *
    generalize hZ : Y.set q (eQ w) = Z at *
    have t3 : ∀ st' : St3, (Ms st' (rest ++ [some Z]))[rest.length + 1]? = some (some Z) := fun st' => getM
    have t4 : ∀ st' : St3, ((Ms st' (rest ++ [some Z])).set (rest.length + 1) none).take (rest.length + 1) = Ms st' rest := fun st' => by
      show (some (eS st') :: (rest ++ [some Z]).set rest.length none).take (rest.length + 1) = _
      rw [setK]
      simp
    simp [F_law_row, g_law_row, e1, e2, q0, rng0, h5, al, zn, e6, t2, f1]
  · obtain ⟨v7, s7, f1, f2, f3, f4, f5⟩ := fin z s5 hz0 zb (hsp.mono (by omega))
    refine ⟨(v7 - 3, (r :: l).set q z), s7, ?_, f2, f3, f4, f5⟩
    have zn : ¬ z.num = 0 := fun y => hz0 (Rat.num_eq_zero.mp y)
    have t2 := setMl (st := s5) (rest := rest) (xs := (r :: l).map eQ) (x := eQ z) (by omega)
    rw [hlen, show q + 1 - 1 = q by omega] at t2
    have ew : eW (v7 - 3, (r :: l).set q z) = .tuple [.int (v7 - 3), .tuple (((r :: l).map eQ).set q (eQ z))] := by
      unfold eW
      rw [List.map_set]
    rw [ew]
    generalize hY : ((r :: l).map eQ) = Y at *
    generalize hZ : Y.set q (eQ z) = Z at *
    simp [F_law_row, g_law_row, e1, e2, q0, rng0, h5, al, zn, t2, f1]
end Bs.Mt
/-! MV: ladders, bushes. -/
namespace Bs.Mt
open PySem

theorem mild_ok {n most : Nat} {st : St3} (h : Spd n st) (hm : 1 ≤ most) (hm2 : most ≤ 8) (hn : n + 101 ≤ 1000000) (rest : Mm) :
    ∃ x st', F_law_mild_row [.at 0, .d (.int most)] (Ms st rest) = some (eW x, Ms st' rest) ∧ RB 60 3600 (most + 2) x ∧ x.2.length ≤ most ∧ Spd (n + 101) st' := by
  obtain ⟨v, s1, e1, v0, v1, h1⟩ := sip_ok (top := 9) h (by omega) (by decide) (by decide) rest
  by_cases hv : v = 0
  · refine ⟨(0, []), s1, ?_, rb_zero, Nat.zero_le _, h1.mono (by omega)⟩
    simp [F_law_mild_row, g_law_mild_row, e1, hv, eW]
  · obtain ⟨x, s2, e2, h2, _, h3, h4⟩ := row_ok h1 hm hm2 (by omega) rest
    refine ⟨x, s2, ?_, h2, h3, h4.mono (by omega)⟩
    simp [F_law_mild_row, g_law_mild_row, e1, hv, e2]
/-! ### bushes -/
theorem bush_ok : ∀ (N k n : Nat) (st : St3) (rest : Mm), k < N → k ≤ 4 → Spd n st → n + 2 ^ k ≤ 1000000 → ∃ t st', F_law_bush N [.at 0, .d (.int k)] (Ms st rest) = some (eT t, Ms st' rest) ∧ t.dep ≤ k ∧ Spd (n + 2 ^ k - 1) st'
  | 0, _, _, _, _, h, _, _, _ => absurd h (Nat.not_lt_zero _)
  | N + 1, 0, n, st, rest, _, _, h, _ => ⟨.lf, st, by simp [F_law_bush, g_law_bush, eT], Nat.le_refl 0, h.mono (by omega)⟩
  | N + 1, k + 1, n, st, rest, hk, h4, h, hn => by
    have hp : 2 ^ (k + 1) = 2 ^ k + 2 ^ k := by rw [Nat.pow_succ]; omega
    have hp2 : 0 < 2 ^ k := Nat.two_pow_pos k
    have hne : ¬ ((k : Int) + 1 = 0) := by omega
    obtain ⟨v, s1, e1, v0, v1, h1⟩ := sip_ok (top := 4) h (by omega) (by decide) (by decide) rest
    by_cases hv : v = 0
    · refine ⟨.lf, s1, ?_, Nat.zero_le _, h1.mono (by omega)⟩
      simp [F_law_bush, g_law_bush, eT, hne, e1, hv]
    · obtain ⟨a, s2, e2, d2, h2⟩ := bush_ok N k (n + 1) s1 rest (by omega) (by omega) h1 (by omega)
      obtain ⟨b, s3, e3, d3, h3⟩ := bush_ok N k _ s2 rest (by omega) (by omega) h2 (by omega)
      have q : (k : Int) + 1 - 1 = k := by omega
      refine ⟨.nd a b, s3, ?_, ?_, h3.mono (by omega)⟩
      · simp [F_law_bush, g_law_bush, eT, hne, e1, hv, q, e2, e3]
      · show max a.dep b.dep + 1 ≤ k + 1
        omega
theorem grove_ok {n : Nat} {st : St3} (h : Spd n st) (hn : n + 20 ≤ 1000000) (rest : Mm) : ∃ t st', F_law_grove [.at 0, .d (.int 3)] (Ms st rest) = some (eT t, Ms st' rest) ∧ t.dep ≤ 3 ∧ Spd (n + 20) st' := by
  obtain ⟨v, s1, e1, v0, v1, h1⟩ := sip_ok (top := 9) h (by omega) (by decide) (by decide) rest
  by_cases hv : v = 0
  · refine ⟨.lf, s1, ?_, Nat.zero_le _, h1.mono (by omega)⟩
    simp [F_law_grove, g_law_grove, eT, e1, hv]
  · obtain ⟨a, s2, e2, d2, h2⟩ := bush_ok 6 2 (n + 1) s1 rest (by decide) (by decide) h1 (by omega)
    obtain ⟨b, s3, e3, d3, h3⟩ := bush_ok 6 2 _ s2 rest (by decide) (by decide) h2 (by omega)
    rw [show ((2 : Nat) : Int) = 2 from rfl] at e2 e3
    refine ⟨.nd a b, s3, ?_, ?_, h3.mono (by omega)⟩
    · simp [F_law_grove, g_law_grove, eT, e1, hv, e2, e3]
    · show max a.dep b.dep + 1 ≤ 3
      omega
/-! ### ladders -/
def wy (w : Bool) : D := .str (if w then "low" else "high")
def eG (g : Bool × Rw) : D := .tuple [wy g.1, eW g.2]
/-- a ladder's data -/
def eL (gs : List (Bool × Rw)) (k0 k1 : Rat) (a b : Int) : D := .tuple [.tuple (gs.map eG), .tuple [.tuple [eQ k0, .int a], .tuple [eQ k1, .int b]]]
def lad (gs : List (Bool × Rw)) (k0 k1 : Rat) (a b : Int) : Rw × Rw := match gs with
  | (true, x) :: _ => (addR (2 * a, [k0]) (mulR (wideR x) (2 * b + 1, [k1])), (2 * b + 1, [k1]))
  | (false, x) :: _ => ((2 * a, [k0]), addR (2 * b + 1, [k1]) (mulR (wideR x) (2 * a, [k0])))
  | [] => ((2 * a, [k0]), (2 * b + 1, [k1]))
theorem eq_way (w : Bool) : eqD (wy w) (.str "low") = some (.bool w) := by
  unfold eqD
  have p : (wy w).plain = true := by cases w <;> rfl
  have d : min (wy w).depth (PyData.str "low").depth ≤ 64 := Nat.le_trans (Nat.min_le_right _ _) (by decide +kernel)
  have q : PyData.eqv (wy w) (.str "low") = w := by cases w <;> decide +kernel
  rw [if_pos ⟨p, rfl, d⟩, q]
theorem rb_scale {D E M S : Nat} {x : Rw} (h : RB D M S x) : RB (D * E) (M * E) S x := ⟨h.z, h.hd, h.la, h.lo, h.hi, fun r hr => bd_scale (h.bd r hr)⟩
structure LadOk (gs : List (Bool × Rw)) (k0 k1 : Rat) (a b : Int) : Prop where
  l : gs.length ≤ 1
  x : ∀ g ∈ gs, RB 60 3600 2 g.2
  b0 : Bd 60 3600 k0
  b1 : Bd 60 3600 k1
  n0 : k0 ≠ 0
  n1 : k1 ≠ 0
  a0 : -1 ≤ a
  a1 : a ≤ 1
  c0 : -1 ≤ b
  c1 : b ≤ 1
section
variable {gs : List (Bool × Rw)} {k0 k1 : Rat} {a b : Int}
theorem one_rb (h : LadOk gs k0 k1 a b) : RB 60 3600 2 (2 * a, [k0]) ∧ RB 60 3600 3 (2 * b + 1, [k1]) :=
  ⟨rb_one h.b0 h.n0 (by have := h.a0; omega) (by have := h.a1; omega), rb_one h.b1 h.n1 (by have := h.c0; omega) (by have := h.c1; omega)⟩
theorem nsP : Ns (60 * 60) ((2 * 4 + 1) * (2 * 3 + 1) * (3600 * 3600)) := ns_of (a := 12) (b := 30) (by decide) (by decide) (by decide) (by decide) (by decide)
theorem nsQ : Ns (60 * 60) ((2 * 4 + 1) * (2 * 2 + 1) * (3600 * 3600)) := ns_of (a := 12) (b := 30) (by decide) (by decide) (by decide) (by decide) (by decide)
theorem ns6 : Ns (60 * 60) (3600 * 60) := ns_of (a := 12) (b := 30) (by decide) (by decide) (by decide) (by decide) (by decide)
theorem lad_rb (h : LadOk gs k0 k1 a b) : PBk (lad gs k0 k1 a b) := by
  obtain ⟨o1, o2⟩ := one_rb h
  have s1 := rb_scale (E := 60) o1
  have s2 := rb_scale (E := 60) o2
  cases gs with
  | nil => exact ⟨rb_mono s1 (by decide) (by decide), rb_mono s2 (by decide) (by decide)⟩
  | cons g r =>
    have hx := h.x g (List.mem_cons_self ..)
    obtain ⟨w, x⟩ := g
    have wx : RB 60 3600 4 (wideR x) := rb_wide hx
    cases w with
    | true => exact ⟨rb_mono (rb_add s1 (rb_mul wx o2)) (by decide) (by decide), rb_mono s2 (by decide) (by decide)⟩
    | false => exact ⟨rb_mono s1 (by decide) (by decide), rb_mono (rb_add s2 (rb_mul wx o1)) (by decide) (by decide)⟩
theorem F_laddered_ok (h : LadOk gs k0 k1 a b) (m : Mm) : F_law_laddered [.d (eL gs k0 k1 a b)] m = some (eP (lad gs k0 k1 a b), m) := by
  obtain ⟨o1, o2⟩ := one_rb h
  have a0 := h.a0
  have a1 := h.a1
  have c0 := h.c0
  have c1 := h.c1
  have e1 : mulD (.int 2) (.int a) = some (.int (2 * a)) := op_mul64 (by decide) (by omega)
  have e2 : mulD (.int 2) (.int b) = some (.int (2 * b)) := op_mul64 (by decide) (by omega)
  have f1 : PyData.tuple [.int (2 * a), .tuple [eQ k0]] = eW (2 * a, [k0]) := rfl
  have f2 : PyData.tuple [.int (2 * b + 1), .tuple [eQ k1]] = eW (2 * b + 1, [k1]) := rfl
  have l0 : idxD (eL gs k0 k1 a b) (.int 0) = some (.tuple (gs.map eG)) := by simp [eL]
  have l1 : idxD (eL gs k0 k1 a b) (.int 1) = some (.tuple [.tuple [eQ k0, .int a], .tuple [eQ k1, .int b]]) := by simp [eL]
  have ep : ∀ p : Rw × Rw, eP p = .tuple [eW p.1, eW p.2] := fun _ => rfl
  have hl := h.l
  cases gs with
  | nil =>
    simp [F_law_laddered, g_law_laddered, l0, l1, e1, e2, f1, f2, lad, ep]
  | cons g r =>
    have hr : r = [] := by
      cases r with
      | nil => rfl
      | cons y z =>
        simp at hl
    subst hr
    have hx := h.x g (List.mem_cons_self ..)
    obtain ⟨w, x⟩ := g
    have ew := eq_way w
    have w1 := F_law_wide_ok hx (by decide) m
    have wx : RB 60 3600 4 (wideR x) := rb_wide hx
    have t1 := F_law_times_ok wx o2 ns60 ns60 nsP (by decide) m
    have t2 := F_law_times_ok wx o1 ns60 ns60 nsQ (by decide) m
    have s1 := F_law_sum_ok (rb_scale (E := 60) o1) (rb_mul wx o2) ns6 nsP (by decide) (by decide) m
    have s2 := F_law_sum_ok (rb_scale (E := 60) o2) (rb_mul wx o1) ns6 nsQ (by decide) (by decide) m
    have eg : ([(w, x)].map eG) = [.tuple [wy w, eW x]] := rfl
    rw [eg] at l0
    cases w with
    | true =>
      simp [F_law_laddered, g_law_laddered, l0, l1, e1, e2, f1, f2, lad, ep, ap_forG, ew, w1, t1, s1]
    | false =>
      simp [F_law_laddered, g_law_laddered, l0, l1, e1, e2, f1, f2, lad, ep, ap_forG, ew, w1, t2, s2]
theorem cf_one {s : Int} {r : Rat} : cf (s, [r]) s = r := by
  have := cf_in (x := (s, [r])) (k := 0) (r := r) rfl
  rwa [Int.natCast_zero, Int.add_zero] at this
theorem cf_one0 {s k : Int} {r : Rat} (h : k ≠ s) : cf (s, [r]) k = 0 := cf_out (by
  show ¬ (s ≤ k ∧ k < s + ((1 : Nat) : Int))
  omega)
theorem lad_det (h : LadOk gs k0 k1 a b) : (detR (lad gs k0 k1 a b)).2 ≠ [] := by
  obtain ⟨o1, o2⟩ := one_rb h
  have hP := lad_rb h
  have odd2 : ∀ k : Int, cf (2 * b + 1, [k1]) (2 * k) = 0 := fun k => cf_one0 (by omega)
  have odd1 : ∀ k : Int, cf (2 * a, [k0]) (2 * k + 1) = 0 := fun k => cf_one0 (by omega)
  cases gs with
  | nil => exact det_ne hP (i := a) (j := b) (by show cf (2 * a, [k0]) (2 * a) ≠ 0; rw [cf_one]; exact h.n0) (by show cf (2 * b + 1, [k1]) (2 * b + 1) ≠ 0; rw [cf_one]; exact h.n1) (.inr odd1)
  | cons g r =>
    have hx := h.x g (List.mem_cons_self ..)
    obtain ⟨w, x⟩ := g
    have wx : RB 60 3600 4 (wideR x) := rb_wide hx
    cases w with
    | true =>
      refine det_ne hP (i := a) (j := b) ?_ (by show cf (2 * b + 1, [k1]) (2 * b + 1) ≠ 0; rw [cf_one]; exact h.n1) (.inl odd2)
      show cf (addR (2 * a, [k0]) (mulR (wideR x) (2 * b + 1, [k1]))) (2 * a) ≠ 0
      rw [cf_add (rb_scale (E := 60) o1) (rb_mul wx o2), cf_one, cf_mul_single, show 2 * a - (2 * b + 1) = 2 * (a - b - 1) + 1 by omega, cf_wide_odd, Rat.zero_mul, Rat.add_zero]
      exact h.n0
    | false =>
      refine det_ne hP (i := a) (j := b) (by show cf (2 * a, [k0]) (2 * a) ≠ 0; rw [cf_one]; exact h.n0) ?_ (.inr odd1)
      show cf (addR (2 * b + 1, [k1]) (mulR (wideR x) (2 * a, [k0]))) (2 * b + 1) ≠ 0
      rw [cf_add (rb_scale (E := 60) o2) (rb_mul wx o1), cf_one, cf_mul_single, show 2 * b + 1 - 2 * a = 2 * (b - a) + 1 by omega, cf_wide_odd, Rat.zero_mul, Rat.add_zero]
      exact h.n1
end
end Bs.Mt
/-! MW: rungs, the safe pair, the sparse row. -/
namespace Bs.Mt
open PySem

theorem setMn {st : St3} {rest : Mm} {y z : Option (List D)} : (Ms st (rest ++ [y])).set (rest.length + 1) z = Ms st (rest ++ [z]) := by
  show some (eS st) :: (rest ++ [y]).set rest.length z = _
  rw [setK]
theorem takeM {st : St3} {rest : Mm} {y : Option (List D)} : (Ms st (rest ++ [y])).take (rest.length + 1) = Ms st rest := by
  show (some (eS st) :: (rest ++ [y])).take (rest.length + 1) = _
  simp
theorem ends_ok {n : Nat} {st : St3} (h : Spd n st) (hn : n + 20 ≤ 1000000) (rest : Mm) : ∃ k a st' , F_law_some [.at 0] (Ms st rest) = some (eQ k, Ms st' rest) ∧ Bd 60 3600 k ∧ k ≠ 0 ∧
    ∃ st'', F_law_sip [.at 0, .d (.int 3)] (Ms st' rest) = some (.int a, Ms st'' rest) ∧ 0 ≤ a ∧ a < 3 ∧ Spd (n + 5) st'' := by
  obtain ⟨r, s1, e1, b1, r1, h1⟩ := some_ok h (by omega) rest
  obtain ⟨v, s2, e2, v0, v1, h2⟩ := sip_ok (top := 3) h1 (by omega) (by decide) (by decide) rest
  exact ⟨r, v, s1, e1, b1, r1, s2, e2, v0, v1, h2⟩
theorem rungs_ok {n : Nat} {st : St3} (h : Spd n st) (hn : n + 200 ≤ 1000000) (rest : Mm) :
    ∃ gs k0 k1 a b st', F_law_rungs [.at 0, .d (.int 1), .d (.int 2)] (Ms st rest) = some (eL gs k0 k1 a b, Ms st' rest) ∧ LadOk gs k0 k1 a b ∧ Spd (n + 150) st' := by
  obtain ⟨v, s1, e1, v0, v1, h1⟩ := sip_ok (top := 2) h (by omega) (by decide) (by decide) (rest ++ [some []])
  have fin : ∀ (gs : List (Bool × Rw)) (s : St3), Spd (n + 120) s → gs.length ≤ 1 → (∀ g ∈ gs, RB 60 3600 2 g.2) → ∃ k0 k1 a b t1 t2 t3 t4,
      F_law_some [.at 0] (Ms s (rest ++ [none])) = some (eQ k0, Ms t1 (rest ++ [none])) ∧ F_law_sip [.at 0, .d (.int 3)] (Ms t1 (rest ++ [none])) = some (.int (a + 1), Ms t2 (rest ++ [none])) ∧
      F_law_some [.at 0] (Ms t2 (rest ++ [none])) = some (eQ k1, Ms t3 (rest ++ [none])) ∧ F_law_sip [.at 0, .d (.int 3)] (Ms t3 (rest ++ [none])) = some (.int (b + 1), Ms t4 (rest ++ [none])) ∧ LadOk gs k0 k1 a b ∧ Spd (n + 150) t4 := by
    intro gs s hs hl hx
    obtain ⟨k0, a, t1, f1, g1, g2, t2, f2, g3, g4, hs2⟩ := ends_ok hs (by omega) (rest ++ [none])
    obtain ⟨k1, b, t3, f3, g5, g6, t4, f4, g7, g8, hs4⟩ := ends_ok hs2 (by omega) (rest ++ [none])
    refine ⟨k0, k1, a - 1, b - 1, t1, t2, t3, t4, f1, ?_, f3, ?_, ⟨hl, hx, g1, g5, g2, g6, by omega, by omega, by omega, by omega⟩, hs4.mono (by omega)⟩
    · rw [f2, show a - 1 + 1 = a by omega]
    · rw [f4, show b - 1 + 1 = b by omega]
  have sb : ∀ a : Int, a + 1 - 1 = a := fun a => by omega
  rcases (show v = 0 ∨ v = 1 by omega) with hv | hv
  · subst hv
    obtain ⟨k0, k1, a, b, t1, t2, t3, t4, f1, f2, f3, f4, L, hs⟩ := fin [] s1 (h1.mono (by omega)) (by decide) (fun g hg => by cases hg)
    refine ⟨[], k0, k1, a, b, t4, ?_, L, hs⟩
    have r0 : rngD 0 0 = [] := rfl
    have g0 : ∀ s : St3, (Ms s (rest ++ [some []]))[rest.length + 1]? = some (some []) := fun s => getM
    simp [F_law_rungs, g_law_rungs, e1, r0, setMn, f1, f2, f3, f4, sb, eL]
  · subst hv
    obtain ⟨x, s2, e2, x1, x2, h2⟩ := mild_ok (most := 2) h1 (by decide) (by decide) (by omega) (rest ++ [some []])
    rw [show ((2 : Nat) : Int) = 2 from rfl] at e2
    obtain ⟨p, s3, e3, hp, h3⟩ := pick_ok (xs := [.str "low", .str "high"]) h2 (by omega) (by decide) (by decide) (rest ++ [some []])
    obtain ⟨w, rfl⟩ : ∃ w, p = wy w := by
      simp only [List.mem_cons, List.not_mem_nil, or_false] at hp
      rcases hp with hp | hp
      · exact ⟨true, hp⟩
      · exact ⟨false, hp⟩
    have r1 : rngD 0 1 = [.int 0] := rfl
    have e0 : neD (.tuple []) (.tuple []) = some (.bool false) := by
      rw [op_neT0 rfl]
      rfl
    by_cases hx : x.2 = []
    · have x0 : x = (0, []) := Prod.ext (x1.z hx) hx
      obtain ⟨k0, k1, a, b, t1, t2, t3, t4, f1, f2, f3, f4, L, hs⟩ := fin [(w, x)] s3 (h3.mono (by omega)) (Nat.le_refl 1) (fun g hg => by
        rw [List.mem_singleton.mp hg, x0]
        exact rb_zero)
      refine ⟨[(w, x)], k0, k1, a, b, t4, ?_, L, hs⟩
      have eg : PyData.tuple [wy w, eW x] = eG (w, x) := rfl
      simp [F_law_rungs, g_law_rungs, e1, r1, ap_forG, e2, e3, hx, e0, eg, setMn, f1, f2, f3, f4, sb, eL, big]
    · obtain ⟨c, s4, e4, c0, c1, h4⟩ := sip_ok (top := 3) h3 (by omega) (by decide) (by decide) (rest ++ [some []])
      have hy : RB 60 3600 2 (c - 1, x.2) := ⟨fun z => absurd z hx, x1.hd, x1.la, by show -((2 : Nat) : Int) ≤ c - 1; omega, by show c - 1 + (x.2.length : Int) ≤ ((2 : Nat) : Int) + 1; omega, x1.bd⟩
      obtain ⟨k0, k1, a, b, t1, t2, t3, t4, f1, f2, f3, f4, L, hs⟩ := fin [(w, (c - 1, x.2))] s4 (h4.mono (by omega)) (Nat.le_refl 1) (fun g hg => by
        rw [List.mem_singleton.mp hg]
        exact hy)
      refine ⟨[(w, (c - 1, x.2))], k0, k1, a, b, t4, ?_, L, hs⟩
      have eg : PyData.tuple [wy w, .tuple [.int (c - 1), .tuple (x.2.map eQ)]] = eG (w, (c - 1, x.2)) := rfl
      simp [F_law_rungs, g_law_rungs, e1, r1, ap_forG, e2, e3, hx, e4, eg, setMn, f1, f2, f3, f4, sb, eL, big]
theorem safe_ok {n : Nat} {st : St3} (h : Spd n st) (hn : n + 200 ≤ 1000000) (rest : Mm) :
    ∃ p st', F_law_safe [.at 0, .d (.int 1)] (Ms st rest) = some (eP p, Ms st' rest) ∧ PBk p ∧ (detR p).2 ≠ [] ∧ Spd (n + 150) st' := by
  obtain ⟨gs, k0, k1, a, b, st', e1, L, h1⟩ := rungs_ok h hn rest
  have e2 := F_laddered_ok L (Ms st' rest)
  exact ⟨lad gs k0 k1 a b, st', by simp [F_law_safe, g_law_safe, e1, e2], lad_rb L, lad_det L, h1⟩
end Bs.Mt
/-! MX: the sparse row, the law's one turn. -/
namespace Bs.Mt
open PySem

@[simp] theorem ap_gsParN {i j : Nat} {a : GE} {b : GL} {e : En} {m : Mm} : gsParN i j a b e m = (a e m).bind fun p => (b e p.2).map fun q => .nx ((e.set i (some (.d p.1))).set j (some (.at q.2.length))) (q.2 ++ [some q.1]) := rfl
theorem sparse_ok {n : Nat} {st : St3} {p : Rw × Rw} (h : Spd n st) (hp : PBk p) (hd : (detR p).2 ≠ []) (hn : n + 400 ≤ 1000000) (rest : Mm) :
    ∃ x D M S st', F_law_sparse [.at 0, .d (eP p)] (Ms st rest) = some (eW x, Ms st' rest) ∧ RB D M S x ∧ 0 < D ∧ D ≤ 2 ^ 246 ∧ M ≤ 2 ^ 252 ∧ S ≤ 225 ∧ Spd (n + 300) st' := by
  obtain ⟨t, s1, e1, ht, h1⟩ := grove_ok h (by omega) rest
  have hlv : t.lvs ≤ 8 := Nat.le_trans (lvs_le t) (Nat.le_trans (Nat.pow_le_pow_right (by decide) ht) (by decide))
  have key := for_pre (gg := ggN 4) (b := gsApp 3 (gIte (gtV (g2 eqD (gCall (F_law_sip) (gam 0 (gac (gC (.int 3)) (ga0)))) (gC (.int 0)))) (gTup (glc (g2 subD (gCall (F_law_sip) (gam 0 (gac (gC (.int 3)) (ga0)))) (gC (.int 1))) (glc (gTup (glc (gCall (F_law_some) (gam 0 (ga0))) (gl0))) (gl0)))) (gTup (glc (gC (.int 0)) (glc (gTup (gl0)) (gl0))))))
    (fun k : Nat => PyData.int (k : Nat))
    (fun pre e m' => ∃ s' rows u, e = [some (.at 0), some (.d (eP p)), some (.d (eT t)), some (.at (rest.length + 1)), u, none] ∧ m' = Ms s' (rest ++ [some (rows.map eW)]) ∧ rows.length = pre.length ∧ (∀ y ∈ rows, RB 60 3600 1 y) ∧ Spd (n + 20 + 6 * pre.length) s')
    (List.range t.lvs) (fun pre k post e m' hpl hR => by
      obtain ⟨s', rows, u, rfl, rfl, hl, hrb, hsp⟩ := hR
      have hp : pre.length + 1 ≤ t.lvs := by
        have := congrArg List.length hpl
        rw [List.length_range, List.length_append, List.length_cons] at this
        omega
      have hb : (rows.map eW).length < big := by
        rw [List.length_map, hl]
        exact Nat.lt_of_le_of_lt (show _ ≤ 100 by omega) (by decide)
      obtain ⟨v, s2, e2, v0, v1, h2⟩ := sip_ok (top := 3) hsp (by omega) (by decide) (by decide) (rest ++ [some (rows.map eW)])
      by_cases hv : v = 0
      · obtain ⟨c, s3, e3, c0, c1, h3⟩ := sip_ok (top := 3) h2 (by omega) (by decide) (by decide) (rest ++ [some (rows.map eW)])
        obtain ⟨r, s4, e4, b4, r4, h4⟩ := some_ok h3 (by omega) (rest ++ [some (rows.map eW)])
        refine ⟨_, _, ?_, s4, rows ++ [(c - 1, [r])], some (.d (.int (k : Nat))), rfl, rfl, by rw [List.length_append, List.length_append, hl]; rfl, fun y hy => ?_, ?_⟩
        · have ex : (rows ++ [(c - 1, [r])]).map eW = rows.map eW ++ [.tuple [.int (c - 1), .tuple [eQ r]]] := by simp [eW]
          rw [ex]
          have g1 : ∀ s, (Ms s (rest ++ [some (rows.map eW)]))[rest.length + 1]? = some (some (rows.map eW)) := fun s => getM
          generalize rows.map eW = Y at *
          simp only [ap_ggN, Option.bind_some, ap_gsApp]
          simp [e2, hv, e3, e4, hb, setMn]
        · rcases List.mem_append.mp hy with hy | hy
          · exact hrb y hy
          · rw [List.mem_singleton.mp hy]
            exact rb_one b4 r4 (by omega) (by omega)
        · rw [List.length_append, List.length_singleton]
          exact h4.mono (by omega)
      · refine ⟨_, _, ?_, s2, rows ++ [(0, [])], some (.d (.int (k : Nat))), rfl, rfl, by rw [List.length_append, List.length_append, hl]; rfl, fun y hy => ?_, ?_⟩
        · have ex : (rows ++ [(0, [])]).map eW = rows.map eW ++ [.tuple [.int 0, .tuple []]] := by simp [eW]
          rw [ex]
          have g1 : ∀ s, (Ms s (rest ++ [some (rows.map eW)]))[rest.length + 1]? = some (some (rows.map eW)) := fun s => getM
          generalize rows.map eW = Y at *
          simp only [ap_ggN, Option.bind_some, ap_gsApp]
          simp [e2, hv, hb, setMn]
        · rcases List.mem_append.mp hy with hy | hy
          · exact hrb y hy
          · rw [List.mem_singleton.mp hy]
            exact rb_zero
        · rw [List.length_append, List.length_singleton]
          exact h2.mono (by omega)) [some (.at 0), some (.d (eP p)), some (.d (eT t)), some (.at (rest.length + 1)), none, none] (Ms s1 (rest ++ [some []])) ⟨s1, [], none, rfl, rfl, rfl, (fun z hz => by cases hz), h1.mono (by show n + 20 ≤ n + 20 + 6 * 0; omega)⟩
  obtain ⟨e5, m5, h5, s5, rows, u, rfl, rfl, hl, hrb, hsp⟩ := key
  rw [List.length_range] at hl hsp
  have e6 := F_bush_leaves_ok (Ms s1 (rest ++ [some []])) 6 t (by omega)
  obtain ⟨r, hr⟩ : ∃ r, (detR p).2[0]? = some r := ⟨_, List.getElem?_eq_getElem (List.length_pos_iff.mpr hd)⟩
  obtain ⟨e7, Du, d0, d1, hu⟩ := F_law_undone_ok hp hr (Ms s5 (rest ++ [some (rows.map eW)]))
  have e8 := F_led_back_ok d0 d1 hu (Ms s5 (rest ++ [none])) 6 t 3 rows ht (Nat.le_refl 3) (by decide) hl hrb
  have hB := ledB_rb d0 d1 hu t 3 rows ht (Nat.le_refl 3) hrb
  obtain ⟨p1, p2⟩ := du_pow d0 d1 3
  have q0 : -1000000 ≤ (t.lvs : Int) ∧ (t.lvs : Int) ≤ 1000000 := by omega
  have t1 : (Ms s5 (rest ++ [some (rows.map eW)]))[rest.length + 1]? = some (some (rows.map eW)) := getM
  obtain ⟨x, s9, e9, b9, _, _, h9⟩ := row_ok (most := 6) hsp (by decide) (by decide) (by omega) (rest ++ [none])
  rw [show ((6 : Nat) : Int) = 6 from rfl] at e9
  generalize hx : ledB (undR p r) t rows = y at *
  generalize rows.map eW = Y at *
  by_cases c1 : (y.2.length : Int) < 25
  · by_cases c2 : (-900 : Int) < y.1
    · by_cases c3 : y.1 < 900
      · refine ⟨y, _, _, _, s5, ?_, hB, p1, p2, by decide, by decide, hsp.mono (by omega)⟩
        simp [F_law_sparse, g_law_sparse, e1, e6, q0, rng0, h5, e7, setMn, e8, c1, c2, c3]
      · refine ⟨x, _, _, _, s9, ?_, b9, by decide, by decide, by decide, by decide, h9.mono (by omega)⟩
        simp [F_law_sparse, g_law_sparse, e1, e6, q0, rng0, h5, e7, setMn, e8, c1, c2, c3, e9]
    · refine ⟨x, _, _, _, s9, ?_, b9, by decide, by decide, by decide, by decide, h9.mono (by omega)⟩
      simp [F_law_sparse, g_law_sparse, e1, e6, q0, rng0, h5, e7, setMn, e8, c1, c2, e9]
  · refine ⟨x, _, _, _, s9, ?_, b9, by decide, by decide, by decide, by decide, h9.mono (by omega)⟩
    simp [F_law_sparse, g_law_sparse, e1, e6, q0, rng0, h5, e7, setMn, e8, c1, e9]
theorem bud_of : ∀ (k a b D M S : Nat), 0 < D → D ≤ 2 ^ a → M ≤ 2 ^ b → S ≤ 225 → a + 12 * k < 1900 → b + 43 * k < 1900 → Bud 3600 (2 ^ 30) 7 k D M S
  | 0, a, b, D, M, S, h0, h1, h2, h3, h4, h5 => ⟨ns_of h0 h1 h2 (by omega) (by omega), by omega⟩
  | k + 1, a, b, D, M, S, h0, h1, h2, h3, h4, h5 => by
    refine ⟨⟨ns_of h0 h1 h2 (by omega) (by omega), by omega⟩, bud_of k (12 + a) (13 + (30 + b)) _ _ _ (Nat.mul_pos (by decide) h0) (mul_pow (by decide) h1) (mul_pow ?_ (mul_pow (Nat.le_refl _) h2)) (by omega) (by omega) (by omega)⟩
    have : (2 * 7 + 1) * (2 * S + 1) ≤ 15 * 451 := Nat.mul_le_mul (by decide) (by omega)
    exact Nat.le_trans this (by decide)
def restG : GS := (gsSeq (gsAsg (gCall (F_law_pick) (gam 0 (gac (gList (glD (glc (gC (.int 0)) (glc (gC (.int 1)) (glc (gC (.int 2)) (glc (gC (.int 2)) (glc (gC (.int 3)) (glc (gC (.int 3)) (glc (gC (.int 4)) (gl0)))))))))) (ga0)))) (ggN 3)) (gsSeq (gsAsg (gCall (F_law_best) (gac (gCall (F_law_all_trees 6) (gac (gVar 1) (gac (gVar 2) (gac (gVar 3) (ga0))))) (ga0))) (ggT 2 (ggc (ggN 4) (ggc (ggN 5) (gg0))))) (gsSeq (gsPar 6 7 (gCall (F_fewest_tree) (gac (gVar 1) (gac (gVar 2) (gac (gVar 3) (ga0))))) (gCall (F_fewest_numbers) (gac (gVar 1) (gac (gVar 2) (gac (gVar 3) (ga0)))))) (gsSeq (gsIf (gtOr (gtV (g2 neD (gVar 5) (gC (.int 1)))) (gtV (g2 neD (g1 reprD (gList (glD (glc (gVar 6) (glc (gVar 7) (gl0)))))) (g1 reprD (gList (glD (glc (g2 idxD (gVar 4) (gC (.int 2))) (glc (g2 idxD (gVar 4) (gC (.int 0))) (gl0))))))))) (gsRet (gC (.bool false))) (gsN)) (gsSeq (gsIf (gtV (g2 neD (g1 reprD (gList (glD (glc (gCallK 2 1 0 F_fewest_tree (gac (gVar 3) (gac (gVar 2) (gac (gVar 1) (ga0))))) (glc (gCallK 1 2 0 F_fewest_numbers (gac (gVar 3) (gac (gVar 1) (gac (gVar 2) (ga0))))) (gl0)))))) (g1 reprD (gList (glD (glc (gVar 6) (glc (gVar 7) (gl0)))))))) (gsRet (gC (.bool false))) (gsN)) (gsSeq (gsIf (gtV (g2 neD (g1 sumD (gList (glLc (gxL (gCall (F_law_led 6) (gac (gVar 1) (gac (gVar 6) (gac (gVar 2) (ga0)))))) 9 [9] (gtYes) (gCall (F_law_count) (gac (gVar 9) (ga0)))))) (gVar 7))) (gsRet (gC (.bool false))) (gsN)) (gsSeq (gsAsg (gCall (F_tree_channels) (gac (gVar 1) (gac (gVar 6) (gac (gVar 2) (ga0))))) (ggN 8)) (gsSeq (gsIf (gtV (g2 neD (g1 reprD (gVar 8)) (g1 reprD (g1 tupleD (gCall (F_law_led 6) (gac (gVar 1) (gac (gVar 6) (gac (gVar 2) (ga0))))))))) (gsRet (gC (.bool false))) (gsN)) (gsRet (gOr (g2 eqD (gVar 3) (gC (.int 4))) (g2 leD (gCall (F_fewest_numbers) (gac (gVar 1) (gac (gVar 2) (gac (g2 addD (gVar 3) (gC (.int 1))) (ga0))))) (gVar 7))))))))))))
end Bs.Mt
/-! MY: the law's one turn tells True. -/
namespace Bs.Mt
open PySem

@[simp] theorem ap_gCallK {i j l : Nat} {F : Fn} {a : GA} {e : En} {m : Mm} : gCallK i j l F a e m = (a e m).bind fun p => if p.1.length = 3 then F (perm3 i j l p.1) p.2 else none := rfl
theorem intsD_map {α : Type} (f : α → Int) : ∀ l : List α, intsD (l.map fun y => PyData.int (f y)) = some (l.map f)
  | [] => rfl
  | a :: r => by
    show (intsD (r.map fun y => PyData.int (f y))).map (f a :: ·) = _
    rw [intsD_map f r]
    rfl
theorem sum_cast : ∀ l : List Nat, (l.map fun n : Nat => (n : Int)).sum = ((l.sum : Nat) : Int)
  | [] => rfl
  | a :: r => by
    rw [List.map_cons, List.sum_cons, sum_cast r, List.sum_cons, Int.natCast_add]
theorem deep_mem {x : D} (h : x ∈ [PyData.int 0, .int 1, .int 2, .int 2, .int 3, .int 3, .int 4]) : ∃ k : Nat, x = .int (k : Int) ∧ k ≤ 4 := by
  simp only [List.mem_cons, List.not_mem_nil, or_false] at h
  rcases h with h | h | h | h | h | h | h <;> subst h
  · exact ⟨0, rfl, by decide⟩
  · exact ⟨1, rfl, by decide⟩
  · exact ⟨2, rfl, by decide⟩
  · exact ⟨2, rfl, by decide⟩
  · exact ⟨3, rfl, by decide⟩
  · exact ⟨3, rfl, by decide⟩
  · exact ⟨4, rfl, by decide⟩
theorem rest_ok {n D M S : Nat} {st : St3} {p : Rw × Rw} {x : Rw} (hp : PBk p) (hx : RB D M S x) (h0 : 0 < D) (h1 : D ≤ 2 ^ 246) (h2 : M ≤ 2 ^ 252) (h3 : S ≤ 225) (h : Spd n st) (hn : n + 1 ≤ 1000000) (rest : Mm) :
    ∃ st', restG [some (.at 0), some (.d (eP p)), some (.d (eW x)), none, none, none, none, none, none, none] (Ms st rest) = some (.rt (.bool true) (Ms st' rest)) := by
  obtain ⟨y, s1, e1, hy, hs⟩ := pick_ok (xs := [.int 0, .int 1, .int 2, .int 2, .int 3, .int 3, .int 4]) h hn (by decide) (by decide) rest
  obtain ⟨k, rfl, hk⟩ := deep_mem hy
  have B4 : ∀ j, j ≤ 4 → Bud 3600 (2 ^ 30) 7 j D M S := fun j hj => bud_of j 246 252 D M S h0 h1 h2 h3 (by omega) (by omega)
  generalize hm : Ms s1 rest = m
  have c1 := F_all_ok hp nsk 6 k D M S x m (by omega) hk (B4 k hk) hx
  obtain ⟨e0, i1, i2⟩ := alone_fold (alone_all (p := p) k x)
  have c2 := F_best_ok e0 (allT p k x) i1 m
  rw [i2] at c2
  obtain ⟨c3, c4⟩ := F_fewest_ok hp nsk hk (B4 k hk) hx m
  have dp0 : (best p k x).2.dep ≤ k := best_dep k x
  have c5 := (F_led_ok hp nsk m 6 (best p k x).2 k D M S x dp0 (by omega) (Nat.le_refl 6) (B4 k hk) hx).2
  have c6 := F_tree_channels_ok hp nsk dp0 hk (B4 k hk) hx m
  have hc : cnt x ≤ 1000 := by
    have := hx.len
    have : cnt x ≤ x.2.length := List.length_filter_le _ _
    omega
  have hb := best_le (p := p) k x
  have hdep : (best p k x).2.dep ≤ 4 := Nat.le_trans dp0 hk
  have r1 := op_repr_tn hdep (n := (best p k x).1) (by omega)
  have lr := led_rb hp (best p k x).2 k D M S x dp0 (B4 k hk) hx
  have lt := led_tot hp (best p k x).2 k D M S x dp0 hx
  have hlv := lvs_big (t := (best p k x).2) (by omega)
  have hp4 : 2 ^ k ≤ 2 ^ 4 := Nat.pow_le_pow_right (by decide) hk
  have hp5 : (2 ^ k - 1) * (2 * 7 + 5) ≤ 15 * 19 := Nat.mul_le_mul (by omega) (by decide)
  have r2 := op_repr_rows lr (by rw [led_len]; exact hlv) (by omega)
  have sm := best_sum (p := p) k x
  have c7 : ∀ e : En, e.length = 10 → compG e 9 gtYes (gCall (F_law_count) (gac (gVar 9) (ga0))) ((led p (best p k x).2 x).map eW) m [] = some ((led p (best p k x).2 x).map fun y => PyData.int ((cnt y : Nat) : Int), m) := by
    intro e f
    have g1 : ∀ v : Option Sl, (e.set 9 v)[9]? = some v := fun v => List.getElem?_set_self (by omega)
    exact comp_map (e := e) (j := 9) (m := m) eW (fun y => PyData.int ((cnt y : Nat) : Int)) _ (fun y hy => by
      obtain ⟨D', M', S', q1, q2, q3⟩ := lr y hy
      simp [g1, F_law_count_ok y (rb_big q1 q3)]) (by rw [led_len]; exact Nat.le_trans hlv (by decide))
  have c8 : sumD (.list ((led p (best p k x).2 x).map fun y => PyData.int ((cnt y : Nat) : Int))) = some (.int ((best p k x).1 : Nat)) := by
    unfold sumD
    simp only []
    rw [intsD_map]
    show some (PyData.int (((led p (best p k x).2 x).map fun y => ((cnt y : Nat) : Int)).sum)) = _
    have e9 : ((led p (best p k x).2 x).map fun y => ((cnt y : Nat) : Int)) = ((led p (best p k x).2 x).map cnt).map fun n : Nat => (n : Int) := by rw [List.map_map]; rfl
    rw [e9, sum_cast, sm]
  have ei : ∀ t : Tr, eA ((best p k x).1, t.lvs, t) = .tuple [.int ((best p k x).1 : Nat), .int (t.lvs : Nat), eT t] := fun _ => rfl
  have c9 : k < 4 → F_fewest_numbers [.d (eP p), .d (eW x), .d (.int ((k : Int) + 1))] m = some (.int (best p (k + 1) x).1, m) := fun h => (F_fewest_ok hp nsk (k := k + 1) (by omega) (B4 (k + 1) (by omega)) hx m).2
  have mono := best_mono (p := p) k x
  have ng : ∀ s : Str, neD (.str s) (.str s) = some (.bool false) := op_neS
  generalize hLL : (led p (best p k x).2 x).map eW = LL at *
  generalize hCC : ((led p (best p k x).2 x).map fun y => PyData.int ((cnt y : Nat) : Int)) = CC at *
  generalize hAA : (allT p k x).map eA = AA at *
  refine ⟨s1, ?_⟩
  rw [hm] at e1
  rw [hm]
  have pm1 : ∀ a b c : Sl, perm3 2 1 0 [a, b, c] = [c, b, a] := fun _ _ _ => rfl
  have pm2 : ∀ a b c : Sl, perm3 1 2 0 [a, b, c] = [b, c, a] := fun _ _ _ => rfl
  by_cases h4 : k = 4
  · have h4' : (k : Int) = 4 := by omega
    rw [h4'] at e1 c1 c3 c4
    simp [restG, e1, c1, c2, c3, c4, r1, ng, pm1, pm2, c5, c7, c8, c6, r2]
  · have h4' : ¬ (k : Int) = 4 := by omega
    have c9' := c9 (by omega)
    simp [restG, e1, c1, c2, c3, c4, r1, ng, pm1, pm2, c5, c7, c8, c6, r2, h4', c9', mono]
theorem right_eq : g_law_right = gsSeq (gsIf (gtV (g2 eqD (gCall (F_law_sip) (gam 0 (gac (gC (.int 3)) (ga0)))) (gC (.int 0)))) (gsPar 1 2 (gTup (glc (gCall (F_law_mild_row) (gam 0 (gac (gC (.int 3)) (ga0)))) (glc (gCall (F_law_mild_row) (gam 0 (gac (gC (.int 3)) (ga0)))) (gl0)))) (gCall (F_law_row) (gam 0 (gac (gC (.int 8)) (ga0)))))
    (gsSeq (gsAsg (gIte (gtV (g2 eqD (gCall (F_law_sip) (gam 0 (gac (gC (.int 2)) (ga0)))) (gC (.int 0)))) (gCall (F_law_safe) (gam 0 (gac (gC (.int 1)) (ga0))))
      (gTup (glc (gTup (glc (gC (.int 0)) (glc (gTup (glc (gTup (glc (gC (.int 1)) (glc (gC (.int 2)) (gl0)))) (glc (gTup (glc (gC (.int 1)) (glc (gC (.int 2)) (gl0)))) (gl0)))) (gl0)))) (glc (gTup (glc (gC (.int 0)) (glc (gTup (glc (gTup (glc (g1 negD (gC (.int 1))) (glc (gC (.int 1)) (gl0)))) (glc (gTup (glc (gC (.int 1)) (glc (gC (.int 1)) (gl0)))) (gl0)))) (gl0)))) (gl0))))) (ggN 1)) (gsAsg (gCall (F_law_sparse) (gam 0 (gac (gVar 1) (ga0)))) (ggN 2)))) restG := rfl
theorem haar_eP : eP haarP = .tuple [.tuple [.int 0, .tuple [.tuple [.int 1, .int 2], .tuple [.int 1, .int 2]]], .tuple [.int 0, .tuple [.tuple [.int (-1), .int 1], .tuple [.int 1, .int 1]]]] := rfl
theorem right_ok {st : St3} (h : Spd 0 st) (rest : Mm) : ∃ m', F_law_right [.at 0] (Ms st rest) = some (.bool true, m') := by
  obtain ⟨v, s1, e1, v0, v1, h1⟩ := sip_ok (top := 3) h (by decide) (by decide) (by decide) rest
  by_cases hv : v = 0
  · obtain ⟨x1, s2, e2, r1, _, h2⟩ := mild_ok (most := 3) h1 (by decide) (by decide) (by decide) rest
    obtain ⟨x2, s3, e3, r2, _, h3⟩ := mild_ok (most := 3) h2 (by decide) (by decide) (by decide) rest
    obtain ⟨y, s4, e4, r3, _, _, h4⟩ := row_ok (most := 8) h3 (by decide) (by decide) (by decide) rest
    rw [show ((3 : Nat) : Int) = 3 from rfl] at e2 e3
    rw [show ((8 : Nat) : Int) = 8 from rfl] at e4
    have hp : PBk (x1, x2) := ⟨rb_mono (rb_scale (E := 60) r1) (by decide) (by decide), rb_mono (rb_scale (E := 60) r2) (by decide) (by decide)⟩
    obtain ⟨s5, e5⟩ := rest_ok hp r3 (by decide) (by decide) (by decide) (by decide) h4 (by decide) rest
    have ep : PyData.tuple [eW x1, eW x2] = eP (x1, x2) := rfl
    unfold F_law_right
    rw [right_eq]
    simp [e1, hv, e2, e3, e4, ep, e5]
  · obtain ⟨w, s2, e2, w0, w1, h2⟩ := sip_ok (top := 2) h1 (by decide) (by decide) (by decide) rest
    by_cases hw : w = 0
    · obtain ⟨p, s3, e3, hp, hd, h3⟩ := safe_ok h2 (by decide) rest
      obtain ⟨y, D, M, S, s4, e4, r3, d0, d1, d2, d3, h4⟩ := sparse_ok h3 hp hd (by decide) rest
      obtain ⟨s5, e5⟩ := rest_ok hp r3 d0 d1 d2 d3 h4 (by decide) rest
      unfold F_law_right
      rw [right_eq]
      simp [e1, hv, e2, hw, e3, e4, e5]
    · obtain ⟨y, D, M, S, s4, e4, r3, d0, d1, d2, d3, h4⟩ := sparse_ok h2 haar_bd haar_det (by decide) rest
      obtain ⟨s5, e5⟩ := rest_ok haar_bd r3 d0 d1 d2 d3 h4 (by decide) rest
      rw [haar_eP] at e4 e5
      unfold F_law_right
      rw [right_eq]
      simp [e1, hv, e2, hw, e4, e5]
/-! ### the spring -/
@[simp] theorem ap_glCat {a b : GL} {e : En} {m : Mm} : glCat a b e m = (a e m).bind fun p => (b e p.2).bind fun q => if p.1.length + q.1.length ≤ big then some (p.1 ++ q.1, q.2) else none := rfl
theorem rol_fst (ns : List Int) : ((ns.map PyData.int).map fun x => (x, PyData.none)).map (·.1) = ns.map PyData.int := by
  rw [List.map_map]
  exact List.map_id _
theorem cut_ints (ns : List Int) (k : Nat) : ∃ l : List Int, cutD (ns.map PyData.int) none (some (k : Int)) = l.map PyData.int ∧ l.length ≤ k := by
  refine ⟨ns.take (min k ns.length), ?_, ?_⟩
  · unfold cutD sxD
    simp only []
    rw [if_neg (by omega), List.drop_zero, Int.toNat_natCast, List.length_map, Nat.sub_zero, List.map_take]
  · rw [List.length_take]
    omega
theorem sum_ints (l : List Int) : sumD (.list (l.map PyData.int)) = some (.int l.sum) := by
  unfold sumD
  simp only []
  have := intsD_map (fun i : Int => i) l
  rw [this, List.map_id']
  rfl
theorem mix_ok (l : List Int) (S T C : Option Sl) (m : Mm) (x : Int) (h0 : 0 ≤ x) (h1 : x < 2147483563) : ∃ u y, forG (ggN 4) (gsAsg (g2 modD (g1 intD (g2 addD (g2 addD (g2 mulD (gVar 3) (gC (.int 47653))) (g2 modD (g1 intD (gVar 4)) (gC (.int 2147483563)))) (gC (.int 29)))) (gC (.int 2147483563))) (ggN 3)) (l.map PyData.int) [S, T, C, some (.d (.int x)), none] m =
    some (.nx [S, T, C, some (.d (.int y)), u] m) ∧ 0 ≤ y ∧ y < 2147483563 := by
  have key := for_pre (gg := ggN 4) (b := gsAsg (g2 modD (g1 intD (g2 addD (g2 addD (g2 mulD (gVar 3) (gC (.int 47653))) (g2 modD (g1 intD (gVar 4)) (gC (.int 2147483563)))) (gC (.int 29)))) (gC (.int 2147483563))) (ggN 3)) PyData.int
    (fun _ e m' => ∃ y u, e = [S, T, C, some (.d (.int y)), u] ∧ m' = m ∧ 0 ≤ y ∧ y < 2147483563) l (fun pre z post e m' _ hR => by
      obtain ⟨y, u, rfl, rfl, y0, y1⟩ := hR
      have e1 : mulD (.int y) (.int 47653) = some (.int (y * 47653)) := op_mul64 (by omega) (by decide)
      have e2 : ∀ i : Int, modD (.int i) (.int 2147483563) = some (.int (i % 2147483563)) := fun i => op_modP (by decide)
      exact ⟨_, _, by simp [e1, e2], (y * 47653 + z % 2147483563 + 29) % 2147483563, some (.d (.int z)), rfl, rfl, Int.emod_nonneg _ (by decide), Int.emod_lt_of_pos _ (by decide)⟩) [S, T, C, some (.d (.int x)), none] m ⟨x, none, rfl, rfl, h0, h1⟩
  obtain ⟨e1, m1, f1, y, u, rfl, rfl, y0, y1⟩ := key
  exact ⟨u, y, f1, y0, y1⟩
theorem spring_ok (ns : List Int) (hl : ns.length ≤ 63) (t : Nat) (ht : t < 2) (m : Mm) : ∃ st, FL_law_spring [.d (rol (ns.map PyData.int)), .d (.int (t : Int))] m = some (eS st, m) ∧ Spd 0 st := by
  have hr : rol (ns.map PyData.int) = .dict ((ns.map PyData.int).map fun x => (x, PyData.none)) := rfl
  have hf := rol_fst ns
  obtain ⟨l6, c6, k6⟩ := cut_ints ns 6
  obtain ⟨l9, c9, k9⟩ := cut_ints ns 9
  rw [show ((6 : Nat) : Int) = 6 from rfl] at c6
  rw [show ((9 : Nat) : Int) = 9 from rfl] at c9
  have m1 : mulD (.int 6007) (.int (t : Int)) = some (.int (6007 * t)) := op_mul64 (by decide) (by omega)
  have m2 : mulD (.int 3001) (.int (t : Int)) = some (.int (3001 * t)) := op_mul64 (by decide) (by omega)
  have m3 : ∀ i : Int, modD (.int i) (.int 1000037) = some (.int (i % 1000037)) := fun i => op_modP (by decide)
  have pw : powD (.int 10) (.int 18) = some (.int 1000000000000000000) := rfl
  have s6 := sum_ints l6
  have fin : ∀ cell : Int, ∃ st, (((gsSeq (gsAsg (g2 addD (gC (.int 40127)) (g2 mulD (gC (.int 3001)) (gVar 1))) (ggN 3)) (gsSeq (gsFor (gxL (gList (glCat (glSl (gVar 0) (gpN) (gpS (gC (.int 9)))) (glD (glc (gVar 2) (gl0)))))) (ggN 4) (gsAsg (g2 modD (g1 intD (g2 addD (g2 addD (g2 mulD (gVar 3) (gC (.int 47653))) (g2 modD (g1 intD (gVar 4)) (gC (.int 2147483563)))) (gC (.int 29)))) (gC (.int 2147483563))) (ggN 3))) (gsRetL (glD (glc (gIte (gtOr (gtV (g2 ltD (gVar 2) (gC (.int 0)))) (gtV (g2 geD (gVar 2) (g2 powD (gC (.int 10)) (gC (.int 18)))))) (g1 absD (gVar 2)) (gC (.int 0))) (glc (gVar 3) (glc (gC (.int 0)) (gl0)))))))))
      [some (.d (.dict ((ns.map PyData.int).map fun x => (x, PyData.none)))), some (.d (.int (t : Int))), some (.d (.int cell)), none, none] m) = some (.rl (eS st) m) ∧ Spd 0 st := by
    intro cell
    obtain ⟨u, y, f1, y0, y1⟩ := mix_ok (l9 ++ [cell]) (some (.d (.dict ((ns.map PyData.int).map fun x => (x, PyData.none))))) (some (.d (.int (t : Int)))) (some (.d (.int cell))) m (40127 + 3001 * t) (by omega) (by omega)
    have hb : l9.length + 1 ≤ big := Nat.le_trans (show _ ≤ 100 by omega) (by decide)
    rw [List.map_append] at f1
    simp only [List.map_cons, List.map_nil] at f1
    generalize ((ns.map PyData.int).map fun x => (x, PyData.none)) = KV at *
    by_cases h1 : cell < 0
    · refine ⟨⟨-cell, y, 0⟩, ?_, ⟨y0, y1, Int.le_refl 0, Int.le_refl 0⟩⟩
      simp [m2, hf, c9, hb, pw, f1, h1, eS]
    · by_cases h2 : 1000000000000000000 ≤ cell
      · refine ⟨⟨cell, y, 0⟩, ?_, ⟨y0, y1, Int.le_refl 0, Int.le_refl 0⟩⟩
        simp [m2, hf, c9, hb, pw, f1, h1, h2, eS]
      · refine ⟨⟨0, y, 0⟩, ?_, ⟨y0, y1, Int.le_refl 0, Int.le_refl 0⟩⟩
        simp [m2, hf, c9, hb, pw, f1, h1, h2, eS]
  have hkl : (((ns.map PyData.int).map fun x => (x, PyData.none)).map (·.1)).length = ns.length := by rw [hf, List.length_map]
  rw [hr]
  have hlen : lenD (.dict ((ns.map PyData.int).map fun x => (x, PyData.none))) = some (.int ns.length) := by
    unfold lenD
    simp only []
    rw [hkl]
  have hidx : ∀ i : Int, idxD (.dict ((ns.map PyData.int).map fun x => (x, PyData.none))) (.int i) = atD (ns.map PyData.int) i := fun i => by
    unfold idxD
    simp only []
    rw [hf]
  have hsl : ∀ lo hi : Option Int, cutD ((((ns.map PyData.int).map fun x => (x, PyData.none))).map (·.1)) lo hi = cutD (ns.map PyData.int) lo hi := fun lo hi => by rw [hf]
  by_cases hlt : t < ns.length
  · have e1 : ns[t]? = some ns[t] := List.getElem?_eq_getElem hlt
    have e2 : atD (ns.map PyData.int) (t : Int) = some (.int ns[t]) := atD_map e1
    obtain ⟨st, fg1, fg2⟩ := fin ns[t]
    have p : (t : Int) < ns.length := by omega
    refine ⟨st, ?_, fg2⟩
    generalize ((ns.map PyData.int).map fun x => (x, PyData.none)) = KV at *
    unfold FL_law_spring runL g_law_spring
    rw [ap_gsSeq]
    have e3 : gsAsg (gIte (gtV (g2 ltD (gVar 1) (g1 lenD (gVar 0)))) (g1 intD (g2 idxD (gVar 0) (gVar 1))) (g2 addD (g2 addD (g2 mulD (gC (.int 6007)) (gVar 1)) (gC (.int 911))) (g2 modD (g1 intD (g1 sumD (gList (glSl (gVar 0) (gpN) (gpS (gC (.int 6))))))) (gC (.int 1000037))))) (ggN 2)
        [some (.d (.dict KV)), some (.d (.int (t : Int))), none, none, none] m = some (.nx [some (.d (.dict KV)), some (.d (.int (t : Int))), some (.d (.int ns[t])), none, none] m) := by
      simp [hlen, hidx, p, e2]
    have e4 : (([.d (.dict KV), .d (.int (t : Int))] : List Sl).map some ++ List.replicate (5 - ([.d (.dict KV), .d (.int (t : Int))] : List Sl).length) none) = [some (.d (.dict KV)), some (.d (.int (t : Int))), none, none, none] := rfl
    rw [e4, e3]
    show ((gsSeq _ _ _ _).bind _) = _
    rw [fg1]
    simp
  · obtain ⟨st, fg1, fg2⟩ := fin (6007 * t + 911 + l6.sum % 1000037)
    have p : ¬ (t : Int) < ns.length := by omega
    refine ⟨st, ?_, fg2⟩
    generalize ((ns.map PyData.int).map fun x => (x, PyData.none)) = KV at *
    unfold FL_law_spring runL g_law_spring
    rw [ap_gsSeq]
    have e3 : gsAsg (gIte (gtV (g2 ltD (gVar 1) (g1 lenD (gVar 0)))) (g1 intD (g2 idxD (gVar 0) (gVar 1))) (g2 addD (g2 addD (g2 mulD (gC (.int 6007)) (gVar 1)) (gC (.int 911))) (g2 modD (g1 intD (g1 sumD (gList (glSl (gVar 0) (gpN) (gpS (gC (.int 6))))))) (gC (.int 1000037))))) (ggN 2)
        [some (.d (.dict KV)), some (.d (.int (t : Int))), none, none, none] m = some (.nx [some (.d (.dict KV)), some (.d (.int (t : Int))), some (.d (.int (6007 * t + 911 + l6.sum % 1000037))), none, none] m) := by
      simp [hlen, p, m1, hf, c6, s6, m3]
    have e4 : (([.d (.dict KV), .d (.int (t : Int))] : List Sl).map some ++ List.replicate (5 - ([.d (.dict KV), .d (.int (t : Int))] : List Sl).length) none) = [some (.d (.dict KV)), some (.d (.int (t : Int))), none, none, none] := rfl
    rw [e4, e3]
    show ((gsSeq _ _ _ _).bind _) = _
    rw [fg1]
    simp
@[simp] theorem ap_gCallN {F : Fn} {a : GL} {e : En} {m : Mm} : gCallN F a e m = (a e m).bind fun p => (F [.at p.2.length] (p.2 ++ [some p.1])).map fun q => (q.1, q.2.take m.length) := rfl
@[simp] theorem ap_glCall {F : FnL} {a : GA} {e : En} {m : Mm} : glCall F a e m = (a e m).bind fun p => F p.1 p.2 := rfl
theorem law_true (ns : List Int) (hl : ns.length ≤ 63) : ∃ m, F_law [.d (rol (ns.map PyData.int))] [] = some (.bool true, m) := by
  have hc : ∀ e : En, e[0]? = some (some (.d (rol (ns.map PyData.int)))) → e.length = 2 → compG e 1 gtYes (gCallN F_law_right (glCall FL_law_spring (gac (gVar 0) (gac (gVar 1) (ga0))))) (rngD 0 2) [] [] = some ([.bool true, .bool true], []) := by
    intro e f1 f2
    have g1 : ∀ v : Option Sl, (e.set 1 v)[1]? = some v := fun v => List.getElem?_set_self (by omega)
    have g2 : ∀ v : Option Sl, (e.set 1 v)[0]? = some (some (.d (rol (ns.map PyData.int)))) := fun v => by rw [List.getElem?_set_ne (by decide)]; exact f1
    have r : rngD 0 2 = [0, 1].map fun k : Nat => PyData.int (k : Int) := rfl
    rw [r, comp_map (e := e) (j := 1) (m := []) (fun k : Nat => PyData.int (k : Int)) (fun _ => PyData.bool true) [0, 1] (fun k hk => ?_) (by decide)]
    · rfl
    · obtain ⟨st, e1, hs⟩ := spring_ok ns hl k (by
        simp only [List.mem_cons, List.not_mem_nil, or_false] at hk
        omega) []
      obtain ⟨m', e2⟩ := right_ok hs []
      simp [g1, g2, e1]
      exact ⟨m', e2⟩
  have ha : allD (.list [.bool true, .bool true]) = some (.bool true) := rfl
  refine ⟨[], ?_⟩
  simp [F_law, g_law, hc, ha]
end Bs.Mt
set_option maxHeartbeats 0
theorem PySem.Challenge.cw_bandsplits_k71_whole_fewest_trees_holds : PySem.Challenge.rw_bandsplits_k71_whole_fewest_trees.Holds := by
  open PySem.W PySem.Calls in
  w_on; o_law
  o_head Bs.hkX
  case hw => w_witness2
  case hc => exact Bs.walk_of Bs.Mt.law_true _
