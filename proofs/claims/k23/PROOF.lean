import PyProof.Rows.All
import HandS.ForMost
import HandS.Walk
import HandS.Zip
import HandS.Conv
import HandS.TupAny
import HandS.TupMul
import HandS.SortInts
import HandS.IsInst
import HandS.Deep
import HandS.WideBits
import HandS.Wide
import HandS.More
import HandS.SortKw
import HandS.TupLe
import HandS.Flt
import HandS.RaiseMore
import HandS.Style
import HandS.FStr
import KE.GoesEnum
import PySem.Challenge.RW_lettermend_k23_whole_histories_of_disks
set_option Elab.async false
set_option linter.all false
set_option maxRecDepth 100000
/-! Mi: Python data without addresses, a small interpreter over it. -/
namespace Mi
open PySem L2

abbrev D := PyData
/-- what a local name holds: nothing, a value, a list of its own (par: lent by the caller) -/
inductive Slot where
  | emp | val (d : D) | own (par : Bool) (xs : List D)
abbrev Sl := List Slot
/-- what an expression gives: a value, a list just made, the list of a slot -/
inductive R where
  | val (d : D) | new (xs : List D) | bor (i : Nat)
def R.get (e : Sl) : R → Option D
  | .val d => some d
  | .new xs => some (.list xs)
  | .bor i => match e[i]? with
    | some (.own _ xs) => some (.list xs)
    | _ => none
def R.sto : R → Option D
  | .val d => some d
  | .new xs => some (.list xs)
  | .bor _ => none
inductive Arg where
  | val (d : D) | own (xs : List D)
def Arg.slot : Arg → Slot
  | .val d => .val d
  | .own xs => .own true xs
/-- a def: from the arguments the result and what the lent lists hold behind it -/
abbrev FnSem := List Arg → Option (R × List (List D))
structure Phi where
  fn : Nat → FnSem
  gc : Nat → D

inductive Lit where
  | int (i : Int) | bool (b : Bool) | none | str (s : Str)
def Lit.d : Lit → D
  | .int i => .int i
  | .bool b => .bool b
  | .none => .none
  | .str s => .str s
inductive BOp where
  | add | sub | mul | fdiv | mod | pow
inductive COp where
  | eq | ne | lt | le | gt | ge | isN | notN | in_ | notIn
inductive F1 where
  | len | abs | int | str | repr | tuple | list | sorted | sum | any | all | max | min | ord
inductive F2 where
  | max | min | divmod
inductive Ty where
  | int | bool | tuple | list | str | dict
inductive M1 where
  | join | index
mutual
inductive Tg where
  | name (i : Nat) | tup (l : Tgs)
inductive Tgs where
  | nil | cons (a : Tg) (b : Tgs)
end
mutual
def Tg.ix : Tg → List Nat
  | .name i => [i]
  | .tup l => l.ix
def Tgs.ix : Tgs → List Nat
  | .nil => []
  | .cons a b => a.ix ++ b.ix
end
mutual
inductive E where
  | slot (i : Nat)
  | lit (c : Lit)
  | gc (j : Nat)
  | bin (op : BOp) (a b : E)
  | neg (a : E)
  | not (a : E)
  | and (a b : E)
  | or (a b : E)
  | cmp (op : COp) (a b : E)
  | cmp2 (op op' : COp) (a b c : E)
  | ite (c a b : E)
  | tup (es : Es)
  | lst (es : Es)
  | ix (a i : E)
  | sl (a : E) (lo hi : Oe)
  | f1 (f : F1) (a : E)
  | f2 (f : F2) (a b : E)
  | isT (t : Ty) (a : E)
  | rng (tup : Bool) (a : Oe) (b : E)
  | call (k : Nat) (as : As)
  | callK (k : Nat) (as : As) (kw : List Nat) (ks : Es)
  | comp (own : List (Str × Nat)) (tg : Tg) (it : It') (c : Oe) (e : E)
  | m1 (m : M1) (a b : E)
  | comp2 (own : List (Str × Nat)) (tg : Tg) (it : It') (tg1 : Tg) (it1 : It') (e : E)
  | min3 (a b c : E)
  | nset (a : E)
inductive Es where
  | nil | cons (e : E) (es : Es)
inductive Oe where
  | none | some (e : E)
inductive It' where
  | seq (e : E) | rng (a : Oe) (b : E) | zip (a b : E) | enum (a : E) | rng3 (a b c : E)
inductive As where
  | nil | v (e : E) (r : As) | m (i : Nat) (r : As) | n (e : E) (r : As)
end

/-! ### values -/
def atD (xs : List D) (i : Int) : Option D := atI xs i
def cutD {α : Type} (xs : List α) (lo hi : Option Int) : List α := (xs.drop (HT.sIx xs.length 0 lo)).take (HT.sIx xs.length xs.length hi - HT.sIx xs.length 0 lo)
def okC (d : D) : Bool := SeqAt.shaped d
def flatD : D → Bool
  | .none => true
  | .bool _ => true
  | .int _ => true
  | .str _ => true
  | _ => false
def eqD : D → D → Bool
  | .none, .none => true
  | .bool a, .bool b => a == b
  | .bool a, .int b => (if a then 1 else 0) == b
  | .int a, .bool b => a == (if b then 1 else 0)
  | .int a, .int b => a == b
  | .str a, .str b => a == b
  | _, _ => false
def inD (x : D) (xs : List D) : Bool := xs.any fun y => eqD y x
def intsL : List D → Option (List Int)
  | [] => some []
  | .int i :: r => (intsL r).map (i :: ·)
  | _ => none
def boolsL : List D → Option (List Bool)
  | [] => some []
  | .bool i :: r => (boolsL r).map (i :: ·)
  | _ => none
def strsL : List D → Option (List Str)
  | [] => some []
  | .str i :: r => (strsL r).map (i :: ·)
  | _ => none
def addD : D → D → Option R
  | .int i, .int j => some (.val (.int (i + j)))
  | .tuple xs, .tuple ys => if xs.length + ys.length ≤ sizeLine then some (.val (.tuple (xs ++ ys))) else none
  | .list xs, .list ys => if xs.length + ys.length ≤ sizeLine then some (.new (xs ++ ys)) else none
  | .str x, .str y => if x.length + y.length ≤ sizeLine then some (.val (.str (x ++ y))) else none
  | _, _ => none
def subD : D → D → Option R
  | .int i, .int j => some (.val (.int (i - j)))
  | _, _ => none
def mulD : D → D → Option R
  | .int i, .int j => if (-(2 ^ 64) < i ∧ i < 2 ^ 64) ∨ (-(2 ^ 64) < j ∧ j < 2 ^ 64) then some (.val (.int (i * j))) else none
  | .list xs, .int k => if -(2 ^ 63) ≤ k ∧ k < 2 ^ 63 ∧ xs.length * k.toNat ≤ sizeLine then some (.new (List.replicate k.toNat xs).flatten) else none
  | .tuple xs, .int k => if xs ≠ [] ∧ -(2 ^ 63) ≤ k ∧ k ≤ 1000 ∧ xs.length ≤ 1000 then some (.val (.tuple (List.replicate k.toNat xs).flatten)) else none
  | _, _ => none
def fdivD : D → D → Option R
  | .int i, .int j => if j ≠ 0 ∧ j.natAbs < 1073741824 then some (.val (.int (i.fdiv j))) else none
  | _, _ => none
def modD : D → D → Option R
  | .int i, .int j => if j ≠ 0 then some (.val (.int (i.fmod j))) else none
  | _, _ => none
def powD : D → D → Option R
  | .int i, .int j => if 0 ≤ j ∧ j ≤ 1000000 ∧ i.natAbs < 2 ^ 64 then some (.val (.int (i ^ j.toNat))) else none
  | _, _ => none
def binD : BOp → D → D → Option R
  | .add => addD
  | .sub => subD
  | .mul => mulD
  | .fdiv => fdivD
  | .mod => modD
  | .pow => powD
def eqqD : D → D → Option Bool
  | .str a, .str b => some (decide (a = b))
  | x, y => if SeqAt.shaped x = true ∧ SeqAt.shaped y = true then some (PyData.eqv x y) else none
def ltD : D → D → Option Bool
  | .int i, .int j => some (decide (i < j))
  | _, _ => none
def leD : D → D → Option Bool
  | .int i, .int j => some (decide (i ≤ j))
  | _, _ => none
def isND : D → D → Option Bool
  | .none, .none => some true
  | _, .none => some false
  | .bool a, .bool b => some (decide (a = b))
  | _, _ => none
def innD : D → D → Option Bool
  | x, .list ys => if flatD x = true ∧ ys.all flatD = true then some (inD x ys) else none
  | x, .tuple ys => if flatD x = true ∧ ys.all flatD = true then some (inD x ys) else none
  | .str x, .str y => some (!(Builtin.Str.occurrences y x 0 y.length 1).isEmpty)
  | _, _ => none
def cmpD : COp → D → D → Option Bool
  | .eq, x, y => eqqD x y
  | .ne, x, y => (eqqD x y).map (!·)
  | .lt, x, y => ltD x y
  | .le, x, y => leD x y
  | .gt, x, y => ltD y x
  | .ge, x, y => leD y x
  | .isN, x, y => isND x y
  | .notN, x, y => (isND x y).map (!·)
  | .in_, x, y => innD x y
  | .notIn, x, y => (innD x y).map (!·)
/-- the script: a list that is read alone -/
abbrev scr (xs : List D) : D := .dict [(.none, .list xs)]
def ixD : D → D → Option D
  | .dict [(.none, .list xs)], .int i => atI xs i
  | .list xs, .int i => atI xs i
  | .tuple xs, .int i => atI xs i
  | .str z, .int i => if z.length ≤ sizeLine then (atI z.cps.toList i).map fun c => .str ⟨#[c]⟩ else none
  | _, _ => none
def slD : D → Option Int → Option Int → Option R
  | .dict [(.none, .list xs)], lo, hi => some (.new (cutD xs lo hi))
  | .list xs, lo, hi => some (.new (cutD xs lo hi))
  | .tuple xs, lo, hi => some (.val (.tuple (cutD xs lo hi)))
  | _, _, _ => none
/-- sorted: the one arrangement (insertion) -/
def ins (x : Int) : List Int → List Int
  | [] => [x]
  | y :: r => if x ≤ y then x :: y :: r else y :: ins x r
def sortI : List Int → List Int
  | [] => []
  | x :: r => ins x (sortI r)
def maxI : List Int → Option Int
  | [] => none
  | [x] => some x
  | x :: y :: r => (maxI (y :: r)).map fun m => if m > x then m else x
def minI : List Int → Option Int
  | [] => none
  | [x] => some x
  | x :: y :: r => (minI (y :: r)).map fun m => if m < x then m else x
def seqOf : D → Option (List D)
  | .list xs => some xs
  | .tuple xs => some xs
  | _ => none
def lenD : D → Option R
  | .dict [(.none, .list xs)] => some (.val (.int xs.length))
  | .list xs => some (.val (.int xs.length))
  | .tuple xs => some (.val (.int xs.length))
  | .str z => if z.length ≤ sizeLine then some (.val (.int z.length)) else none
  | _ => none
def absD : D → Option R
  | .int i => some (.val (.int (if i < 0 then -i else i)))
  | _ => none
def intD : D → Option R
  | .int i => some (.val (.int i))
  | .bool k => some (.val (.int (if k then 1 else 0)))
  | .str a => if a.length ≤ 640 then (PySem.intText? a).map fun n => .val (.int n) else none
  | _ => none
def strD : D → Option R
  | .int i => if i.natAbs.log2 < 1920 then some (.val (.str (toString i))) else none
  | .str a => some (.val (.str a))
  | _ => none
def reprD (d : D) : Option R := if d.showable = true ∧ d.hasDict = false ∧ d.depth ≤ 60 ∧ d.shown.length ≤ sizeLine then some (.val (.str d.shown)) else none
def tupD : D → Option R
  | .list xs => some (.val (.tuple xs))
  | .tuple xs => some (.val (.tuple xs))
  | _ => none
def lstD : D → Option R
  | .list xs => some (.new xs)
  | .tuple xs => some (.new xs)
  | _ => none
def sortD : D → Option R
  | .list xs => (intsL xs).map fun l => .new ((sortI l).map PyData.int)
  | _ => none
def sumD : D → Option R
  | .list xs => (intsL xs).map fun l => .val (.int l.sum)
  | _ => none
def anyD : D → Option R
  | .list xs => (boolsL xs).map fun l => .val (.bool (l.any id))
  | _ => none
def allD : D → Option R
  | .list xs => (boolsL xs).map fun l => .val (.bool (l.all id))
  | _ => none
def maxD : D → Option R
  | .list xs => (intsL xs).bind fun l => (maxI l).map fun m => .val (.int m)
  | _ => none
def minD : D → Option R
  | .list xs => (intsL xs).bind fun l => (minI l).map fun m => .val (.int m)
  | _ => none
def ordD : D → Option R
  | .str x => if x.length = 1 then some (.val (.int (x.cps.getD 0 0 : Nat))) else none
  | _ => none
def f1D : F1 → D → Option R
  | .len => lenD
  | .abs => absD
  | .int => intD
  | .str => strD
  | .repr => reprD
  | .tuple => tupD
  | .list => lstD
  | .sorted => sortD
  | .sum => sumD
  | .any => anyD
  | .all => allD
  | .max => maxD
  | .min => minD
  | .ord => ordD
def max2D : D → D → Option R
  | .int i, .int j => some (.val (.int (if j > i then j else i)))
  | _, _ => none
def min2D : D → D → Option R
  | .int i, .int j => some (.val (.int (if j < i then j else i)))
  | _, _ => none
def dmD : D → D → Option R
  | .int i, .int j => if 0 < j ∧ j < 1073741824 then some (.val (.tuple [.int (i / j), .int (i % j)])) else none
  | _, _ => none
def f2D : F2 → D → D → Option R
  | .max => max2D
  | .min => min2D
  | .divmod => dmD
def isTD : Ty → D → Option Bool
  | _, .dict _ => none
  | .int, .int _ => some true
  | .int, .bool _ => some true
  | .bool, .bool _ => some true
  | .tuple, .tuple _ => some true
  | .list, .list _ => some true
  | .str, .str _ => some true
  | _, _ => some false
def m1D : M1 → D → D → Option R
  | .index, .list xs, y => if flatD y = true ∧ xs.all flatD = true then (xs.findIdx? fun z => eqD z y).map fun j => .val (.int (j : Nat)) else none
  | _, _, _ => none
def rgD (lo : Int) (n : Nat) : List D := (List.range n).map fun (k : Nat) => PyData.int (lo + (k : Int))
/-- range(i, j, k), k above 0 -/
def rg3N (i j k : Int) : Nat := if i < j then ((j - i - 1) / k + 1).toNat else 0
def rg3D (lo k : Int) (n : Nat) : List D := (List.range n).map fun (m : Nat) => PyData.int (lo + (m : Int) * k)
def min3I (i j k : Int) : Int := if k < (if j < i then j else i) then k else (if j < i then j else i)
/-- len(set(..)) of whole numbers -/
def nsetD : D → Option R
  | .list xs => (intsL xs).bind fun l => if l.Nodup ∧ l.length ≤ 4000 then some (.val (.int (l.length : Nat))) else none
  | _ => none
def R.flat : R → D
  | .val d => d
  | .new xs => .list xs
  | .bor _ => .none

/-! ### the interpreter: expressions -/
/-- an argument made ready -/
inductive PArg where
  | val (d : D) | new (xs : List D) | lent (i : Nat)
def PArg.arg (s : Sl) : PArg → Option Arg
  | .val d => some (.val d)
  | .new xs => some (.own xs)
  | .lent i => match s[i]? with
    | some (.own _ xs) => some (.own xs)
    | _ => none
def argsOf (s : Sl) : List PArg → Option (List Arg)
  | [] => some []
  | p :: r => (p.arg s).bind fun a => (argsOf s r).map (a :: ·)
def putOuts : List PArg → List (List D) → Sl → Option Sl
  | [], [], s => some s
  | .val _ :: r, os, s => putOuts r os s
  | .new _ :: r, _ :: os, s => putOuts r os s
  | .lent i :: r, o :: os, s => match s[i]? with
    | some (.own p _) => putOuts r os (s.set i (.own p o))
    | _ => none
  | _, _, _ => none
/-- how many lists are lent -/
def ownsOf : List PArg → Nat
  | [] => 0
  | .val _ :: r => ownsOf r
  | _ :: r => ownsOf r + 1
def callD (m : FnSem) (ps : List PArg) (s : Sl) : Option (R × Sl) :=
  if ownsOf ps ≤ 1 then
    (argsOf s ps).bind fun as => (m as).bind fun (r, os) => match r with
      | .bor _ => none
      | r => (putOuts ps os s).map fun s' => (r, s')
  else none
def wipeS (s : Sl) : List Nat → Sl
  | [] => s
  | v :: vs => (wipeS s vs).set v .emp
def okSet (i : Nat) (s : Sl) : Bool := match s[i]? with
  | some (.own true _) => false
  | some _ => true
  | none => false
mutual
def putT : Tg → D → Sl → Option Sl
  | .name i, d, s => if okSet i s = true then some (s.set i (.val d)) else none
  | .tup l, .tuple ds, s => putTs l ds s
  | _, _, _ => none
def putTs : Tgs → List D → Sl → Option Sl
  | .nil, [], s => some s
  | .cons a b, d :: ds, s => (putT a d s).bind fun s1 => putTs b ds s1
  | _, _, _ => none
end
def isEmp (s : Sl) (i : Nat) : Bool := match s[i]? with
  | some .emp => true
  | _ => false
def compL (vs : List Nat) (f : D → Sl → Option (Option D × Sl)) : List D → List D → Sl → Option (List D × Sl)
  | [], acc, s => some (acc, s)
  | d :: ds, acc, s => (f d s).bind fun (o, s') => match o with
    | some x => if acc.length < sizeLine then compL vs f ds (acc ++ [x]) (wipeS s' vs) else none
    | none => compL vs f ds acc (wipeS s' vs)
/-- a turn of a comprehension -/
def compF (tg : Tg) (cT : Sl → Option (Bool × Sl)) (cE : Sl → Option (R × Sl)) (d : D) (s : Sl) : Option (Option D × Sl) :=
  (putT tg d s).bind fun s' => (cT s').bind fun (k, s2) => if k = true then (cE s2).bind fun (r, s3) => r.sto.map fun x => (some x, s3) else some (none, s2)
def isFree (s : Sl) (i : Nat) : Bool := match s[i]? with
  | some .emp => true
  | some (.val _) => true
  | _ => false
/-- the slots of vs as they were in s -/
def restS (s s2 : Sl) : List Nat → Sl
  | [] => s2
  | v :: vs => (restS s s2 vs).set v (s[v]?.getD .emp)
def compD (own : List Nat) (f : D → Sl → Option (Option D × Sl)) (ds : List D) (s : Sl) : Option (R × Sl) :=
  if (own.all (isFree s)) = true then (compL own f ds [] (wipeS s own)).map fun (out, s2) => (.new out, restS s s2 own) else none
/-- two for -/
def comp2L (own vs1 : List Nat) (put : D → Sl → Option Sl) (cI : Sl → Option (List D × Sl)) (f : D → Sl → Option (Option D × Sl)) : List D → List D → Sl → Option (List D × Sl)
  | [], acc, s => some (acc, s)
  | d :: ds, acc, s => (put d s).bind fun sp => (cI sp).bind fun (es, sq) => (compL vs1 f es acc sq).bind fun (acc', s3) => comp2L own vs1 put cI f ds acc' (wipeS s3 own)
def comp2D (own vs1 : List Nat) (put : D → Sl → Option Sl) (cI : Sl → Option (List D × Sl)) (f : D → Sl → Option (Option D × Sl)) (ds : List D) (s : Sl) : Option (R × Sl) :=
  if (own.all (isFree s)) = true then (comp2L own vs1 put cI f ds [] (wipeS s own)).map fun (out, s2) => (.new out, restS s s2 own) else none
def toB : R → Option Bool
  | .val (.bool b) => some b
  | _ => none
section
variable (Φ : Phi)
mutual
def ev : E → Sl → Option (R × Sl)
  | .slot i, s => match s[i]? with
    | some (.val d) => some (.val d, s)
    | some (.own _ _) => some (.bor i, s)
    | _ => none
  | .lit c, s => some (.val c.d, s)
  | .gc j, s => some (.val (Φ.gc j), s)
  | .bin op a b, s => (ev a s).bind fun (ra, s1) => (ev b s1).bind fun (rb, s2) => (ra.get s2).bind fun x => (rb.get s2).bind fun y => (binD op x y).map fun r => (r, s2)
  | .neg a, s => (ev a s).bind fun (ra, s1) => match ra with
    | .val (.int i) => some (.val (.int (-i)), s1)
    | _ => none
  | .not a, s => (ev a s).bind fun (ra, s1) => (toB ra).map fun b => (.val (.bool !b), s1)
  | .and a b, s => (ev a s).bind fun (ra, s1) => (toB ra).bind fun c => if c = true then (ev b s1).bind fun (rb, s2) => (toB rb).map fun c => (.val (.bool c), s2) else some (.val (.bool false), s1)
  | .or a b, s => (ev a s).bind fun (ra, s1) => (toB ra).bind fun c => if c = true then some (.val (.bool true), s1) else (ev b s1).bind fun (rb, s2) => (toB rb).map fun c => (.val (.bool c), s2)
  | .cmp op a b, s => (ev a s).bind fun (ra, s1) => (ev b s1).bind fun (rb, s2) => (ra.get s2).bind fun x => (rb.get s2).bind fun y => (cmpD op x y).map fun r => (.val (.bool r), s2)
  | .cmp2 op op' a b c, s => (ev a s).bind fun (ra, s1) => (ev b s1).bind fun (rb, s2) => (ra.get s2).bind fun x => (rb.get s2).bind fun y => (cmpD op x y).bind fun k =>
      if k = true then (ev c s2).bind fun (rc, s3) => (rb.get s3).bind fun y => (rc.get s3).bind fun z => (cmpD op' y z).map fun k' => (.val (.bool k'), s3) else some (.val (.bool false), s2)
  | .ite c a b, s => (ev c s).bind fun (rc, s1) => (toB rc).bind fun k => if k = true then ev a s1 else ev b s1
  | .tup es, s => (evs es s).bind fun (ds, s1) => if ds.length ≤ sizeLine then some (.val (.tuple ds), s1) else none
  | .lst es, s => (evs es s).bind fun (ds, s1) => if ds.length ≤ sizeLine then some (.new ds, s1) else none
  | .ix a i, s => (ev a s).bind fun (ra, s1) => (ev i s1).bind fun (rb, s2) => (ra.get s2).bind fun x => (rb.get s2).bind fun y => (ixD x y).map fun d => (.val d, s2)
  | .sl a lo hi, s => (ev a s).bind fun (ra, s1) => (evo lo s1).bind fun (l, s2) => (evo hi s2).bind fun (h, s3) => (ra.get s3).bind fun x => (slD x l h).map fun r => (r, s3)
  | .f1 f a, s => (ev a s).bind fun (ra, s1) => (ra.get s1).bind fun x => (f1D f x).map fun r => (r, s1)
  | .f2 f a b, s => (ev a s).bind fun (ra, s1) => (ev b s1).bind fun (rb, s2) => (ra.get s2).bind fun x => (rb.get s2).bind fun y => (f2D f x y).map fun r => (r, s2)
  | .isT t a, s => (ev a s).bind fun (ra, s1) => (ra.get s1).bind fun x => (isTD t x).map fun k => (.val (.bool k), s1)
  | .rng tup a b, s => (evo a s).bind fun (lo, s1) => (ev b s1).bind fun (rb, s2) => match rb with
    | .val (.int j) => let i := lo.getD 0
      if -(2 ^ 62) ≤ i ∧ i < 2 ^ 62 ∧ -(2 ^ 62) ≤ j ∧ j < 2 ^ 62 ∧ (j - i).toNat ≤ sizeLine then
        some (if tup = true then .val (.tuple (rgD i (j - i).toNat)) else .new (rgD i (j - i).toNat), s2) else none
    | _ => none
  | .call k as, s => (evA as s).bind fun (ps, s1) => callD (Φ.fn k) ps s1
  | .callK k as kw ks, s => (evA as s).bind fun (ps, s1) => (evs ks s1).bind fun (ds, s2) =>
      callD (fun as => Φ.fn k (as ++ (kw.map fun i => ds.getD i .none).map .val)) ps s2
  | .comp own tg it c e, s => (evI it s).bind fun (ds, s1) => compD (own.map (·.2)) (compF tg (fun s => evo' c s) (fun s => ev e s)) ds s1
  | .m1 m a b, s => (ev a s).bind fun (ra, s1) => (ev b s1).bind fun (rb, s2) => (ra.get s2).bind fun x => (rb.get s2).bind fun y => (m1D m x y).map fun r => (r, s2)
  | .comp2 own tg it tg1 it1 e, s => (evI it s).bind fun (ds, s1) => comp2D (own.map (·.2)) tg1.ix (fun d s => putT tg d s) (fun s => evI it1 s) (compF tg1 (fun s => some (true, s)) (fun s => ev e s)) ds s1
  | .min3 a b c, s => (ev a s).bind fun (ra, s1) => (ev b s1).bind fun (rb, s2) => (ev c s2).bind fun (rc, s3) => match ra, rb, rc with
    | .val (.int i), .val (.int j), .val (.int k) => some (.val (.int (min3I i j k)), s3)
    | _, _, _ => none
  | .nset a, s => (ev a s).bind fun (ra, s1) => (ra.get s1).bind fun x => (nsetD x).map fun r => (r, s1)
/-- items that are kept in something -/
def evs : Es → Sl → Option (List D × Sl)
  | .nil, s => some ([], s)
  | .cons e es, s => (ev e s).bind fun (r, s1) => r.sto.bind fun d => (evs es s1).map fun (ds, s2) => (d :: ds, s2)
/-- an optional int -/
def evo : Oe → Sl → Option (Option Int × Sl)
  | .none, s => some (none, s)
  | .some e, s => (ev e s).bind fun (r, s1) => match r with
    | .val (.int i) => some (some i, s1)
    | _ => none
/-- an optional test -/
def evo' : Oe → Sl → Option (Bool × Sl)
  | .none, s => some (true, s)
  | .some e, s => (ev e s).bind fun (r, s1) => (toB r).map fun b => (b, s1)
def evA : As → Sl → Option (List PArg × Sl)
  | .nil, s => some ([], s)
  | .v e r, s => (ev e s).bind fun (x, s1) => x.sto.bind fun d => (evA r s1).map fun (ps, s2) => (.val d :: ps, s2)
  | .m i r, s => match s[i]? with
    | some (.own _ _) => (evA r s).map fun (ps, s2) => (.lent i :: ps, s2)
    | _ => none
  | .n e r, s => (ev e s).bind fun (x, s1) => match x with
    | .new xs => (evA r s1).map fun (ps, s2) => (.new xs :: ps, s2)
    | _ => none
/-- what is walked -/
def evI : It' → Sl → Option (List D × Sl)
  | .seq e, s => (ev e s).bind fun (r, s1) => match r with
    | .val (.list ds) => some (ds, s1)
    | .val (.tuple ds) => some (ds, s1)
    | .val (.str z) => some (z.cps.toList.map fun c => PyData.str ⟨#[c]⟩, s1)
    | .new ds => some (ds, s1)
    | _ => none
  | .rng a b, s => (evo a s).bind fun (lo, s1) => (ev b s1).bind fun (rb, s2) => match rb with
    | .val (.int j) => let i := lo.getD 0
      if -(2 ^ 62) ≤ i ∧ i < 2 ^ 62 ∧ -(2 ^ 62) ≤ j ∧ j < 2 ^ 62 then some (rgD i (j - i).toNat, s2) else none
    | _ => none
  | .zip a b, s => (ev a s).bind fun (ra, s1) => (ev b s1).bind fun (rb, s2) => match ra, rb with
    | .bor _, _ => none
    | _, .bor _ => none
    | ra, rb => match ra.flat, rb.flat with
      | .list xs, .list ys => some ((xs.zip ys).map fun (p : D × D) => .tuple [p.1, p.2], s2)
      | .tuple xs, .tuple ys => some ((xs.zip ys).map fun (p : D × D) => .tuple [p.1, p.2], s2)
      | _, _ => none
  | .enum a, s => (ev a s).bind fun (ra, s1) => match ra with
    | .bor _ => none
    | ra => match ra.flat with
      | .list xs => some (((rgD 0 xs.length).zip xs).map fun (p : D × D) => .tuple [p.1, p.2], s1)
      | .tuple xs => some (((rgD 0 xs.length).zip xs).map fun (p : D × D) => .tuple [p.1, p.2], s1)
      | _ => none
  | .rng3 a b c, s => (ev a s).bind fun (ra, s1) => (ev b s1).bind fun (rb, s2) => (ev c s2).bind fun (rc, s3) => match ra, rb, rc with
    | .val (.int i), .val (.int j), .val (.int k) => if -(2 ^ 60) ≤ i ∧ i < 2 ^ 60 ∧ -(2 ^ 60) ≤ j ∧ j < 2 ^ 60 ∧ 0 < k ∧ k < 1073741824 then some (rg3D i k (rg3N i j k), s3) else none
    | _, _, _ => none
end

/-! ### statements -/
inductive Fl where
  | nx | ret (r : R) | brk
end
inductive Pt where
  | name (i : Nat) | sub (i : Nat) (e : E)
mutual
inductive S where
  | pass
  | asg (p : Pt) (e : E)
  | unp (ps : List Pt) (e : E)
  | par (ps : List Pt) (es : List E)
  | app (i : Nat) (e : E)
  | insr (i : Nat) (a e : E)
  | expr (e : E)
  | ife (c : E) (a b : Bk)
  | for_ (tg : Tg) (it : It') (b : Bk)
  | ret (e : E)
  | retN
  | never
inductive Bk where
  | nil
  | cons (s : S) (b : Bk)
  | frz (i : Nat) (b : Bk)
end
section
variable (Φ : Phi)
def setR (i : Nat) (r : R) (s : Sl) : Option Sl := if okSet i s = true then (match r with
    | .val d => some (s.set i (.val d))
    | .new xs => some (s.set i (.own false xs))
    | .bor _ => none) else none
def subR (i : Nat) (k : D) (d : D) (s : Sl) : Option Sl := match s[i]?, k with
  | some (.own p xs), .int k => (ixN xs.length k).map fun j => s.set i (.own p (xs.set j d))
  | _, _ => none
def isOwn (s : Sl) (i : Nat) : Bool := match s[i]? with
  | some (.own _ _) => true
  | _ => false
def putP : Pt → R → Sl → Option Sl
  | .name i, r, s => setR i r s
  | .sub i e, r, s => if isOwn s i = true then r.sto.bind fun d => (ev Φ e s).bind fun (k, s1) => (k.get s1).bind fun k => subR i k d s1 else none
def putPs : List Pt → List R → Sl → Option Sl
  | [], [], s => some s
  | p :: ps, r :: rs, s => (putP Φ p r s).bind fun s1 => putPs ps rs s1
  | _, _, _ => none
def evRs : List E → Sl → Option (List R × Sl)
  | [], s => some ([], s)
  | e :: es, s => (ev Φ e s).bind fun (r, s1) => match r with
    | .bor _ => none
    | r => (evRs es s1).map fun (rs, s2) => (r :: rs, s2)
def forL (put : D → Sl → Option Sl) (body : Sl → Option (Fl × Sl)) : List D → Sl → Option (Fl × Sl)
  | [], s => some (.nx, s)
  | d :: ds, s => (put d s).bind fun s1 => (body s1).bind fun (fl, s2) => match fl with
    | .nx => forL put body ds s2
    | .ret r => some (.ret r, s2)
    | .brk => some (.nx, s2)
def retR (r : R) (s : Sl) : Option R := match r with
  | .val d => some (.val d)
  | .new xs => some (.new xs)
  | .bor i => match s[i]? with
    | some (.own false xs) => some (.new xs)
    | _ => none
mutual
def st : S → Sl → Option (Fl × Sl)
  | .pass, s => some (.nx, s)
  | .asg p e, s => (ev Φ e s).bind fun (r, s1) => (putP Φ p r s1).map fun s2 => (.nx, s2)
  | .unp ps e, s => (ev Φ e s).bind fun (r, s1) => match r with
    | .val (.tuple ds) => (putPs Φ ps (ds.map .val) s1).map fun s2 => (.nx, s2)
    | _ => none
  | .par ps es, s => if es.length ≤ sizeLine then (evRs Φ es s).bind fun (rs, s1) => (putPs Φ ps rs s1).map fun s2 => (.nx, s2) else none
  | .app i e, s => if isOwn s i = true then (ev Φ e s).bind fun (r, s1) => r.sto.bind fun d => match s1[i]? with
    | some (.own p xs) => if xs.length < sizeLine then some (.nx, s1.set i (.own p (xs ++ [d]))) else none
    | _ => none else none
  | .insr i a e, s => if isOwn s i = true then (ev Φ a s).bind fun (ra, s0) => (ev Φ e s0).bind fun (r, s1) => r.sto.bind fun d => match s1[i]?, ra with
    | some (.own p xs), .val (.int k) => if xs.length < sizeLine ∧ 0 ≤ k ∧ k ≤ xs.length then some (.nx, s1.set i (.own p (xs.take k.toNat ++ [d] ++ xs.drop k.toNat))) else none
    | _, _ => none else none
  | .expr e, s => (ev Φ e s).map fun (_, s1) => (.nx, s1)
  | .ife c a b, s => (ev Φ c s).bind fun (r, s1) => (toB r).bind fun k => if k = true then bk a s1 else bk b s1
  | .for_ tg it b, s => (evI Φ it s).bind fun (ds, s1) => forL (fun d s => putT tg d s) (fun s => bk b s) ds s1
  | .ret e, s => (ev Φ e s).bind fun (r, s1) => (retR r s1).map fun r => (.ret r, s1)
  | .retN, s => some (.ret (.val .none), s)
  | .never, _ => none
def bk : Bk → Sl → Option (Fl × Sl)
  | .nil, s => some (.nx, s)
  | .cons x b, s => (st x s).bind fun (fl, s1) => match fl with
    | .nx => bk b s1
    | fl => some (fl, s1)
  | .frz i b, s => match s[i]? with
    | some (.own false xs) => bk b (s.set i (.val (.list xs)))
    | some (.val _) => bk b s
    | _ => none
end
/-- what the lent lists hold at the end -/
def outsOf : List Arg → Sl → Option (List (List D))
  | [], _ => some []
  | .val _ :: as, _ :: s => outsOf as s
  | .own _ :: as, .own true xs :: s => (outsOf as s).map (xs :: ·)
  | _, _ => none
def runFn (n : Nat) (b : Bk) : FnSem := fun as =>
  if as.length ≤ n then
    (bk Φ b (as.map Arg.slot ++ List.replicate (n - as.length) .emp)).bind fun (fl, s) =>
      match fl with
      | .nx => (outsOf as s).map fun os => (.val .none, os)
      | .ret r => (outsOf as s).map fun os => (r, os)
      | .brk => none
  else none
end
end Mi

set_option Elab.async false
set_option linter.all false
set_option maxRecDepth 100000
/-! Mi: data against the abstract heap. -/
namespace Mi
open PySem L2

/-- the script: a locked list, or one of the written part -/
def Scr (K : PySem.W.Frag) (H : Hp) (a : Addr) (xs : List V) : Prop := (∃ o, H a = some (.frz o (.lst xs))) ∨ ∀ H : Hp, SqL K H a xs
theorem Scr.sq {K : PySem.W.Frag} {H : Hp} {a : Addr} {xs : List V} (h : Scr K H a xs) : SqL K H a xs := by
  rcases h with ⟨o, h⟩ | h
  · exact .inl (.inr ⟨o, h⟩)
  · exact h H
mutual
/-- v means d; no list on the way is one of O -/
inductive Den (K : PySem.W.Frag) (O : Addr → Prop) (H : Hp) : V → D → Prop
  | non : Den K O H .non .none
  | bl (b : Bool) : Den K O H (.bl b) (.bool b)
  | int (i : Int) : Den K O H (.int i) (.int i)
  | str (x : Str) : Den K O H (.str x) (.str x)
  | lst {a : Addr} {xs : List V} {ds : List D} : H a = some (.lst xs) → ¬ O a → DenAll K O H xs ds → Den K O H (.ref a) (.list ds)
  | scr {a : Addr} {xs : List V} {ds : List D} : Scr K H a xs → DenAll K O H xs ds → Den K O H (.ref a) (scr ds)
  | tup {a : Addr} {xs : List V} {ds : List D} : SqT K H a xs → DenAll K O H xs ds → Den K O H (.ref a) (.tuple ds)
inductive DenAll (K : PySem.W.Frag) (O : Addr → Prop) (H : Hp) : List V → List D → Prop
  | nil : DenAll K O H [] []
  | cons {v : V} {vs : List V} {d : D} {ds : List D} : Den K O H v d → DenAll K O H vs ds → DenAll K O H (v :: vs) (d :: ds)
end
section
variable {K : PySem.W.Frag} {O O' : Addr → Prop} {H H' : Hp} {vs ws : List V} {ds es : List D} {v : V} {d : D}
theorem DenAll.length : ∀ {vs : List V} {ds : List D}, DenAll K O H vs ds → vs.length = ds.length
  | _, _, .nil => rfl
  | _, _, .cons _ t => congrArg Nat.succ t.length
theorem DenAll.get : ∀ {vs : List V} {ds : List D} {i : Nat} {d : D}, DenAll K O H vs ds → ds[i]? = some d → ∃ v, vs[i]? = some v ∧ Den K O H v d
  | _, _, _, _, .nil, e => by simp at e
  | _, _, 0, _, .cons r _, e => by
    simp at e
    subst e
    exact ⟨_, rfl, r⟩
  | _, _, i + 1, d, .cons _ t, e => by
    obtain ⟨v, h1, h2⟩ := DenAll.get (i := i) (d := d) t (by simpa using e)
    exact ⟨v, by simpa using h1, h2⟩
theorem DenAll.getV : ∀ {vs : List V} {ds : List D} {i : Nat} {v : V}, DenAll K O H vs ds → vs[i]? = some v → ∃ d, ds[i]? = some d ∧ Den K O H v d
  | _, _, _, _, .nil, e => by simp at e
  | _, _, 0, _, .cons r _, e => by
    simp at e
    subst e
    exact ⟨_, rfl, r⟩
  | _, _, i + 1, d, .cons _ t, e => by
    obtain ⟨v, h1, h2⟩ := DenAll.getV (i := i) (v := d) t (by simpa using e)
    exact ⟨v, by simpa using h1, h2⟩
theorem DenAll.append : ∀ {vs ws : List V} {ds es : List D}, DenAll K O H vs ds → DenAll K O H ws es → DenAll K O H (vs ++ ws) (ds ++ es)
  | _, _, _, _, .nil, s => s
  | _, _, _, _, .cons r t, s => .cons r (t.append s)
theorem DenAll.take : ∀ {vs : List V} {ds : List D} (n : Nat), DenAll K O H vs ds → DenAll K O H (vs.take n) (ds.take n)
  | _, _, 0, _ => .nil
  | _, _, _ + 1, .nil => .nil
  | _, _, n + 1, .cons r t => .cons r (DenAll.take n t)
theorem DenAll.drop : ∀ {vs : List V} {ds : List D} (n : Nat), DenAll K O H vs ds → DenAll K O H (vs.drop n) (ds.drop n)
  | _, _, 0, r => r
  | _, _, _ + 1, .nil => .nil
  | _, _, n + 1, .cons r t => DenAll.drop n t
theorem DenAll.set (h : Den K O H v d) : ∀ {vs : List V} {ds : List D} (n : Nat), DenAll K O H vs ds → DenAll K O H (vs.set n v) (ds.set n d)
  | _, _, _, .nil => .nil
  | _, _, 0, .cons _ t => .cons h t
  | _, _, n + 1, .cons r t => .cons r (DenAll.set h n t)
theorem DenAll.one (h : Den K O H v d) : DenAll K O H [v] [d] := .cons h .nil
theorem DenAll.rep (n : Nat) (h : DenAll K O H vs ds) : DenAll K O H (List.replicate n vs).flatten (List.replicate n ds).flatten := by
  induction n with
  | zero => exact .nil
  | succ n ih =>
    rw [List.replicate_succ, List.replicate_succ, List.flatten_cons, List.flatten_cons]
    exact h.append ih
theorem DenAll.cut (h : DenAll K O H vs ds) (lo hi : Option Int) : DenAll K O H (cutV vs lo hi) (cutD ds lo hi) := by
  unfold cutV cutD
  rw [h.length]
  exact (h.drop _).take _
theorem DenAll.atI {i : Int} (h : DenAll K O H vs ds) (e : L2.atI ds i = some d) : ∃ v, L2.atI vs i = some v ∧ Den K O H v d := by
  unfold L2.atI at e ⊢
  rw [h.length]
  cases q : ixN ds.length i with
  | none =>
    rw [q] at e
    cases e
  | some j =>
    rw [q] at e
    exact h.get e
theorem DenAll.of_map {α : Type} {f : α → V} {g : α → D} (h : ∀ a, Den K O H (f a) (g a)) : ∀ l : List α, DenAll K O H (l.map f) (l.map g)
  | [] => .nil
  | a :: l => .cons (h a) (DenAll.of_map h l)
theorem DenAll.dInts : ∀ {vs : List V} {ds : List D} {l : List Int}, DenAll K O H vs ds → intsL ds = some l → vs = l.map V.int
  | _, _, _, .nil, e => by
    cases e
    rfl
  | _, _, _, .cons (d := d) (ds := ds) r t, e => by
    cases r with
    | int i =>
      cases q : intsL ds with
      | none =>
        simp [intsL, q] at e
      | some l' =>
        simp only [intsL, q, Option.map_some, Option.some.injEq] at e
        subst e
        rw [DenAll.dInts t q]
        rfl
    | _ => simp [intsL] at e
theorem DenAll.dBools : ∀ {vs : List V} {ds : List D} {l : List Bool}, DenAll K O H vs ds → boolsL ds = some l → vs = l.map V.bl
  | _, _, _, .nil, e => by
    cases e
    rfl
  | _, _, _, .cons (d := d) (ds := ds) r t, e => by
    cases r with
    | bl i =>
      cases q : boolsL ds with
      | none =>
        simp [boolsL, q] at e
      | some l' =>
        simp only [boolsL, q, Option.map_some, Option.some.injEq] at e
        subst e
        rw [DenAll.dBools t q]
        rfl
    | _ => simp [boolsL] at e
theorem DenAll.dStrs : ∀ {vs : List V} {ds : List D} {l : List Str}, DenAll K O H vs ds → strsL ds = some l → vs = l.map V.str
  | _, _, _, .nil, e => by
    cases e
    rfl
  | _, _, _, .cons (d := d) (ds := ds) r t, e => by
    cases r with
    | str i =>
      cases q : strsL ds with
      | none =>
        simp [strsL, q] at e
      | some l' =>
        simp only [strsL, q, Option.map_some, Option.some.injEq] at e
        subst e
        rw [DenAll.dStrs t q]
        rfl
    | _ => simp [strsL] at e
theorem Den.flat (h : Den K O H v d) (f : flatD d = true) : flatV v = true := by
  cases h <;> first | rfl | (simp [flatD] at f)
theorem DenAll.flat : ∀ {vs : List V} {ds : List D}, DenAll K O H vs ds → ds.all flatD = true → vs.all flatV = true
  | _, _, .nil, _ => rfl
  | _, _, .cons r t, e => by
    simp only [List.all_cons, Bool.and_eq_true] at e ⊢
    exact ⟨r.flat e.1, t.flat e.2⟩
theorem Den.eqF {w : V} {e : D} (h : Den K O H v d) (k : Den K O' H' w e) (f : flatD d = true) (g : flatD e = true) : eqV v w = eqD d e := by
  cases h <;> cases k <;> first | rfl | (simp [flatD] at f; done) | (simp [flatD] at g; done)
theorem DenAll.inF {x : V} {y : D} (h : Den K O H x y) (f : flatD y = true) : ∀ {vs : List V} {ds : List D}, DenAll K O' H' vs ds → ds.all flatD = true → inV x vs = inD y ds
  | _, _, .nil, _ => rfl
  | _, _, .cons r t, e => by
    simp only [List.all_cons, Bool.and_eq_true] at e
    have ih := DenAll.inF h f t e.2
    unfold inV inD at ih ⊢
    rw [List.any_cons, List.any_cons, ih, r.eqF h e.1 f]

mutual
theorem Den.mono {Wr : Addr → Prop} (hk : ∀ a o, H a = some o → ¬ Wr a → H' a = some o) (hw : ∀ a, Wr a → O a ∧ ∃ xs, H a = some (.lst xs)) (ho : ∀ a, O' a → O a ∨ H a = none) :
    ∀ (d : D) (v : V), Den K O H v d → Den K O' H' v d
  | .none, _, h => by
    cases h
    exact .non
  | .bool b, _, h => by
    cases h
    exact .bl b
  | .int i, _, h => by
    cases h
    exact .int i
  | .str x, _, h => by
    cases h
    exact .str x
  | .list ds, _, h => by
    cases h with
    | lst r no t =>
      have t' := DenAll.mono hk hw ho ds _ t
      exact .lst (hk _ _ r fun z => no (hw _ z).1) (fun z => (ho _ z).elim no fun z => by rw [r] at z; cases z) t'
  | .tuple ds, _, h => by
    cases h with
    | tup r t =>
      have t' := DenAll.mono hk hw ho ds _ t
      rcases r with (r | ⟨o, r⟩) | r
      · refine .tup (.inl (.inl (hk _ _ r fun z => ?_))) t'
        obtain ⟨_, xs, e⟩ := hw _ z
        rw [r] at e
        cases e
      · refine .tup (.inl (.inr ⟨o, hk _ _ r fun z => ?_⟩)) t'
        obtain ⟨_, xs, e⟩ := hw _ z
        rw [r] at e
        cases e
      · exact .tup (.inr r) t'
  | .dict l, _, h => by
    cases h with
    | scr r t =>
      have t' := DenAll.mono hk hw ho _ _ t
      rcases r with ⟨o, r⟩ | r
      · refine .scr (.inl ⟨o, hk _ _ r fun z => ?_⟩) t'
        obtain ⟨_, xs, e⟩ := hw _ z
        rw [r] at e
        cases e
      · exact .scr (.inr r) t'
theorem DenAll.mono {Wr : Addr → Prop} (hk : ∀ a o, H a = some o → ¬ Wr a → H' a = some o) (hw : ∀ a, Wr a → O a ∧ ∃ xs, H a = some (.lst xs)) (ho : ∀ a, O' a → O a ∨ H a = none) :
    ∀ (ds : List D) (vs : List V), DenAll K O H vs ds → DenAll K O' H' vs ds
  | [], _, h => by
    cases h
    exact .nil
  | d :: ds, _, h => by
    cases h with
    | cons r t => exact .cons (Den.mono hk hw ho d _ r) (DenAll.mono hk hw ho ds _ t)
end
/-- a new object is laid -/
theorem Den.upd {p : Addr} {o : HO} (h : Den K O H v d) (n : H p = none) : Den K O (upd H p o) v d :=
  Den.mono (Wr := fun _ => False) (fun a u e _ => by rw [upd_ne (ne_of_none e n)]; exact e) (fun _ z => z.elim) (fun _ z => .inl z) d v h
theorem DenAll.upd {p : Addr} {o : HO} (h : DenAll K O H vs ds) (n : H p = none) : DenAll K O (upd H p o) vs ds :=
  DenAll.mono (Wr := fun _ => False) (fun a u e _ => by rw [upd_ne (ne_of_none e n)]; exact e) (fun _ z => z.elim) (fun _ z => .inl z) ds vs h
/-- fewer that are kept out -/
theorem Den.fewer (h : Den K O H v d) (ho : ∀ a, O' a → O a) : Den K O' H v d :=
  Den.mono (Wr := fun _ => False) (fun a u e _ => e) (fun _ z => z.elim) (fun a z => .inl (ho a z)) d v h
theorem DenAll.fewer (h : DenAll K O H vs ds) (ho : ∀ a, O' a → O a) : DenAll K O' H vs ds :=
  DenAll.mono (Wr := fun _ => False) (fun a u e _ => e) (fun _ z => z.elim) (fun a z => .inl (ho a z)) ds vs h
mutual
theorem Den.dp : ∀ (d : D) (v : V), Den K O H v d → d.hasDict = false → Dp K H v d
  | .none, _, h, _ => by
    cases h
    exact .non
  | .bool b, _, h, _ => by
    cases h
    exact .bl b
  | .int i, _, h, _ => by
    cases h
    exact .int i
  | .str x, _, h, _ => by
    cases h
    exact .str x
  | .list ds, _, h, n => by
    cases h with
    | lst r no t => exact .lst (.inl (.inl r)) (DenAll.dp ds _ t (by simpa [PyData.hasDict] using n))
  | .tuple ds, _, h, n => by
    cases h with
    | tup r t => exact .tup r (DenAll.dp ds _ t (by simpa [PyData.hasDict] using n))
  | .dict _, _, h, n => by simp [PyData.hasDict] at n
theorem DenAll.dp : ∀ (ds : List D) (vs : List V), DenAll K O H vs ds → PyData.hasDictAll ds = false → DpAll K H vs ds
  | [], _, h, _ => by
    cases h
    exact .nil
  | d :: ds, _, h, n => by
    simp only [PyData.hasDictAll, Bool.or_eq_false_iff] at n
    cases h with
    | cons r t => exact .cons (Den.dp d _ r n.1) (DenAll.dp ds _ t n.2)
end

/-! ### slots -/
def ownAd (σ : L2.St) (s : Sl) (a : Addr) : Prop := ∃ (i : Nat) (p : Bool) (xs : List D), s[i]? = some (.own p xs) ∧ σ[i]? = some (some (.ref a))
def ownAdF (σ : L2.St) (s : Sl) (a : Addr) : Prop := ∃ (i : Nat) (xs : List D), s[i]? = some (.own false xs) ∧ σ[i]? = some (some (.ref a))
structure Ok (K : PySem.W.Frag) (O : Addr → Prop) (H : Hp) (σ : L2.St) (s : Sl) : Prop where
  len : σ.length = s.length
  val : ∀ (i : Nat) (d : D), s[i]? = some (.val d) → ∃ v, σ[i]? = some (some v) ∧ Den K O H v d
  own : ∀ (i : Nat) (p : Bool) (xs : List D), s[i]? = some (.own p xs) → ∃ a vs, σ[i]? = some (some (.ref a)) ∧ O a ∧ H a = some (.lst vs) ∧ DenAll K O H vs xs
  ne : ∀ (i j : Nat) (p q : Bool) (xs ys : List D) (a : Addr), i ≠ j → s[i]? = some (.own p xs) → s[j]? = some (.own q ys) → σ[i]? = some (some (.ref a)) → σ[j]? ≠ some (some (.ref a))
  dom : ∀ a, O a → H a ≠ none
theorem Ok.ow {σ : L2.St} {s : Sl} {a : Addr} (k : Ok K O H σ s) (h : ownAd σ s a) : O a ∧ ∃ xs, H a = some (.lst xs) := by
  obtain ⟨i, p, xs, h1, h2⟩ := h
  obtain ⟨b, vs, e, o, l, _⟩ := k.own i p xs h1
  rw [h2] at e
  cases e
  exact ⟨o, vs, l⟩
def Shp (s s' : Sl) : Prop := s.length = s'.length ∧ ∀ i : Nat, (s[i]? = some .emp → s'[i]? = some .emp) ∧ (∀ d : D, s[i]? = some (.val d) → s'[i]? = some (.val d)) ∧ ∀ (p : Bool) (xs : List D), s[i]? = some (.own p xs) → ∃ ys, s'[i]? = some (.own p ys)
theorem Shp.refl (s : Sl) : Shp s s := ⟨rfl, fun _ => ⟨fun h => h, fun _ h => h, fun _ xs h => ⟨xs, h⟩⟩⟩
theorem Shp.trans {s t u : Sl} (a : Shp s t) (b : Shp t u) : Shp s u := ⟨a.1.trans b.1, fun i => ⟨fun h => (b.2 i).1 ((a.2 i).1 h), fun d h => (b.2 i).2.1 d ((a.2 i).2.1 d h), fun p xs h => by
  obtain ⟨ys, e⟩ := (a.2 i).2.2 p xs h
  exact (b.2 i).2.2 p ys e⟩⟩
theorem Shp.back {s t : Sl} (a : Shp s t) {i : Nat} {p : Bool} {ys : List D} (h : t[i]? = some (.own p ys)) : ∃ xs, s[i]? = some (.own p xs) := by
  have hi : i < s.length := by
    rw [a.1]
    exact (List.getElem?_eq_some_iff.mp h).1
  cases q : s[i]? with
  | none =>
    rw [List.getElem?_eq_none_iff] at q
    omega
  | some x =>
    cases x with
    | emp =>
      rw [(a.2 i).1 q] at h
      cases h
    | val d =>
      rw [(a.2 i).2.1 d q] at h
      cases h
    | own p' xs =>
      obtain ⟨zs, e⟩ := (a.2 i).2.2 p' xs q
      rw [e] at h
      cases h
      exact ⟨xs, rfl⟩
theorem Shp.ow {s t : Sl} (a : Shp s t) (σ : L2.St) (b : Addr) : ownAd σ t b ↔ ownAd σ s b := by
  constructor
  · rintro ⟨i, p, xs, h1, h2⟩
    obtain ⟨ys, e⟩ := a.back h1
    exact ⟨i, p, ys, e, h2⟩
  · rintro ⟨i, p, xs, h1, h2⟩
    obtain ⟨ys, e⟩ := (a.2 i).2.2 p xs h1
    exact ⟨i, p, ys, e, h2⟩
/-- the way of an expression -/
structure Go (K : PySem.W.Frag) (O : Addr → Prop) (H : Hp) (σ : L2.St) (s : Sl) (O' : Addr → Prop) (H' : Hp) (s' : Sl) : Prop where
  ok : Ok K O' H' σ s'
  up : ∀ a, O a → O' a
  nw : ∀ a, O' a → O a ∨ H a = none
  fr : ∀ a o, H a = some o → ¬ ownAd σ s a → H' a = some o
  th : ∀ a, H a ≠ none → H' a ≠ none
  sh : Shp s s'
section
variable {σ : L2.St} {s s1 s2 s3 : Sl} {O1 O2 : Addr → Prop} {H1 H2 : Hp}
theorem Go.refl (k : Ok K O H σ s) : Go K O H σ s O H s := ⟨k, fun _ h => h, fun _ h => .inl h, fun _ _ h _ => h, fun _ h => h, Shp.refl s⟩
theorem Go.trans (k : Go K O H σ s O1 H1 s1) (l : Go K O1 H1 σ s1 O2 H2 s2) : Go K O H σ s O2 H2 s2 := by
  refine ⟨l.ok, fun a h => l.up a (k.up a h), fun a h => ?_, fun a o h n => ?_, fun a h => l.th a (k.th a h), k.sh.trans l.sh⟩
  · rcases l.nw a h with h | h
    · exact k.nw a h
    · refine .inr ?_
      cases q : H a with
      | none => rfl
      | some o =>
        exact absurd h (k.th a (by rw [q]; simp))
  · exact l.fr a o (k.fr a o h n) fun z => n ((k.sh.ow σ a).mp z)
theorem Go.den {v : V} {d : D} (l : Go K O H σ s O1 H1 s1) (k : Ok K O H σ s) (h : Den K O H v d) : Den K O1 H1 v d :=
  Den.mono (Wr := ownAd σ s) l.fr (fun a z => k.ow z) l.nw d v h
theorem Go.denAll {vs : List V} {ds : List D} (l : Go K O H σ s O1 H1 s1) (k : Ok K O H σ s) (h : DenAll K O H vs ds) : DenAll K O1 H1 vs ds :=
  DenAll.mono (Wr := ownAd σ s) l.fr (fun a z => k.ow z) l.nw ds vs h
/-- a new object is laid that is nobody's own -/
theorem Ok.upd {p : Addr} {o : HO} (k : Ok K O H σ s) (n : H p = none) : Ok K O (upd H p o) σ s := by
  refine ⟨k.len, fun i d h => ?_, fun i q xs h => ?_, k.ne, fun a h => ?_⟩
  · obtain ⟨v, e, h⟩ := k.val i d h
    exact ⟨v, e, h.upd n⟩
  · obtain ⟨a, vs, e, h1, h2, h3⟩ := k.own i q xs h
    exact ⟨a, vs, e, h1, by rw [upd_ne (ne_of_none h2 n)]; exact h2, h3.upd n⟩
  · unfold L2.upd
    split
    · simp
    · exact k.dom a h
theorem Go.upd {p : Addr} {o : HO} (k : Ok K O H σ s) (n : H p = none) : Go K O H σ s O (upd H p o) s :=
  ⟨k.upd n, fun _ h => h, fun _ h => .inl h, fun a u e _ => by rw [upd_ne (ne_of_none e n)]; exact e, fun a h => by
    unfold L2.upd
    split
    · simp
    · exact h, Shp.refl s⟩
/-- .. and is kept out from now on -/
theorem Ok.out {p : Addr} (k : Ok K O H σ s) (ho : H p ≠ none) (dd : ∀ v d, Den K O H v d → Den K (fun a => O a ∨ a = p) H v d) (dl : ∀ vs ds, DenAll K O H vs ds → DenAll K (fun a => O a ∨ a = p) H vs ds) : Ok K (fun a => O a ∨ a = p) H σ s := by
  refine ⟨k.len, fun i d h => ?_, fun i q xs h => ?_, k.ne, fun a h => ?_⟩
  · obtain ⟨v, e, h⟩ := k.val i d h
    exact ⟨v, e, dd v d h⟩
  · obtain ⟨a, vs, e, h1, h2, h3⟩ := k.own i q xs h
    exact ⟨a, vs, e, .inl h1, h2, dl vs xs h3⟩
  · rcases h with h | h
    · exact k.dom a h
    · rw [h]
      exact ho
theorem Go.lay {p : Addr} {xs : List V} (k : Ok K O H σ s) (n : H p = none) : Go K O H σ s (fun a => O a ∨ a = p) (L2.upd H p (.lst xs)) s := by
  have key : ∀ a, (O a ∨ a = p) → O a ∨ H a = none := fun a h => h.imp (fun z => z) fun z => by rw [z]; exact n
  have hk : ∀ a o, H a = some o → ¬ False → (L2.upd H p (.lst xs)) a = some o := fun a u e _ => by rw [upd_ne (ne_of_none e n)]; exact e
  refine ⟨⟨k.len, fun i d h => ?_, fun i q ys h => ?_, k.ne, fun a h => ?_⟩, fun a h => .inl h, key, fun a u e _ => by rw [upd_ne (ne_of_none e n)]; exact e, fun a h => ?_, Shp.refl s⟩
  · obtain ⟨v, e, h⟩ := k.val i d h
    exact ⟨v, e, Den.mono (Wr := fun _ => False) hk (fun _ z => z.elim) key d v h⟩
  · obtain ⟨a, vs, e, h1, h2, h3⟩ := k.own i q ys h
    exact ⟨a, vs, e, .inl h1, by rw [upd_ne (ne_of_none h2 n)]; exact h2, DenAll.mono (Wr := fun _ => False) hk (fun _ z => z.elim) key ys vs h3⟩
  · unfold L2.upd
    split
    · simp
    · rcases h with h | h
      · exact k.dom a h
      · contradiction
  · unfold L2.upd
    split
    · simp
    · exact h
theorem Go.layAll {p : Addr} {xs : List V} {vs : List V} {ds : List D} (n : H p = none) (h : DenAll K O H vs ds) : DenAll K (fun a => O a ∨ a = p) (L2.upd H p (.lst xs)) vs ds := by
  refine DenAll.mono (Wr := fun _ => False) (fun a u e _ => by rw [upd_ne (ne_of_none e n)]; exact e) (fun _ z => z.elim) (fun a h => ?_) ds vs h
  rcases h with h | h
  · exact .inl h
  · exact .inr (by rw [h]; exact n)
/-- a list that was just made is let go to be a value -/
theorem Ok.less {p : Addr} (k : Ok K O H σ s) (n : ¬ ownAd σ s p) : Ok K (fun a => O a ∧ a ≠ p) H σ s := by
  refine ⟨k.len, fun i d h => ?_, fun i q xs h => ?_, k.ne, fun a h => k.dom a h.1⟩
  · obtain ⟨v, e, h⟩ := k.val i d h
    exact ⟨v, e, h.fewer fun _ z => z.1⟩
  · obtain ⟨a, vs, e, h1, h2, h3⟩ := k.own i q xs h
    exact ⟨a, vs, e, ⟨h1, fun z => n ⟨i, q, xs, h, by rw [← z]; exact e⟩⟩, h2, h3.fewer fun _ z => z.1⟩

/-! ### results -/
/-- what v is for the result r -/
def RAt (K : PySem.W.Frag) (O : Addr → Prop) (H : Hp) (σ : L2.St) (s : Sl) (v : V) : R → Prop
  | .val d => Den K O H v d
  | .new xs => ∃ a vs, v = .ref a ∧ O a ∧ ¬ ownAd σ s a ∧ H a = some (.lst vs) ∧ DenAll K O H vs xs
  | .bor i => σ[i]? = some (some v) ∧ ∃ p xs, s[i]? = some (.own p xs)
theorem Go.rat {v : V} {r : R} (l : Go K O H σ s O1 H1 s1) (k : Ok K O H σ s) (h : RAt K O H σ s v r) : RAt K O1 H1 σ s1 v r := by
  cases r with
  | val d => exact l.den k h
  | new xs =>
    obtain ⟨a, vs, e, h1, h2, h3, h4⟩ := h
    exact ⟨a, vs, e, l.up a h1, fun z => h2 ((l.sh.ow σ a).mp z), l.fr a _ h3 h2, l.denAll k h4⟩
  | bor i =>
    obtain ⟨h1, p, xs, h2⟩ := h
    obtain ⟨ys, e⟩ := (l.sh.2 i).2.2 p xs h2
    exact ⟨h1, p, ys, e⟩
/-- v may be read as d: the top may be a list of its own -/
def Top (K : PySem.W.Frag) (O : Addr → Prop) (H : Hp) (v : V) (d : D) : Prop :=
  Den K O H v d ∨ ∃ a vs ds, v = .ref a ∧ d = .list ds ∧ H a = some (.lst vs) ∧ DenAll K O H vs ds
theorem RAt.top {v : V} {r : R} {d : D} (k : Ok K O H σ s) (h : RAt K O H σ s v r) (e : r.get s = some d) : Top K O H v d := by
  cases r with
  | val d' =>
    cases e
    exact .inl h
  | new xs =>
    obtain ⟨a, vs, e1, h1, h2, h3, h4⟩ := h
    cases e
    exact .inr ⟨a, vs, xs, e1, rfl, h3, h4⟩
  | bor i =>
    obtain ⟨h1, p, xs, h2⟩ := h
    have e' : some (PyData.list xs) = some d := by
      simp only [R.get, h2] at e
      exact e
    cases e'
    obtain ⟨a, vs, e1, o, l, t⟩ := k.own i p xs h2
    rw [h1] at e1
    cases e1
    exact .inr ⟨a, vs, xs, rfl, rfl, l, t⟩
theorem Top.dp {v : V} {d : D} (h : Top K O H v d) (n : d.hasDict = false) : Dp K H v d := by
  rcases h with h | ⟨a, vs, ds, rfl, rfl, h, t⟩
  · exact Den.dp d v h n
  · exact .lst (.inl (.inl h)) (DenAll.dp ds vs t (by simpa [PyData.hasDict] using n))
theorem Top.lst {v : V} {ds : List D} (h : Top K O H v (.list ds)) : ∃ a vs, v = .ref a ∧ H a = some (.lst vs) ∧ DenAll K O H vs ds := by
  rcases h with h | ⟨a, vs, ds', rfl, e, h, t⟩
  · cases h with
    | lst r no t => exact ⟨_, _, rfl, r, t⟩
  · cases e
    exact ⟨a, vs, rfl, h, t⟩
theorem Top.scr {v : V} {ds : List D} (h : Top K O H v (scr ds)) : ∃ a vs, v = .ref a ∧ SqL K H a vs ∧ DenAll K O H vs ds := by
  rcases h with h | ⟨a, vs, ds', rfl, e, h, t⟩
  · cases h with
    | scr r t => exact ⟨_, _, rfl, r.sq, t⟩
  · cases e
theorem Top.tup {v : V} {ds : List D} (h : Top K O H v (.tuple ds)) : ∃ a vs, v = .ref a ∧ SqT K H a vs ∧ DenAll K O H vs ds := by
  rcases h with h | ⟨a, vs, ds', rfl, e, h, t⟩
  · cases h with
    | tup r t => exact ⟨_, _, rfl, r, t⟩
  · cases e
theorem Top.int {v : V} {i : Int} (h : Top K O H v (.int i)) : v = .int i := by
  rcases h with h | ⟨a, vs, ds', rfl, e, h, t⟩
  · cases h
    rfl
  · cases e
theorem Top.bl {v : V} {i : Bool} (h : Top K O H v (.bool i)) : v = .bl i := by
  rcases h with h | ⟨a, vs, ds', rfl, e, h, t⟩
  · cases h
    rfl
  · cases e
theorem Top.str {v : V} {i : Str} (h : Top K O H v (.str i)) : v = .str i := by
  rcases h with h | ⟨a, vs, ds', rfl, e, h, t⟩
  · cases h
    rfl
  · cases e
theorem Top.non {v : V} (h : Top K O H v .none) : v = .non := by
  rcases h with h | ⟨a, vs, ds', rfl, e, h, t⟩
  · cases h
    rfl
  · cases e
theorem Top.den {v : V} {d : D} (h : Top K O H v d) (n : ∀ xs, d ≠ .list xs) : Den K O H v d := by
  rcases h with h | ⟨a, vs, ds', rfl, e, h, t⟩
  · exact h
  · exact absurd e (n _)
/-- kept in something: a list just made is let go -/
theorem RAt.keep {v : V} {r : R} {d : D} (k : Ok K O H σ s) (h : RAt K O H σ s v r) (e : r.sto = some d) :
    ∃ O', Ok K O' H σ s ∧ (∀ a, O' a → O a) ∧ (∀ a, O a → O' a ∨ ∃ xs, r = .new xs ∧ v = .ref a) ∧ Den K O' H v d := by
  cases r with
  | val d' =>
    cases e
    exact ⟨O, k, fun _ z => z, fun _ z => .inl z, h⟩
  | new xs =>
    obtain ⟨a, vs, rfl, h1, h2, h3, h4⟩ := h
    cases e
    refine ⟨_, k.less h2, fun _ z => z.1, fun b z => ?_, .lst h3 (fun z => z.2 rfl) (h4.fewer fun _ z => z.1)⟩
    by_cases q : b = a
    · exact .inr ⟨xs, rfl, by rw [q]⟩
    · exact .inl ⟨z, q⟩
  | bor i => cases e
end
end
end Mi

set_option Elab.async false
set_option linter.all false
set_option maxRecDepth 100000
set_option maxHeartbeats 4000000
/-! Mi: a tuple times 0 or 1. -/
namespace Mi
open PySem PySem.Spec PyProof.Rows L2
theorem tuple_mul1 (l : Addr) (items : Array Value) (n : Nat) (dd : Option Addr) (sl : Array (Option Value)) (u : Tok) :
    Meets (Builtin.«tuple.__mul__» ⟨[.ref l, .int 1 u], []⟩) (fun _ R s => s.heap.get? l = some { cls := .type "tuple", dict := dd, data := .seq items n, slots := sl } ∧ R (.ok (.ret (Value.ref l))) s) :=
  .of_wp fun prog w A R s h => by
    obtain ⟨hp, g, d, tk, os⟩ := s
    obtain ⟨hl, h⟩ := h
    have f1 := AutoSeq1.idx_int
    have c0 : (decide ((1 : Int) < -(2 ^ 63)) || decide ((1 : Int) ≥ 2 ^ 63)) = false := by decide
    have c1 : (items.isEmpty || (1 : Int) == 1) = true := by simp
    wp_walk using wpAny_loadPart' hl
    repeat (first
      | (refine wpAny_ite_false (decide_eq_false (by rw [c0]; exact Bool.false_ne_true)) ?_; wp_walk using wpAny_loadPart' hl)
      | (refine wpAny_ite_true (decide_eq_true c1) ?_; wp_walk using wpAny_loadPart' hl))
    exact ⟨_, rfl, h⟩
theorem tuple_mul0 (l : Addr) (items : Array Value) (n : Nat) (dd : Option Addr) (sl : Array (Option Value)) (x : Int) (u : Tok) (h0 : -(2 ^ 63) ≤ x) (h1 : x ≤ 0) (h2 : items.isEmpty = false) :
    Meets (Builtin.«tuple.__mul__» ⟨[.ref l, .int x u], []⟩) (fun _ R s => s.heap.get? l = some { cls := .type "tuple", dict := dd, data := .seq items n, slots := sl } ∧
      R (.ok (.ret (Value.ref s.heap.objs.size))) { s with heap := s.heap.push { cls := Value.type "tuple", data := Data.seq #[] }, toks := s.toks }) :=
  .of_wp fun prog w A R s h => by
    obtain ⟨hp, g, d, tk, os⟩ := s
    obtain ⟨hl, h⟩ := h
    have f1 := AutoSeq1.idx_int
    have c0 : (decide (x < -(2 ^ 63)) || decide (x ≥ 2 ^ 63)) = false := by
      rw [decide_eq_false (by omega), decide_eq_false (by omega)] <;> rfl
    have c1 : (items.isEmpty || x == 1) = false := by
      rw [h2, Bool.false_or]
      exact beq_eq_false_iff_ne.mpr (by omega)
    have c2 : (decide (x ≤ 0) || items.isEmpty) = true := by
      rw [decide_eq_true h1]
      rfl
    wp_walk using wpAny_loadPart' hl
    repeat (first
      | (refine wpAny_ite_false (decide_eq_false (by rw [c0]; exact Bool.false_ne_true)) ?_; wp_walk using wpAny_loadPart' hl)
      | (refine wpAny_ite_false (decide_eq_false (by rw [c1]; exact Bool.false_ne_true)) ?_; wp_walk using wpAny_loadPart' hl)
      | (refine wpAny_ite_true (decide_eq_true c2) ?_; wp_walk using wpAny_loadPart' hl))
    exact ⟨_, rfl, h⟩
def rRep1 (K : PySem.W.Frag) : R2 := fun x y H Q => ∃ l xs, x = .ref l ∧ y = .int 1 ∧ SqT K H l xs ∧ Q (.ref l) H
def rRep0 (K : PySem.W.Frag) : R2 := fun x y H Q => ∃ l k xs, x = .ref l ∧ y = .int k ∧ SqT K H l xs ∧ xs ≠ [] ∧ -(2 ^ 63) ≤ k ∧ k ≤ 0 ∧ ∀ p, H p = none → Q (.ref p) (upd H p (.tup []))
theorem op_rep1 {X : Cx} : OpR X (binaryOp .Mult) (rRep1 X.K) := by
  intro pins s σ H x y v u Q I rx ry h
  obtain ⟨l, xs, rfl, rfl, hT, q⟩ := h
  cases rx
  obtain ⟨t, rfl⟩ := ry
  obtain ⟨its, r, ⟨⟨cls, dd, data, sl⟩, ho, hc, n, hd⟩, hs⟩ := I.tuple hT
  simp only at hc hd
  subst hc hd
  refine wpAny_binaryOp_repeat_ref (T := "tuple") (U := "int") (by decide) ⟨_, ho, rfl⟩ (fun s' => typeIs_int s' 1 t) noFill_tuple_mul F.fills_int_mul F.slot_int_rmul repeat_tuple F.slot_int_index.lookup
    (call_meets F.slot_int_rmul (typeIs_int s 1 t) F.entry_int_rmul (F.args_int_rmul_2 _ _) (int_rmul_tuple 1 t l its.toArray n dd sl)
      ⟨ho, rfl, ⟨_, ho, rfl⟩, call_meets F.slot_tuple_mul ⟨_, ho, rfl⟩ F.entry_tuple_mul (F.args_tuple_mul_2 _ _) (tuple_mul1 l its.toArray n dd sl t) ⟨ho, ?_⟩⟩)
  exact ⟨.ref l, H, I, rfl, q⟩
theorem op_rep0 {X : Cx} : OpR X (binaryOp .Mult) (rRep0 X.K) := by
  intro pins s σ H x y v u Q I rx ry h
  obtain ⟨l, k, xs, rfl, rfl, hT, hne, h1, h2, q⟩ := h
  cases rx
  obtain ⟨t, rfl⟩ := ry
  obtain ⟨its, r, ⟨⟨cls, dd, data, sl⟩, ho, hc, n, hd⟩, hs⟩ := I.tuple hT
  simp only at hc hd
  subst hc hd
  have hle : its.length = xs.length := r.length.symm
  have hi : its.toArray.isEmpty = false := by
    cases its with
    | nil => exact absurd (List.eq_nil_of_length_eq_zero hle.symm) hne
    | cons a b => rfl
  refine wpAny_binaryOp_repeat_ref (T := "tuple") (U := "int") (by decide) ⟨_, ho, rfl⟩ (fun s' => typeIs_int s' k t) noFill_tuple_mul F.fills_int_mul F.slot_int_rmul repeat_tuple F.slot_int_index.lookup
    (call_meets F.slot_int_rmul (typeIs_int s k t) F.entry_int_rmul (F.args_int_rmul_2 _ _) (int_rmul_tuple k t l its.toArray n dd sl)
      ⟨ho, rfl, ⟨_, ho, rfl⟩, call_meets F.slot_tuple_mul ⟨_, ho, rfl⟩ F.entry_tuple_mul (F.args_tuple_mul_2 _ _) (tuple_mul0 l its.toArray n dd sl k t h1 h2 hi) ⟨ho, ?_⟩⟩)
  refine ⟨.ref s.heap.objs.size, _, I.laid (t' := s.toks) (o := .tup []) (fun b ob q => Heap.get?_push_of_some _ q) (Nat.le_refl _) ?_, rfl, q _ (I.hok.fresh (Nat.le_refl _))⟩
  exact ⟨by show 0 ≤ sizeLine; omega, [], .nil, IsTup.new _ _⟩
end Mi

set_option Elab.async false
set_option linter.all false
set_option maxRecDepth 100000
/-! Mi: operators and calls by values. -/
namespace Mi
open PySem L2 PyProof.Rows

/-- what is asked behind a result -/
def Post (K : PySem.W.Frag) (O : Addr → Prop) (H : Hp) (σ : L2.St) (s s' : Sl) (r : R) (Q : VK) : Prop :=
  ∀ O' v H', Go K O H σ s O' H' s' → RAt K O' H' σ s' v r → (∀ xs a, r = .new xs → v = .ref a → H a = none) → Q v H'
section
variable {K : PySem.W.Frag} {O : Addr → Prop} {H : Hp} {σ : L2.St} {s : Sl} {Q : VK}
theorem Post.val {v : V} {d : D} (h : Post K O H σ s s (.val d) Q) (k : Ok K O H σ s) (hd : Den K O H v d) : Q v H :=
  h O v H (Go.refl k) hd fun _ _ e => nomatch e
theorem Post.tup {vs : List V} {ds : List D} (h : Post K O H σ s s (.val (.tuple ds)) Q) (k : Ok K O H σ s) (hd : DenAll K O H vs ds) {p : Addr} (n : H p = none) : Q (.ref p) (upd H p (.tup vs)) :=
  h O _ _ (Go.upd k n) (Den.tup (SqT.of upd_same) (hd.upd n)) fun _ _ e => nomatch e
theorem Post.new {vs : List V} {ds : List D} (h : Post K O H σ s s (.new ds) Q) (k : Ok K O H σ s) (hd : DenAll K O H vs ds) {p : Addr} (n : H p = none) : Q (.ref p) (upd H p (.lst vs)) := by
  refine h _ _ _ (Go.lay k n) ⟨p, vs, rfl, .inr rfl, fun z => ?_, upd_same, Go.layAll n hd⟩ fun xs a _ e => ?_
  · obtain ⟨_, xs, e⟩ := k.ow z
    rw [n] at e
    cases e
  · cases e
    exact n
end
theorem OpR.or {X : Cx} {f : Value → Value → Sem Value} {r r' : R2} (h : OpR X f r) (h' : OpR X f r') : OpR X f (fun x y H Q => r x y H Q ∨ r' x y H Q) := by
  intro pins s σ H x y v u Q I rx ry q
  rcases q with q | q
  · exact h pins s σ H x y v u Q I rx ry q
  · exact h' pins s σ H x y v u Q I rx ry q
/-- the operator's rule does what f says -/
def OpS (K : PySem.W.Frag) (r : R2) (f : D → D → Option R) : Prop :=
  ∀ O H σ s x y dx dy res Q, Ok K O H σ s → Top K O H x dx → Top K O H y dy → f dx dy = some res → Post K O H σ s s res Q → r x y H Q
def BOp.py : BOp → Operator
  | .add => .Add
  | .sub => .Sub
  | .mul => .Mult
  | .fdiv => .FloorDiv
  | .mod => .Mod
  | .pow => .Pow
theorem bin_ok {X : Cx} (op : BOp) : ∃ r, OpR X (binaryOp op.py) r ∧ OpS X.K r (binD op) := by
  cases op with
  | add =>
    refine ⟨_, (op_add.or op_catA).or (op_cat.or op_add_str), fun O H σ s x y dx dy res Q k tx ty e q => ?_⟩
    change addD dx dy = some res at e
    unfold addD at e
    split at e
    · rename_i i j
      cases e
      exact .inl (.inl ⟨i, j, tx.int, ty.int, q.val k (.int _)⟩)
    · rename_i xs ys
      split at e
      · rename_i hz
        cases e
        obtain ⟨a, vs, rfl, ha, da⟩ := tx.tup
        obtain ⟨b, ws, rfl, hb, db⟩ := ty.tup
        refine .inl (.inr ⟨a, b, vs, ws, rfl, rfl, ha, hb, by rw [da.length, db.length]; exact hz, fun z => ?_, fun _ z => ?_, fun _ _ p n => ?_⟩)
        · subst z
          cases da
          exact q.val k (.tup hb (by simpa using db))
        · subst z
          cases db
          exact q.val k (.tup ha (by simpa using da))
        · exact q.tup k (da.append db) n
      · cases e
    · rename_i xs ys
      split at e
      · rename_i hz
        cases e
        obtain ⟨a, vs, rfl, ha, da⟩ := tx.lst
        obtain ⟨b, ws, rfl, hb, db⟩ := ty.lst
        exact .inr (.inl ⟨a, b, vs, ws, rfl, rfl, ha, hb, by rw [da.length, db.length]; exact hz, fun p n => q.new k (da.append db) n⟩)
      · cases e
    · rename_i xs ys
      split at e
      · rename_i hz
        cases e
        exact .inr (.inr ⟨_, _, tx.str, ty.str, hz, q.val k (.str _)⟩)
      · cases e
    · cases e
  | sub =>
    refine ⟨_, op_sub, fun O H σ s x y dx dy res Q k tx ty e q => ?_⟩
    change subD dx dy = some res at e
    unfold subD at e
    split at e
    · rename_i i j
      cases e
      exact ⟨i, j, tx.int, ty.int, q.val k (.int _)⟩
    · cases e
  | mul =>
    refine ⟨_, op_mul.or (op_rep.or (op_repT.or (op_rep1.or op_rep0))), fun O H σ s x y dx dy res Q k tx ty e q => ?_⟩
    change mulD dx dy = some res at e
    unfold mulD at e
    split at e
    · rename_i i j
      split at e
      · rename_i hz
        cases e
        exact .inl ⟨i, j, tx.int, ty.int, hz, q.val k (.int _)⟩
      · cases e
    · rename_i xs j
      split at e
      · rename_i hz
        cases e
        obtain ⟨a, vs, rfl, ha, da⟩ := tx.lst
        exact .inr (.inl ⟨_, _, _, rfl, ty.int, ha, hz.1, hz.2.1, by rw [da.length]; exact hz.2.2, fun p n => q.new k (da.rep _) n⟩)
      · cases e
    · rename_i xs j
      split at e
      · rename_i hz
        cases e
        obtain ⟨a, vs, rfl, ha, da⟩ := tx.tup
        have ne : vs ≠ [] := fun z => by
          subst z
          cases da
          exact hz.1 rfl
        by_cases h2 : 2 ≤ j
        · exact .inr (.inr (.inl ⟨a, j, vs, rfl, ty.int, ha, ne, h2, hz.2.2.1, by rw [da.length]; exact hz.2.2.2, fun p n => q.tup k (da.rep _) n⟩))
        · by_cases h1 : j = 1
          · subst h1
            refine .inr (.inr (.inr (.inl ⟨a, vs, rfl, ty.int, ha, q.val k ?_⟩)))
            have e : (List.replicate (1 : Int).toNat xs).flatten = xs := by
              show (List.replicate 1 xs).flatten = xs
              simp
            rw [e]
            exact .tup ha da
          · refine .inr (.inr (.inr (.inr ⟨a, j, vs, rfl, ty.int, ha, ne, hz.2.1, by omega, fun p n => q.tup k ?_ n⟩)))
            have e : j.toNat = 0 := by omega
            rw [e]
            exact .nil
      · cases e
    · cases e
  | fdiv =>
    refine ⟨_, op_fdivN, fun O H σ s x y dx dy res Q k tx ty e q => ?_⟩
    change fdivD dx dy = some res at e
    unfold fdivD at e
    split at e
    · rename_i i j
      split at e
      · rename_i hz
        cases e
        exact ⟨i, j, tx.int, ty.int, hz, q.val k (.int _)⟩
      · cases e
    · cases e
  | mod =>
    refine ⟨_, op_modN, fun O H σ s x y dx dy res Q k tx ty e q => ?_⟩
    change modD dx dy = some res at e
    unfold modD at e
    split at e
    · rename_i i j
      split at e
      · rename_i hz
        cases e
        exact ⟨i, j, tx.int, ty.int, hz, q.val k (.int _)⟩
      · cases e
    · cases e
  | pow =>
    refine ⟨_, op_pow, fun O H σ s x y dx dy res Q k tx ty e q => ?_⟩
    change powD dx dy = some res at e
    unfold powD at e
    split at e
    · rename_i i j
      split at e
      · rename_i hz
        cases e
        exact ⟨i, j, tx.int, ty.int, hz, q.val k (.int _)⟩
      · cases e
    · cases e

def OpB (K : PySem.W.Frag) (r : R2) (f : D → D → Option Bool) : Prop :=
  ∀ O H σ s x y dx dy b Q, Ok K O H σ s → Top K O H x dx → Top K O H y dy → f dx dy = some b → Q (.bl b) H → r x y H Q
def COp.py : COp → CmpOp
  | .eq => .Eq
  | .ne => .NotEq
  | .lt => .Lt
  | .le => .LtE
  | .gt => .Gt
  | .ge => .GtE
  | .isN => .Is
  | .notN => .IsNot
  | .in_ => .In
  | .notIn => .NotIn
theorem nod {d : D} (h : SeqAt.shaped d = true) : d.hasDict = false := PyData.hasDict_of_canLay d (SeqAt.canLay_of_shaped h)
theorem top_non {K : PySem.W.Frag} {O : Addr → Prop} {H : Hp} {x : V} {d : D} {b : Bool} (t : Top K O H x d) (e : isND d .none = some b) : b = decide (x = .non) := by
  cases d with
  | none =>
    cases e
    rw [t.non]
    rfl
  | _ =>
    cases e
    rcases t with t | ⟨a, vs, ds, rfl, _⟩
    · cases t <;> rfl
    · rfl
theorem isN_none {x y : D} {b : Bool} (e : isND x y = some b) : y = .none ∨ ∃ i j, x = .bool i ∧ y = .bool j ∧ b = decide (i = j) := by
  unfold isND at e
  split at e
  · exact .inl rfl
  · exact .inl rfl
  · cases e
    exact .inr ⟨_, _, rfl, rfl, rfl⟩
  · cases e
theorem opr_or {X : Cx} {f : Value → Value → Sem Value} {r1 r2 : V → V → Hp → VK → Prop} (h1 : OpR X f r1) (h2 : OpR X f r2) : OpR X f (fun x y H Q => r1 x y H Q ∨ r2 x y H Q) := fun pins s σ H x y v u Q I rx ry h => h.elim (fun h => h1 pins s σ H x y v u Q I rx ry h) fun h => h2 pins s σ H x y v u Q I rx ry h
theorem inn_ok {K : PySem.W.Frag} {O : Addr → Prop} {H : Hp} {σ : L2.St} {s : Sl} {x y : V} {dx dy : D} {b : Bool} (k : Ok K O H σ s) (tx : Top K O H x dx) (ty : Top K O H y dy) (e : innD dx dy = some b) :
    (∃ p xs, y = .ref p ∧ (SqL K H p xs ∨ SqT K H p xs) ∧ flatV x = true ∧ xs.all flatV = true ∧ inV x xs = b) ∨ ∃ i j, x = .str i ∧ y = .str j ∧ (!(Builtin.Str.occurrences j i 0 j.length 1).isEmpty) = b := by
  unfold innD at e
  split at e
  · rename_i ys
    split at e
    · rename_i hz
      cases e
      obtain ⟨a, vs, rfl, ha, da⟩ := ty.lst
      have tx := tx.den fun xs z => by rw [z] at hz; exact absurd hz.1 Bool.false_ne_true
      exact .inl ⟨a, vs, rfl, .inl (SqL.of ha), tx.flat hz.1, da.flat hz.2, DenAll.inF tx hz.1 da hz.2⟩
    · cases e
  · rename_i ys
    split at e
    · rename_i hz
      cases e
      obtain ⟨a, vs, rfl, ha, da⟩ := ty.tup
      have tx := tx.den fun xs z => by rw [z] at hz; exact absurd hz.1 Bool.false_ne_true
      exact .inl ⟨a, vs, rfl, .inr ha, tx.flat hz.1, da.flat hz.2, DenAll.inF tx hz.1 da hz.2⟩
    · cases e
  · cases e
    exact .inr ⟨_, _, tx.str, ty.str, rfl⟩
  · cases e
theorem cmp_ok {X : Cx} (hu : X.A.units + 64 < cLine) (op : COp) : ∃ r, OpR X (compareOp op.py) r ∧ OpB X.K r (cmpD op) := by
  cases op with
  | eq =>
    refine ⟨_, op_eq.or (op_eqD hu), fun O H σ s x y dx dy b Q k tx ty e q => ?_⟩
    change eqqD dx dy = some b at e
    unfold eqqD at e
    split at e
    · rename_i a c
      cases e
      have e1 := tx.str
      have e2 := ty.str
      subst e1 e2
      refine .inl ⟨rfl, ?_⟩
      have : decide (V.str a = V.str c) = decide (a = c) := by
        by_cases z : a = c <;> simp [z]
      rw [this]
      exact q
    · split at e
      · rename_i hz
        cases e
        exact .inr ⟨dx, dy, tx.dp (nod hz.1), ty.dp (nod hz.2), hz.1, hz.2, q⟩
      · cases e
  | ne =>
    refine ⟨_, op_ne.or (op_neD hu), fun O H σ s x y dx dy b Q k tx ty e q => ?_⟩
    change (eqqD dx dy).map (!·) = some b at e
    unfold eqqD at e
    split at e
    · rename_i a c
      cases e
      have e1 := tx.str
      have e2 := ty.str
      subst e1 e2
      refine .inl ⟨rfl, ?_⟩
      have : decide (V.str a = V.str c) = decide (a = c) := by
        by_cases z : a = c <;> simp [z]
      rw [this]
      exact q
    · split at e
      · rename_i hz
        cases e
        exact .inr ⟨dx, dy, tx.dp (nod hz.1), ty.dp (nod hz.2), hz.1, hz.2, q⟩
      · cases e
  | lt =>
    refine ⟨_, op_lt, fun O H σ s x y dx dy b Q k tx ty e q => ?_⟩
    change ltD dx dy = some b at e
    unfold ltD at e
    split at e
    · cases e
      exact ⟨_, _, tx.int, ty.int, q⟩
    · cases e
  | le =>
    refine ⟨_, op_le, fun O H σ s x y dx dy b Q k tx ty e q => ?_⟩
    change leD dx dy = some b at e
    unfold leD at e
    split at e
    · cases e
      exact ⟨_, _, tx.int, ty.int, q⟩
    · cases e
  | gt =>
    refine ⟨_, op_gt, fun O H σ s x y dx dy b Q k tx ty e q => ?_⟩
    change ltD dy dx = some b at e
    unfold ltD at e
    split at e
    · cases e
      exact ⟨_, _, tx.int, ty.int, q⟩
    · cases e
  | ge =>
    refine ⟨_, op_ge, fun O H σ s x y dx dy b Q k tx ty e q => ?_⟩
    change leD dy dx = some b at e
    unfold leD at e
    split at e
    · cases e
      exact ⟨_, _, tx.int, ty.int, q⟩
    · cases e
  | isN =>
    refine ⟨_, opr_or op_isN op_is_bl, fun O H σ s x y dx dy b Q k tx ty e q => ?_⟩
    change isND dx dy = some b at e
    rcases isN_none e with en | ⟨i, j, rfl, rfl, rfl⟩
    · subst en
      rw [top_non tx e] at q
      exact .inl ⟨ty.non, q⟩
    · exact .inr ⟨i, j, tx.bl, ty.bl, q⟩
  | notN =>
    refine ⟨_, opr_or op_notN op_isnot_bl, fun O H σ s x y dx dy b Q k tx ty e q => ?_⟩
    change (isND dx dy).map (!·) = some b at e
    cases e1 : isND dx dy with
    | none =>
      rw [e1] at e
      cases e
    | some c =>
      rw [e1] at e
      cases e
      rcases isN_none e1 with en | ⟨i, j, rfl, rfl, rfl⟩
      · subst en
        rw [top_non tx e1] at q
        exact .inl ⟨ty.non, q⟩
      · exact .inr ⟨i, j, tx.bl, ty.bl, q⟩
  | in_ =>
    refine ⟨_, op_in_seq.or op_in_str, fun O H σ s x y dx dy b Q k tx ty e q => ?_⟩
    change innD dx dy = some b at e
    rcases inn_ok k tx ty e with ⟨p, xs, rfl, h1, h2, h3, h4⟩ | ⟨i, j, rfl, rfl, h⟩
    · subst h4
      exact .inl ⟨p, xs, rfl, h1, h2, h3, q⟩
    · subst h
      exact .inr ⟨i, j, rfl, rfl, q⟩
  | notIn =>
    refine ⟨_, op_notIn_seq.or op_notin_str, fun O H σ s x y dx dy b Q k tx ty e q => ?_⟩
    change (innD dx dy).map (!·) = some b at e
    cases e1 : innD dx dy with
    | none =>
      rw [e1] at e
      cases e
    | some c =>
      rw [e1] at e
      cases e
      rcases inn_ok k tx ty e1 with ⟨p, xs, rfl, h1, h2, h3, h4⟩ | ⟨i, j, rfl, rfl, h⟩
      · subst h4
        exact .inl ⟨p, xs, rfl, h1, h2, h3, q⟩
      · subst h
        exact .inr ⟨i, j, rfl, rfl, q⟩
end Mi

set_option Elab.async false
set_option linter.all false
set_option maxRecDepth 100000
/-! Mi: built-in calls by values. -/
namespace Mi
open PySem L2 PyProof.Rows

def C1S (K : PySem.W.Frag) (r : List V → Hp → VK → Prop) (f : D → Option R) : Prop :=
  ∀ O H σ s x dx res Q, Ok K O H σ s → Top K O H x dx → f dx = some res → Post K O H σ s s res Q → r [x] H Q
def C2S (K : PySem.W.Frag) (r : List V → Hp → VK → Prop) (f : D → D → Option R) : Prop :=
  ∀ O H σ s x y dx dy res Q, Ok K O H σ s → Top K O H x dx → Top K O H y dy → f dx dy = some res → Post K O H σ s s res Q → r [x, y] H Q
def F1.nm : F1 → Str
  | .len => "len"
  | .abs => "abs"
  | .int => "int"
  | .str => "str"
  | .repr => "repr"
  | .tuple => "tuple"
  | .list => "list"
  | .sorted => "sorted"
  | .sum => "sum"
  | .any => "any"
  | .all => "all"
  | .max => "max"
  | .min => "min"
  | .ord => "ord"
def F1.ty : F1 → Option String
  | .int => some "int"
  | .str => some "str"
  | .tuple => some "tuple"
  | .list => some "list"
  | _ => none
def F1.bn : F1 → String
  | .len => "len"
  | .abs => "abs"
  | .int => "int"
  | .str => "str"
  | .repr => "repr"
  | .tuple => "tuple"
  | .list => "list"
  | .sorted => "sorted"
  | .sum => "sum"
  | .any => "any"
  | .all => "all"
  | .max => "max"
  | .min => "min"
  | .ord => "ord"
def F1.val (f : F1) : Value := match f.ty with
  | some t => .type t
  | none => .builtin f.bn
theorem F1.boot (f : F1) : bootBuiltins f.nm = some f.val := by
  cases f <;> decide +kernel
def F2.nm : F2 → Str
  | .max => "max"
  | .min => "min"
  | .divmod => "divmod"
def F2.bn : F2 → String
  | .max => "max"
  | .min => "min"
  | .divmod => "divmod"
theorem F2.boot (f : F2) : bootBuiltins f.nm = some (.builtin f.bn) := by
  cases f <;> decide +kernel

/-! ### repr -/
def rRepr (K : PySem.W.Frag) : List V → Hp → VK → Prop := fun xs H Q => ∃ x d, xs = [x] ∧ Dp K H x d ∧ d.showable = true ∧ d.hasDict = false ∧ d.depth ≤ 60 ∧ d.shown.length ≤ sizeLine ∧ Q (.str d.shown) H
theorem call_repr {X : Cx} (hg : X.A.guards = some []) (hu : X.A.units + 64 < cLine) : CallR X (.builtin "repr") (rRepr X.K) := by
  intro pins s σ H xs us Q I r h
  obtain ⟨x, d, rfl, hd, hs, hn, hp, hz, q⟩ := h
  obtain ⟨u, rfl, rx⟩ := vals1 r
  have big : ∀ a, u = .ref a → wpAny (model X.prog X.w) X.A (call (.builtin "repr") [u]) (EP X pins σ Q) X.xe s := fun a e => by
    obtain ⟨as, rd⟩ := Dp.reads I d x u hd rx
    subst e
    exact repr_of_reads' rd hs (PyData.noDict_hsm hn) hg (by omega) (fun _ _ e => e) (fun h' u tk hk => ⟨.str d.shown, H, I.kept hk, ⟨_, rfl⟩, q⟩) hz
  cases d with
  | none =>
    cases hd
    cases (show u = Value.none from rx)
    exact PySem.P.repr_of_none ⟨.str _, H, I.tok _, ⟨_, rfl⟩, by simpa [PyData.shown] using q⟩
  | bool b =>
    cases hd
    cases (show u = Value.bool b from rx)
    exact PySem.P.repr_of_bool ⟨.str _, H, I.tok _, ⟨_, rfl⟩, by simpa [PyData.shown] using q⟩
  | int i =>
    cases hd
    obtain ⟨t, e⟩ := (show ∃ t, u = Value.int i t from rx)
    cases e
    exact PySem.P.repr_of_int (by simpa [PyData.showable] using hs) ⟨.str _, H, I.tok _, ⟨_, rfl⟩, by simpa [PyData.shown] using q⟩
  | str y =>
    cases hd
    obtain ⟨t, e⟩ := (show ∃ t, u = Value.str y t from rx)
    cases e
    exact PySem.P.repr_of_str ⟨.str _, H, I.tok _, ⟨_, rfl⟩, by simpa [PyData.shown] using q⟩ (by simpa [PyData.shown] using hz)
  | list ds =>
    cases hd
    exact big _ rx
  | tuple ds =>
    cases hd
    exact big _ rx
  | dict l => cases hd

/-! ### sorted, max, min: the one answer -/
theorem ins_perm (x : Int) : ∀ l : List Int, (ins x l).Perm (x :: l)
  | [] => List.Perm.refl _
  | y :: r => by
    unfold ins
    split
    · exact List.Perm.refl _
    · exact ((ins_perm x r).cons y).trans (List.Perm.swap x y r)
theorem sortI_perm : ∀ l : List Int, (sortI l).Perm l
  | [] => List.Perm.refl _
  | x :: r => (ins_perm x (sortI r)).trans ((sortI_perm r).cons x)
theorem ins_sorted (x : Int) : ∀ l : List Int, l.Pairwise (· ≤ ·) → (ins x l).Pairwise (· ≤ ·)
  | [], _ => List.pairwise_singleton _ _
  | y :: r, h => by
    obtain ⟨h1, h2⟩ := List.pairwise_cons.mp h
    unfold ins
    split
    · rename_i hx
      refine List.pairwise_cons.mpr ⟨fun z hz => ?_, h⟩
      rcases List.mem_cons.mp hz with rfl | hz
      · exact hx
      · exact Int.le_trans hx (h1 z hz)
    · rename_i hx
      refine List.pairwise_cons.mpr ⟨fun z hz => ?_, ins_sorted x r h2⟩
      rcases List.mem_cons.mp ((ins_perm x r).mem_iff.mp hz) with rfl | hz
      · omega
      · exact h1 z hz
theorem sortI_sorted : ∀ l : List Int, (sortI l).Pairwise (· ≤ ·)
  | [] => List.Pairwise.nil
  | x :: r => ins_sorted x _ (sortI_sorted r)
theorem sortI_uniq {l m : List Int} (p : m.Perm l) (h : m.Pairwise (· ≤ ·)) : m = sortI l :=
  (p.trans (sortI_perm l).symm).eq_of_pairwise (fun _ _ _ _ h1 h2 => Int.le_antisymm h1 h2) h (sortI_sorted l)
theorem maxI_some : ∀ {l : List Int} {m : Int}, maxI l = some m → m ∈ l ∧ ∀ y ∈ l, y ≤ m
  | [], _, e => nomatch e
  | [x], m, e => by
    cases e
    simp
  | x :: y :: r, m, e => by
    unfold maxI at e
    cases q : maxI (y :: r) with
    | none =>
      rw [q] at e
      cases e
    | some k =>
      rw [q] at e
      obtain ⟨h1, h2⟩ := maxI_some q
      have e' : (if k > x then k else x) = m := Option.some.inj e
      split at e'
      · subst e'
        refine ⟨List.mem_cons_of_mem _ h1, fun z hz => ?_⟩
        rcases List.mem_cons.mp hz with rfl | hz
        · omega
        · exact h2 z hz
      · subst e'
        refine ⟨List.mem_cons_self, fun z hz => ?_⟩
        rcases List.mem_cons.mp hz with rfl | hz
        · omega
        · have := h2 z hz
          omega
theorem minI_some : ∀ {l : List Int} {m : Int}, minI l = some m → m ∈ l ∧ ∀ y ∈ l, m ≤ y
  | [], _, e => nomatch e
  | [x], m, e => by
    cases e
    simp
  | x :: y :: r, m, e => by
    unfold minI at e
    cases q : minI (y :: r) with
    | none =>
      rw [q] at e
      cases e
    | some k =>
      rw [q] at e
      obtain ⟨h1, h2⟩ := minI_some q
      have e' : (if k < x then k else x) = m := Option.some.inj e
      split at e'
      · subst e'
        refine ⟨List.mem_cons_of_mem _ h1, fun z hz => ?_⟩
        rcases List.mem_cons.mp hz with rfl | hz
        · omega
        · exact h2 z hz
      · subst e'
        refine ⟨List.mem_cons_self, fun z hz => ?_⟩
        rcases List.mem_cons.mp hz with rfl | hz
        · omega
        · have := h2 z hz
          omega
theorem toStr_eq (i : Int) : (toString i : String) = toString i := rfl

theorem f1_ok {X : Cx} (hc : X.calm = true) (hg : X.A.guards = some []) (hu : X.A.units + 64 < cLine) (f : F1) : ∃ r, CallR X f.val r ∧ C1S X.K r (f1D f) := by
  cases f with
  | len =>
    refine ⟨_, call_len, fun O H σ s x dx res Q k t e q => ?_⟩
    change lenD dx = _ at e
    unfold lenD at e
    split at e
    · rename_i xs
      cases e
      obtain ⟨a, vs, rfl, ha, da⟩ := t.scr
      exact ⟨_, _, rfl, .inl ⟨_, ha, da.length.symm⟩, q.val k (.int _)⟩
    · rename_i xs
      cases e
      obtain ⟨a, vs, rfl, ha, da⟩ := t.lst
      exact ⟨_, _, rfl, .inl ⟨_, SqL.of ha, da.length.symm⟩, q.val k (.int _)⟩
    · rename_i xs
      cases e
      obtain ⟨a, vs, rfl, ha, da⟩ := t.tup
      exact ⟨_, _, rfl, .inr ⟨_, ha, da.length.symm⟩, q.val k (.int _)⟩
    · split at e
      · rename_i z hz
        cases e
        obtain rfl := t.str
        exact ⟨_, _, rfl, ⟨hz, rfl⟩, q.val k (.int _)⟩
      · cases e
    · cases e
  | abs =>
    refine ⟨_, call_abs, fun O H σ s x dx res Q k t e q => ?_⟩
    change absD dx = _ at e
    unfold absD at e
    split at e
    · cases e
      exact ⟨_, by rw [t.int], q.val k (.int _)⟩
    · cases e
  | int =>
    refine ⟨_, CallR.or call_int1 call_int_str, fun O H σ s x dx res Q k t e q => ?_⟩
    change intD dx = _ at e
    unfold intD at e
    split at e
    · cases e
      exact .inl (.inl ⟨_, by rw [t.int], q.val k (.int _)⟩)
    · cases e
      exact .inl (.inr ⟨_, by rw [t.bl], q.val k (.int _)⟩)
    · split at e
      · rename_i a hz
        cases hi : PySem.intText? a with
        | none =>
          rw [hi] at e
          cases e
        | some n =>
          rw [hi] at e
          cases e
          exact .inr ⟨a, n, by rw [t.str], hi, hz, q.val k (.int _)⟩
      · cases e
    · cases e
  | str =>
    refine ⟨_, CallR.or call_str_int SkE.call_str_str, fun O H σ s x dx res Q k t e q => ?_⟩
    change strD dx = _ at e
    unfold strD at e
    split at e
    · split at e
      · rename_i hz
        cases e
        exact .inl ⟨_, by rw [t.int], hz, q.val k (.str _)⟩
      · cases e
    · cases e
      exact .inr ⟨_, by rw [t.str], q.val k (.str _)⟩
    · cases e
  | repr =>
    refine ⟨_, call_repr hg hu, fun O H σ s x dx res Q k t e q => ?_⟩
    change reprD dx = _ at e
    unfold reprD at e
    split at e
    · rename_i hz
      cases e
      exact ⟨x, dx, rfl, t.dp hz.2.1, hz.1, hz.2.1, hz.2.2.1, hz.2.2.2, q.val k (.str _)⟩
    · cases e
  | tuple =>
    refine ⟨_, call_tuple_of, fun O H σ s x dx res Q k t e q => ?_⟩
    change tupD dx = _ at e
    unfold tupD at e
    split at e
    · cases e
      obtain ⟨a, vs, rfl, ha, da⟩ := t.lst
      exact ⟨_, _, rfl, .inl ⟨SqL.of ha, fun l n => q.tup k da n⟩⟩
    · cases e
      obtain ⟨a, vs, rfl, ha, da⟩ := t.tup
      exact ⟨_, _, rfl, .inr ⟨ha, q.val k (.tup ha da)⟩⟩
    · cases e
  | list =>
    refine ⟨_, call_list_of, fun O H σ s x dx res Q k t e q => ?_⟩
    change lstD dx = _ at e
    unfold lstD at e
    split at e
    · cases e
      obtain ⟨a, vs, rfl, ha, da⟩ := t.lst
      exact ⟨_, _, rfl, .inl (SqL.of ha), fun l n => q.new k da n⟩
    · cases e
      obtain ⟨a, vs, rfl, ha, da⟩ := t.tup
      exact ⟨_, _, rfl, .inr ha, fun l n => q.new k da n⟩
    · cases e
  | sorted =>
    refine ⟨_, cr_sortedI, fun O H σ s x dx res Q k t e q => ?_⟩
    change sortD dx = _ at e
    unfold sortD at e
    split at e
    · rename_i xs
      cases hi : intsL xs with
      | none =>
        rw [hi] at e
        cases e
      | some l =>
        rw [hi] at e
        cases e
        obtain ⟨a, vs, rfl, ha, da⟩ := t.lst
        have ev := da.dInts hi
        subst ev
        refine ⟨a, l, rfl, SqL.of ha, fun ns' p hp hs n => ?_⟩
        rw [sortI_uniq hp hs]
        exact q.new k (DenAll.of_map (fun i => .int i) _) n
    · cases e
  | sum =>
    refine ⟨_, cr_sum hc, fun O H σ s x dx res Q k t e q => ?_⟩
    change sumD dx = _ at e
    unfold sumD at e
    split at e
    · rename_i xs
      cases hi : intsL xs with
      | none =>
        rw [hi] at e
        cases e
      | some l =>
        rw [hi] at e
        cases e
        obtain ⟨a, vs, rfl, ha, da⟩ := t.lst
        have ev := da.dInts hi
        subst ev
        exact ⟨a, l, rfl, SqL.of ha, q.val k (.int _)⟩
    · cases e
  | any =>
    refine ⟨_, cr_any hc, fun O H σ s x dx res Q k t e q => ?_⟩
    change anyD dx = _ at e
    unfold anyD at e
    split at e
    · rename_i xs
      cases hi : boolsL xs with
      | none =>
        rw [hi] at e
        cases e
      | some l =>
        rw [hi] at e
        cases e
        obtain ⟨a, vs, rfl, ha, da⟩ := t.lst
        have ev := da.dBools hi
        subst ev
        exact ⟨a, l, rfl, SqL.of ha, q.val k (.bl _)⟩
    · cases e
  | all =>
    refine ⟨_, cr_all hc, fun O H σ s x dx res Q k t e q => ?_⟩
    change allD dx = _ at e
    unfold allD at e
    split at e
    · rename_i xs
      cases hi : boolsL xs with
      | none =>
        rw [hi] at e
        cases e
      | some l =>
        rw [hi] at e
        cases e
        obtain ⟨a, vs, rfl, ha, da⟩ := t.lst
        have ev := da.dBools hi
        subst ev
        exact ⟨a, l, rfl, SqL.of ha, q.val k (.bl _)⟩
    · cases e
  | max =>
    refine ⟨_, cr_max hc, fun O H σ s x dx res Q k t e q => ?_⟩
    change maxD dx = _ at e
    unfold maxD at e
    split at e
    · rename_i xs
      cases hi : intsL xs with
      | none =>
        rw [hi] at e
        cases e
      | some l =>
        rw [hi] at e
        cases hm : maxI l with
        | none =>
          rw [Option.bind_some, hm] at e
          cases e
        | some m =>
          rw [Option.bind_some, hm] at e
          cases e
          obtain ⟨a, vs, rfl, ha, da⟩ := t.lst
          have ev := da.dInts hi
          subst ev
          obtain ⟨m1, m2⟩ := maxI_some hm
          refine ⟨a, l, rfl, SqL.of ha, List.length_pos_of_mem m1, fun m' h1 h2 => ?_⟩
          rw [Int.le_antisymm (m2 m' h1) (h2 m m1)]
          exact q.val k (.int _)
    · cases e
  | min =>
    refine ⟨_, cr_min hc, fun O H σ s x dx res Q k t e q => ?_⟩
    change minD dx = _ at e
    unfold minD at e
    split at e
    · rename_i xs
      cases hi : intsL xs with
      | none =>
        rw [hi] at e
        cases e
      | some l =>
        rw [hi] at e
        cases hm : minI l with
        | none =>
          rw [Option.bind_some, hm] at e
          cases e
        | some m =>
          rw [Option.bind_some, hm] at e
          cases e
          obtain ⟨a, vs, rfl, ha, da⟩ := t.lst
          have ev := da.dInts hi
          subst ev
          obtain ⟨m1, m2⟩ := minI_some hm
          refine ⟨a, l, rfl, SqL.of ha, List.length_pos_of_mem m1, fun m' h1 h2 => ?_⟩
          rw [Int.le_antisymm (h2 m m1) (m2 m' h1)]
          exact q.val k (.int _)
    · cases e
  | ord =>
    refine ⟨_, call_ord, fun O H σ s x dx res Q k t e q => ?_⟩
    change ordD dx = _ at e
    unfold ordD at e
    split at e
    · split at e
      · rename_i hz
        cases e
        exact ⟨_, by rw [t.str], hz, q.val k (.int _)⟩
      · cases e
    · cases e
theorem f2_ok {X : Cx} (hc : X.calm = true) (f : F2) : ∃ r, CallR X (.builtin f.bn) r ∧ C2S X.K r (f2D f) := by
  cases f with
  | max =>
    refine ⟨_, call_max2 hc, fun O H σ s x y dx dy res Q k t t' e q => ?_⟩
    change max2D dx dy = _ at e
    unfold max2D at e
    split at e
    · cases e
      exact ⟨_, _, by rw [t.int, t'.int], q.val k (.int _)⟩
    · cases e
  | min =>
    refine ⟨_, call_min2 hc, fun O H σ s x y dx dy res Q k t t' e q => ?_⟩
    change min2D dx dy = _ at e
    unfold min2D at e
    split at e
    · cases e
      exact ⟨_, _, by rw [t.int, t'.int], q.val k (.int _)⟩
    · cases e
  | divmod =>
    refine ⟨_, call_divmod, fun O H σ s x y dx dy res Q k t t' e q => ?_⟩
    change dmD dx dy = _ at e
    unfold dmD at e
    split at e
    · split at e
      · rename_i hz
        cases e
        exact ⟨_, _, by rw [t.int, t'.int], hz, fun p n => q.tup k (.cons (.int _) (.cons (.int _) .nil)) n⟩
      · cases e
    · cases e

/-! ### items, slices -/
def IxS (K : PySem.W.Frag) (r : R2) (f : D → D → Option D) : Prop :=
  ∀ O H σ s x y dx dy d Q, Ok K O H σ s → Top K O H x dx → Top K O H y dy → f dx dy = some d → (∀ v, Den K O H v d → Q v H) → r x y H Q
theorem ix_ok {X : Cx} : ∃ r, IxR X r ∧ IxS X.K r ixD := by
  refine ⟨_, ix_seq, fun O H σ s x y dx dy d Q k tx ty e q => ?_⟩
  unfold ixD at e
  split at e
  · obtain ⟨a, vs, rfl, ha, da⟩ := tx.scr
    obtain ⟨v, e1, hv⟩ := da.atI e
    exact .inl ⟨_, _, _, v, rfl, ty.int, ha, e1, q v hv⟩
  · obtain ⟨a, vs, rfl, ha, da⟩ := tx.lst
    obtain ⟨v, e1, hv⟩ := da.atI e
    exact .inl ⟨_, _, _, v, rfl, ty.int, SqL.of ha, e1, q v hv⟩
  · obtain ⟨a, vs, rfl, ha, da⟩ := tx.tup
    obtain ⟨v, e1, hv⟩ := da.atI e
    exact .inr (.inl ⟨_, _, _, v, rfl, ty.int, ha, e1, q v hv⟩)
  · split at e
    · rename_i z i hz
      cases hc : atI z.cps.toList i with
      | none =>
        rw [hc] at e
        cases e
      | some c =>
        rw [hc] at e
        cases e
        exact .inr (.inr ⟨z, i, c, tx.str, ty.int, hz, hc, q _ (.str _)⟩)
    · cases e
  · cases e
def SlS (K : PySem.W.Frag) (r : V → Option Int → Option Int → Hp → VK → Prop) (f : D → Option Int → Option Int → Option R) : Prop :=
  ∀ O H σ s x dx lo hi res Q, Ok K O H σ s → Top K O H x dx → f dx lo hi = some res → Post K O H σ s s res Q → r x lo hi H Q
theorem cut_all {α : Type} (xs : List α) (lo hi : Option Int) (h : HT.sIx xs.length 0 lo = 0 ∧ HT.sIx xs.length xs.length hi = xs.length) : cutD xs lo hi = xs := by
  unfold cutD
  rw [h.1, h.2, List.drop_zero, Nat.sub_zero, List.take_length]
theorem sl_ok {X : Cx} : ∃ r, SlR X r ∧ SlS X.K r slD := by
  refine ⟨_, sl_list.or sl_tupA, fun O H σ s x dx lo hi res Q k tx e q => ?_⟩
  unfold slD at e
  split at e
  · cases e
    obtain ⟨a, vs, rfl, ha, da⟩ := tx.scr
    exact .inl ⟨a, vs, rfl, ha, fun p n => q.new k (da.cut lo hi) n⟩
  · cases e
    obtain ⟨a, vs, rfl, ha, da⟩ := tx.lst
    exact .inl ⟨a, vs, rfl, SqL.of ha, fun p n => q.new k (da.cut lo hi) n⟩
  · rename_i xs
    cases e
    obtain ⟨a, vs, rfl, ha, da⟩ := tx.tup
    refine .inr ⟨a, vs, rfl, ha, fun h => ?_, fun _ p n => q.tup k (da.cut lo hi) n⟩
    rw [da.length] at h
    rw [cut_all xs lo hi h] at q
    exact q.val k (.tup ha da)
  · cases e

/-! ### isinstance -/
def Ty.nm : Ty → Str
  | .int => "int"
  | .bool => "bool"
  | .tuple => "tuple"
  | .list => "list"
  | .str => "str"
  | .dict => "dict"
def Ty.s : Ty → String
  | .int => "int"
  | .bool => "bool"
  | .tuple => "tuple"
  | .list => "list"
  | .str => "str"
  | .dict => "dict"
theorem Ty.boot (t : Ty) : bootBuiltins t.nm = some (.type t.s) := by
  cases t <;> decide +kernel
def tyS : D → String
  | .none => "NoneType"
  | .bool _ => "bool"
  | .int _ => "int"
  | .str _ => "str"
  | .list _ => "list"
  | .tuple _ => "tuple"
  | .dict _ => "dict"
theorem tyx {K : PySem.W.Frag} {O : Addr → Prop} {H : Hp} {x : V} {d : D} (h : Top K O H x d) (n : ∀ l, d ≠ .dict l) : TyX K H x (.type (tyS d)) := by
  cases d with
  | none => rw [h.non]; exact .base .non
  | bool b => rw [h.bl]; exact .base (.bl b)
  | int b => rw [h.int]; exact .base (.int b)
  | str b => rw [h.str]; exact .base (.str b)
  | list ds =>
    obtain ⟨a, vs, rfl, ha, _⟩ := h.lst
    exact .base (.lst ha)
  | tuple ds =>
    obtain ⟨a, vs, rfl, ha, _⟩ := h.tup
    rcases ha with (ha | ⟨o, ha⟩) | ⟨o, its, m, h1, h2, _⟩
    · exact .base (.tup ha)
    · exact .fTuple ha
    · exact .kTuple h1 h2
  | dict l => exact absurd rfl (n l)
theorem kit_tab (t : Ty) (d : D) (b : Bool) (e : isTD t d = some b) : (∀ l, d ≠ .dict l) ∧ kitB (tyS d) t.s = some b := by
  have key : ∀ (u : String) (b : Bool), (kitB u t.s = some b) → kitB u t.s = some b := fun _ _ h => h
  cases d with
  | dict l => cases t <;> cases e
  | none => cases t <;> (cases e; exact ⟨nofun, by decide +kernel⟩)
  | bool _ => cases t <;> (cases e; exact ⟨nofun, by show kitB "bool" _ = _; decide +kernel⟩)
  | int _ => cases t <;> (cases e; exact ⟨nofun, by show kitB "int" _ = _; decide +kernel⟩)
  | str _ => cases t <;> (cases e; exact ⟨nofun, by show kitB "str" _ = _; decide +kernel⟩)
  | list _ => cases t <;> (cases e; exact ⟨nofun, by show kitB "list" _ = _; decide +kernel⟩)
  | tuple _ => cases t <;> (cases e; exact ⟨nofun, by show kitB "tuple" _ = _; decide +kernel⟩)
end Mi

set_option Elab.async false
set_option linter.all false
set_option maxRecDepth 100000
/-! Mi: what a def promises; calls. -/
namespace Mi
open PySem L2 PyProof.Rows

section
variable (K : PySem.W.Frag) (O : Addr → Prop) (H : Hp)
inductive AAll : List V → List Arg → Prop
  | nil : AAll [] []
  | val {v : V} {d : D} {vs : List V} {as : List Arg} : Den K O H v d → AAll vs as → AAll (v :: vs) (.val d :: as)
  | own {a : Addr} {ws : List V} {xs : List D} {vs : List V} {as : List Arg} : O a → H a = some (.lst ws) → DenAll K O H ws xs → AAll vs as → AAll (.ref a :: vs) (.own xs :: as)
def adsOf : List V → List Arg → List Addr
  | .ref a :: vs, .own _ :: as => a :: adsOf vs as
  | _ :: vs, _ :: as => adsOf vs as
  | _, _ => []
def OAll : List V → List Arg → List (List D) → Prop
  | [], [], [] => True
  | _ :: vs, .val _ :: as, os => OAll vs as os
  | .ref a :: vs, .own _ :: as, o :: os => (O a ∧ ∃ ws, H a = some (.lst ws) ∧ DenAll K O H ws o) ∧ OAll vs as os
  | _, _, _ => False
inductive PsAt (H0 : Hp) (σ : L2.St) (s : Sl) : List V → List PArg → Prop
  | nil : PsAt H0 σ s [] []
  | val {v : V} {d : D} {vs : List V} {ps : List PArg} : Den K O H v d → PsAt H0 σ s vs ps → PsAt H0 σ s (v :: vs) (.val d :: ps)
  | new {a : Addr} {ws : List V} {xs : List D} {vs : List V} {ps : List PArg} : H0 a = none → O a → ¬ ownAd σ s a → H a = some (.lst ws) → DenAll K O H ws xs → PsAt H0 σ s vs ps → PsAt H0 σ s (.ref a :: vs) (.new xs :: ps)
  | lent {v : V} {i : Nat} {p : Bool} {xs : List D} {vs : List V} {ps : List PArg} : σ[i]? = some (some v) → s[i]? = some (.own p xs) → PsAt H0 σ s vs ps → PsAt H0 σ s (v :: vs) (.lent i :: ps)
end
/-- a result as it comes out of a def -/
def RetAt (K : PySem.W.Frag) (O' : Addr → Prop) (H H' : Hp) (v : V) : R → Prop
  | .val d => Den K O' H' v d
  | .new xs => ∃ a ws, v = .ref a ∧ H a = none ∧ O' a ∧ H' a = some (.lst ws) ∧ DenAll K O' H' ws xs
  | .bor _ => False
def spOf (K : PySem.W.Frag) (m : FnSem) (vs : List V) (H : Hp) (Q : VK) : Prop :=
  ∃ O as r os, (∀ a, O a → H a ≠ none) ∧ AAll K O H vs as ∧ (adsOf vs as).length ≤ 1 ∧ m as = some (r, os) ∧
    ∀ O' v H', (∀ a, O a → O' a) → (∀ a, O' a → O a ∨ H a = none) → (∀ a o, H a = some o → a ∉ adsOf vs as → H' a = some o) → (∀ a, H a ≠ none → H' a ≠ none) → (∀ a, O' a → H' a ≠ none) →
      OAll K O' H' vs as os → RetAt K O' H H' v r → Q v H'
section
variable {K : PySem.W.Frag} {O O1 : Addr → Prop} {H H1 H0 : Hp} {σ : L2.St} {s s1 : Sl} {vs : List V} {ps : List PArg}
theorem Go.psat (l : Go K O H σ s O1 H1 s1) (k : Ok K O H σ s) (h : PsAt K O H H0 σ s vs ps) : PsAt K O1 H1 H0 σ s1 vs ps := by
  induction h with
  | nil => exact .nil
  | val h t ih => exact .val (l.den k h) ih
  | new h0 h1 h2 h3 h4 t ih => exact .new h0 (l.up _ h1) (fun z => h2 ((l.sh.ow σ _).mp z)) (l.fr _ _ h3 h2) (l.denAll k h4) ih
  | lent h1 h2 t ih =>
    obtain ⟨ys, e⟩ := (l.sh.2 _).2.2 _ _ h2
    exact .lent h1 e ih
theorem PsAt.args (k : Ok K O H σ s) (h : PsAt K O H H0 σ s vs ps) : ∀ {as : List Arg}, argsOf s ps = some as → AAll K O H vs as ∧ (adsOf vs as).length = ownsOf ps := by
  induction h with
  | nil =>
    intro as e
    cases e
    exact ⟨.nil, rfl⟩
  | @val v d vs ps h t ih =>
    intro as e
    unfold argsOf PArg.arg at e
    cases q : argsOf s ps with
    | none =>
      rw [q] at e
      cases e
    | some bs =>
      rw [q] at e
      cases e
      obtain ⟨h1, h2⟩ := ih q
      refine ⟨.val h h1, ?_⟩
      have e2 : adsOf (v :: vs) (Arg.val d :: bs) = adsOf vs bs := by cases v <;> rfl
      rw [e2, h2]
      rfl
  | @new a ws xs vs ps h0 h1 h2 h3 h4 t ih =>
    intro as e
    unfold argsOf PArg.arg at e
    cases q : argsOf s ps with
    | none =>
      rw [q] at e
      cases e
    | some bs =>
      rw [q] at e
      cases e
      obtain ⟨g1, g2⟩ := ih q
      exact ⟨.own h1 h3 h4 g1, by
        show (a :: adsOf vs bs).length = ownsOf ps + 1
        rw [List.length_cons, g2]⟩
  | @lent v i p xs vs ps h1 h2 t ih =>
    intro as e
    unfold argsOf PArg.arg at e
    simp only [h2] at e
    cases q : argsOf s ps with
    | none =>
      rw [q] at e
      cases e
    | some bs =>
      rw [q] at e
      cases e
      obtain ⟨g1, g2⟩ := ih q
      obtain ⟨a, ws, e1, o, l, d⟩ := k.own i p xs h2
      rw [h1] at e1
      cases e1
      exact ⟨.own o l d g1, by
        show (a :: adsOf vs bs).length = ownsOf ps + 1
        rw [List.length_cons, g2]⟩
/-- the lists that are lent are the caller's to lend -/
theorem PsAt.lends (k : Ok K O H σ s) (h : PsAt K O H H0 σ s vs ps) : ∀ {as : List Arg} {os : List (List D)} {s' : Sl} {O' : Addr → Prop} {H' : Hp}, ownsOf ps ≤ 1 → argsOf s ps = some as → putOuts ps os s = some s' → OAll K O' H' vs as os →
    (adsOf vs as = [] ∧ s' = s) ∨ (∃ (i : Nat) (p : Bool) (xs : List D) (a : Addr) (o : List D) (ws : List V), s[i]? = some (.own p xs) ∧ σ[i]? = some (some (.ref a)) ∧ adsOf vs as = [a] ∧ s' = s.set i (.own p o) ∧ O' a ∧ H' a = some (.lst ws) ∧ DenAll K O' H' ws o) ∨
      ∃ a ws, adsOf vs as = [a] ∧ s' = s ∧ H0 a = none ∧ ¬ ownAd σ s a ∧ H a = some (.lst ws) := by
  induction h with
  | nil =>
    intro as os s' O' H' ho e1 e2 h
    cases e1
    cases os with
    | nil =>
      cases e2
      exact .inl ⟨rfl, rfl⟩
    | cons _ _ => cases e2
  | @val v d vs ps h t ih =>
    intro as os s' O' H' ho e1 e2 h
    unfold argsOf PArg.arg at e1
    cases q : argsOf s ps with
    | none =>
      rw [q] at e1
      cases e1
    | some bs =>
      rw [q] at e1
      cases e1
      have e3 : adsOf (v :: vs) (Arg.val d :: bs) = adsOf vs bs := by cases v <;> rfl
      rw [e3]
      refine ih ho q e2 ?_
      unfold OAll at h
      exact h
  | @new a ws xs vs ps h0 h1 h2 h3 h4 t ih =>
    intro as os s' O' H' ho e1 e2 h
    unfold argsOf PArg.arg at e1
    cases q : argsOf s ps with
    | none =>
      rw [q] at e1
      cases e1
    | some bs =>
      rw [q] at e1
      cases e1
      cases os with
      | nil => cases e2
      | cons o os =>
        have z : ownsOf ps = 0 := by
          have : ownsOf (.new xs :: ps) = ownsOf ps + 1 := rfl
          omega
        unfold OAll at h
        have e4 : adsOf (V.ref a :: vs) (Arg.own xs :: bs) = a :: adsOf vs bs := rfl
        obtain ⟨_, l⟩ := t.args k q
        rw [z] at l
        rw [e4, List.eq_nil_of_length_eq_zero l]
        have e5 : putOuts ps os s = some s' := e2
        rcases ih (by omega) q e5 h.2 with ⟨_, g⟩ | ⟨i, p, ys, b, o', ws', g1, g2, g3, _⟩ | ⟨b, ws', g1, _⟩
        · exact .inr (.inr ⟨a, ws, rfl, g, h0, h2, h3⟩)
        · rw [g3] at l
          cases l
        · rw [g1] at l
          cases l
  | @lent v i p xs vs ps h1 h2 t ih =>
    intro as os s' O' H' ho e1 e2 h
    unfold argsOf PArg.arg at e1
    simp only [h2] at e1
    cases q : argsOf s ps with
    | none =>
      rw [q] at e1
      cases e1
    | some bs =>
      rw [q] at e1
      cases e1
      obtain ⟨a, ws, e3, ho1, l1, d1⟩ := k.own i p xs h2
      rw [h1] at e3
      cases e3
      cases os with
      | nil => cases e2
      | cons o os =>
        have z : ownsOf ps = 0 := by
          have : ownsOf (.lent i :: ps) = ownsOf ps + 1 := rfl
          omega
        unfold OAll at h
        have e4 : adsOf (V.ref a :: vs) (Arg.own xs :: bs) = a :: adsOf vs bs := rfl
        obtain ⟨_, l⟩ := t.args k q
        rw [z] at l
        rw [e4, List.eq_nil_of_length_eq_zero l]
        unfold putOuts at e2
        simp only [h2] at e2
        -- the rest lends nothing
        have rest : ∀ (qs : List PArg) (us : List (List D)) (t1 t2 : Sl), ownsOf qs = 0 → putOuts qs us t1 = some t2 → t2 = t1 := by
          intro qs
          induction qs with
          | nil =>
            intro us t1 t2 _ e
            cases us with
            | nil =>
              cases e
              rfl
            | cons _ _ => cases e
          | cons c qs ihq =>
            intro us t1 t2 hz e
            cases c with
            | val d => exact ihq us t1 t2 hz e
            | new _ => exact absurd hz (by show ownsOf qs + 1 ≠ 0; omega)
            | lent _ => exact absurd hz (by show ownsOf qs + 1 ≠ 0; omega)
        have e6 := rest ps os _ s' z e2
        obtain ⟨g1, ws', g2, g3⟩ := h.1
        exact .inr (.inl ⟨i, p, xs, a, o, ws', h2, h1, rfl, e6, g1, g2, g3⟩)
end

/-! ### a def -/
structure FnG (P : Program) (w : World) (K : PySem.W.Frag) (mg : Str → Option Value) (base : Heap) (k : Nat) (f : Addr) (fd : FuncData) (ps : List Str) (m : FnSem) : Prop where
  run : ∀ (A : Around) (outer : List PySem.Env) (s : Shared) (H : Hp) (args : Args) (us : List Value) (vs : List V) (Q : VK), Room k A → A.guards = some [] → Env0 P w K mg base A outer s H → BindsTo s fd args (ps.zip us) → Vals vs us →
    vs.length = ps.length → spOf K m vs H Q → codeAny (model P w) A (.call (.ref f) args) (CR CX0 outer P w H s Q E0) s
theorem FnG.mono {P : Program} {w : World} {K : PySem.W.Frag} {mg : Str → Option Value} {base : Heap} {j k : Nat} {f : Addr} {fd : FuncData} {ps : List Str} {m : FnSem} (F : FnG P w K mg base j f fd ps m) (h : j ≤ k) : FnG P w K mg base k f fd ps m :=
  ⟨fun A outer s H args us vs Q hr => F.run A outer s H args us vs Q (hr.mono h)⟩
/-- what follows of the arguments of a call -/
def tAs (K : PySem.W.Frag) (c : Sl → Option (List PArg × Sl)) : TA := fun σ H Q =>
  ∃ O s ps s', Ok K O H σ s ∧ c s = some (ps, s') ∧ ∀ O' vs H', Go K O H σ s O' H' s' → PsAt K O' H' H σ s' vs ps → Q vs H'
def tE (K : PySem.W.Frag) (c : Sl → Option (R × Sl)) : TE := fun σ H Q => ∃ O s r s', Ok K O H σ s ∧ c s = some (r, s') ∧ Post K O H σ s s' r Q
def tEs (K : PySem.W.Frag) (c : Sl → Option (List D × Sl)) : TA := fun σ H Q =>
  ∃ O s ds s', Ok K O H σ s ∧ c s = some (ds, s') ∧ ∀ O' vs H', Go K O H σ s O' H' s' → DenAll K O' H' vs ds → Q vs H'
theorem AAll.len {K : PySem.W.Frag} {O : Addr → Prop} {H : Hp} {vs : List V} {as : List Arg} (h : AAll K O H vs as) : vs.length = as.length := by
  induction h with
  | nil => rfl
  | val _ _ ih => exact congrArg Nat.succ ih
  | own _ _ _ _ ih => exact congrArg Nat.succ ih
theorem AAll.more {K : PySem.W.Frag} {O : Addr → Prop} {H : Hp} {vs zs : List V} {as : List Arg} {ds : List D} (h : AAll K O H vs as) (hz : DenAll K O H zs ds) : AAll K O H (vs ++ zs) (as ++ ds.map .val) := by
  induction h with
  | nil =>
    show AAll K O H zs (ds.map Arg.val)
    have : ∀ {zs : List V} {ds : List D}, DenAll K O H zs ds → AAll K O H zs (ds.map Arg.val) := by
      intro zs
      induction zs with
      | nil =>
        intro ds h
        cases h
        exact .nil
      | cons z zs ih =>
        intro ds h
        cases h with
        | cons a b => exact .val a (ih b)
    exact this hz
  | val a _ ih => exact .val a ih
  | own a b c _ ih => exact .own a b c ih
theorem ads_more : ∀ (vs zs : List V) (as : List Arg) (ds : List D), vs.length = as.length → adsOf (vs ++ zs) (as ++ ds.map .val) = adsOf vs as
  | [], zs, [], ds, _ => by
    have : ∀ (zs : List V) (ds : List D), adsOf zs (ds.map Arg.val) = [] := by
      intro zs
      induction zs with
      | nil =>
        intro ds
        cases ds <;> rfl
      | cons z zs ih =>
        intro ds
        cases ds with
        | nil => cases z <;> rfl
        | cons d ds =>
          have e : adsOf (z :: zs) (Arg.val d :: ds.map Arg.val) = adsOf zs (ds.map Arg.val) := by cases z <;> rfl
          exact e.trans (ih ds)
    exact this zs ds
  | v :: vs, zs, a :: as, ds, h => by
    have ih := ads_more vs zs as ds (by simpa using h)
    cases a with
    | val d =>
      have e1 : adsOf ((v :: vs) ++ zs) (Arg.val d :: as ++ ds.map Arg.val) = adsOf (vs ++ zs) (as ++ ds.map Arg.val) := by cases v <;> rfl
      have e2 : adsOf (v :: vs) (Arg.val d :: as) = adsOf vs as := by cases v <;> rfl
      rw [e1, e2, ih]
    | own xs =>
      cases v with
      | ref p =>
        show p :: adsOf (vs ++ zs) (as ++ ds.map Arg.val) = p :: adsOf vs as
        rw [ih]
      | _ => exact ih
  | [], _, _ :: _, _, h => by cases h
  | _ :: _, _, [], _, h => by cases h
theorem OAll.less {K : PySem.W.Frag} {O : Addr → Prop} {H : Hp} : ∀ (vs zs : List V) (as : List Arg) (ds : List D) (os : List (List D)), vs.length = as.length → OAll K O H (vs ++ zs) (as ++ ds.map .val) os → OAll K O H vs as os
  | [], zs, [], ds, os, _, h => by
    have : ∀ (zs : List V) (ds : List D), OAll K O H zs (ds.map Arg.val) os → os = [] := by
      intro zs
      induction zs with
      | nil =>
        intro ds h
        cases ds with
        | nil =>
          cases os with
          | nil => rfl
          | cons _ _ => exact h.elim
        | cons _ _ => exact h.elim
      | cons z zs ih =>
        intro ds h
        cases ds with
        | nil => exact (show False by cases z <;> cases os <;> exact h).elim
        | cons d ds =>
          refine ih ds ?_
          unfold OAll at h
          exact h
    rw [this zs ds h]
    trivial
  | v :: vs, zs, .val d :: as, ds, os, hl, h => by
    unfold OAll
    refine OAll.less vs zs as ds os (by simpa using hl) ?_
    have h : OAll K O H (v :: (vs ++ zs)) (Arg.val d :: (as ++ ds.map Arg.val)) os := h
    unfold OAll at h
    exact h
  | .ref p :: vs, zs, .own xs :: as, ds, o :: os, hl, h => by
    have h : OAll K O H (V.ref p :: (vs ++ zs)) (Arg.own xs :: (as ++ ds.map Arg.val)) (o :: os) := h
    unfold OAll at h ⊢
    exact ⟨h.1, OAll.less vs zs as ds os (by simpa using hl) h.2⟩
  | .ref p :: vs, zs, .own xs :: as, ds, [], hl, h => h.elim
  | .non :: vs, zs, .own xs :: as, ds, os, hl, h => (show False by cases os <;> exact h).elim
  | .bl _ :: vs, zs, .own xs :: as, ds, os, hl, h => (show False by cases os <;> exact h).elim
  | .int _ :: vs, zs, .own xs :: as, ds, os, hl, h => (show False by cases os <;> exact h).elim
  | .str _ :: vs, zs, .own xs :: as, ds, os, hl, h => (show False by cases os <;> exact h).elim
  | .byt _ :: vs, zs, .own xs :: as, ds, os, hl, h => (show False by cases os <;> exact h).elim
  | .flt _ :: vs, zs, .own xs :: as, ds, os, hl, h => (show False by cases os <;> exact h).elim
  | .ty _ :: vs, zs, .own xs :: as, ds, os, hl, h => (show False by cases os <;> exact h).elim
  | [], _, _ :: _, _, _, h, _ => by cases h
  | _ :: _, _, [], _, _, h, _ => by cases h
/-- behind the call -/
theorem call_sp {K : PySem.W.Frag} {O0 O : Addr → Prop} {H0 H : Hp} {σ : L2.St} {s0 s s' : Sl} {vs zs : List V} {ds : List D} {ps : List PArg} {m : FnSem} {r : R} {Q : VK} (k0 : Ok K O0 H0 σ s0) (g : Go K O0 H0 σ s0 O H s) (h : PsAt K O H H0 σ s vs ps) (hz : DenAll K O H zs ds) (e : callD (fun as => m (as ++ ds.map .val)) ps s = some (r, s'))
    (q : Post K O0 H0 σ s0 s' r Q) : spOf K m (vs ++ zs) H Q := by
  have k := g.ok
  unfold callD at e
  split at e
  · rename_i ho
    cases ea : argsOf s ps with
    | none =>
      rw [ea] at e
      cases e
    | some as =>
      rw [ea, Option.bind_some] at e
      change ((m (as ++ ds.map .val)).bind _) = _ at e
      cases em : m (as ++ ds.map .val) with
      | none =>
        rw [em] at e
        cases e
      | some ro =>
        obtain ⟨r0, os⟩ := ro
        rw [em, Option.bind_some] at e
        have e' : (putOuts ps os s).map (fun s' => (r0, s')) = some (r, s') ∧ ∀ i, r0 ≠ .bor i := by
          cases r0 with
          | val d => exact ⟨e, nofun⟩
          | new xs => exact ⟨e, nofun⟩
          | bor i => cases e
        obtain ⟨e', nb⟩ := e'
        cases ep : putOuts ps os s with
        | none =>
          rw [ep] at e'
          cases e'
        | some s2 =>
          rw [ep] at e'
          cases e'
          obtain ⟨h1, h2⟩ := h.args k ea
          have ea1 : adsOf (vs ++ zs) (as ++ ds.map .val) = adsOf vs as := ads_more vs zs as ds h1.len
          refine ⟨O, as ++ ds.map .val, r, os, k.dom, h1.more hz, by rw [ea1, h2]; exact ho, em, fun O' v H' up nw fr th dom oa ra => ?_⟩
          rw [ea1] at fr
          replace oa := OAll.less vs zs as ds os h1.len oa
          have hd : ∀ (a : Addr), a ∈ adsOf vs as → O a ∧ ∃ xs, H a = some (.lst xs) := by
            have : ∀ {vs : List V} {as : List Arg}, AAll K O H vs as → ∀ a, a ∈ adsOf vs as → O a ∧ ∃ xs, H a = some (.lst xs) := by
              intro vs as h
              induction h with
              | nil =>
                intro a z
                cases z
              | @val v d vs as h t ih =>
                intro a z
                have e3 : adsOf (v :: vs) (Arg.val d :: as) = adsOf vs as := by cases v <;> rfl
                rw [e3] at z
                exact ih a z
              | own h1 h2 h3 t ih =>
                intro a z
                rcases List.mem_cons.mp z with e | z
                · subst e
                  exact ⟨h1, _, h2⟩
                · exact ih a z
            exact this h1
          have dm : ∀ v d, Den K O H v d → Den K O' H' v d := fun v d h => Den.mono (Wr := fun a => a ∈ adsOf vs as) fr hd nw d v h
          have dl : ∀ vs' ds, DenAll K O H vs' ds → DenAll K O' H' vs' ds := fun vs' ds h => DenAll.mono (Wr := fun a => a ∈ adsOf vs as) fr hd nw ds vs' h
          -- the state behind
          have key : Ok K O' H' σ s' ∧ Shp s s' ∧ ∀ a o, H0 a = some o → ¬ ownAd σ s0 a → a ∉ adsOf vs as := by
            rcases h.lends k ho ea ep oa with ⟨e1, rfl⟩ | ⟨i, p, xs, a, o, ws, g1, g2, g3, rfl, g4, g5, g6⟩ | ⟨a, ws, g1, rfl, g2, g3, g4⟩
            · refine ⟨⟨k.len, fun j d hj => ?_, fun j q ys hj => ?_, k.ne, dom⟩, Shp.refl _, fun b o hb hn => by rw [e1]; simp⟩
              · obtain ⟨v, e, hv⟩ := k.val j d hj
                exact ⟨v, e, dm v d hv⟩
              · obtain ⟨b, us, e, o, l, t⟩ := k.own j q ys hj
                exact ⟨b, us, e, up b o, fr b _ l (by rw [e1]; simp), dl us ys t⟩
            · have hi : i < s.length := (List.getElem?_eq_some_iff.mp g1).1
              refine ⟨⟨by rw [List.length_set]; exact k.len, fun j d hj => ?_, fun j q ys hj => ?_, fun j j' q q' ys zs b hne hj hj' => ?_, dom⟩, ⟨by rw [List.length_set], fun j => ⟨fun hj => ?_, fun d hj => ?_, fun q ys hj => ?_⟩⟩, fun b o hb hn z => ?_⟩
              · by_cases ej : i = j
                · subst ej
                  rw [List.getElem?_set_self hi] at hj
                  cases hj
                · rw [List.getElem?_set_ne ej] at hj
                  obtain ⟨v, e, hv⟩ := k.val j d hj
                  exact ⟨v, e, dm v d hv⟩
              · by_cases ej : i = j
                · subst ej
                  rw [List.getElem?_set_self hi] at hj
                  cases hj
                  exact ⟨a, ws, g2, g4, g5, g6⟩
                · rw [List.getElem?_set_ne ej] at hj
                  obtain ⟨b, us, e, o, l, t⟩ := k.own j q ys hj
                  refine ⟨b, us, e, up b o, fr b _ l (fun z => ?_), dl us ys t⟩
                  rw [g3] at z
                  have e7 : b = a := by simpa using z
                  subst e7
                  exact k.ne i j p q xs ys b ej g1 hj g2 e
              · have back : ∀ (j : Nat) (q : Bool) (ys : List D), (s.set i (.own p o))[j]? = some (.own q ys) → ∃ q' zs, s[j]? = some (.own q' zs) := fun j q ys hj => by
                  by_cases ej : i = j
                  · subst ej
                    exact ⟨p, xs, g1⟩
                  · rw [List.getElem?_set_ne ej] at hj
                    exact ⟨q, ys, hj⟩
                obtain ⟨_, _, b1⟩ := back j q ys hj
                obtain ⟨_, _, b2⟩ := back j' q' zs hj'
                exact k.ne j j' _ _ _ _ b hne b1 b2
              · by_cases ej : i = j
                · subst ej
                  rw [g1] at hj
                  cases hj
                · rw [List.getElem?_set_ne ej]
                  exact hj
              · by_cases ej : i = j
                · subst ej
                  rw [g1] at hj
                  cases hj
                · rw [List.getElem?_set_ne ej]
                  exact hj
              · by_cases ej : i = j
                · subst ej
                  rw [g1] at hj
                  cases hj
                  exact ⟨o, List.getElem?_set_self hi⟩
                · rw [List.getElem?_set_ne ej]
                  exact ⟨ys, hj⟩
              · rw [g3] at z
                have e7 : b = a := by simpa using z
                subst e7
                exact hn ((g.sh.ow σ b).mp ⟨i, p, xs, g1, g2⟩)
            · refine ⟨⟨k.len, fun j d hj => ?_, fun j q ys hj => ?_, k.ne, dom⟩, Shp.refl _, fun b o hb hn z => ?_⟩
              · obtain ⟨v, e, hv⟩ := k.val j d hj
                exact ⟨v, e, dm v d hv⟩
              · obtain ⟨b, us, e, o, l, t⟩ := k.own j q ys hj
                refine ⟨b, us, e, up b o, fr b _ l (fun z => ?_), dl us ys t⟩
                rw [g1] at z
                have e7 : b = a := by simpa using z
                subst e7
                exact g3 ⟨j, q, ys, hj, e⟩
              · rw [g1] at z
                have e7 : b = a := by simpa using z
                subst e7
                rw [g2] at hb
                cases hb
          obtain ⟨k1, k2, k3⟩ := key
          have go : Go K O0 H0 σ s0 O' H' s' := by
            refine ⟨k1, fun a z => up a (g.up a z), fun a z => ?_, fun a o z n => fr a o (g.fr a o z n) (k3 a o z n), fun a z => th a (g.th a z), g.sh.trans k2⟩
            rcases nw a z with z | z
            · exact g.nw a z
            · refine .inr ?_
              cases q0 : H0 a with
              | none => rfl
              | some o => exact absurd z (g.th a (by rw [q0]; simp))
          have old : ∀ a, H a = none → H0 a = none := fun a z => by
            cases q0 : H0 a with
            | none => rfl
            | some o => exact absurd z (g.th a (by rw [q0]; simp))
          refine q O' v H' go ?_ fun xs a er ev => ?_
          · cases r with
            | val d => exact ra
            | new xs =>
              obtain ⟨a, ws, e1, e2, e3, e4, e5⟩ := ra
              refine ⟨a, ws, e1, e3, fun z => ?_, e4, e5⟩
              have z' := (go.sh.ow σ a).mp z
              obtain ⟨_, us, z2⟩ := k0.ow z'
              rw [old a e2] at z2
              cases z2
            | bor i => exact absurd rfl (nb i)
          · subst er
            obtain ⟨b, ws, e1, e2, e3, e4, e5⟩ := ra
            rw [ev] at e1
            cases e1
            exact old a e2
  · cases e
end Mi

set_option Elab.async false
set_option linter.all false
set_option maxRecDepth 100000
/-! Mi: the text against the interpreter's tree. -/
namespace Mi
open PySem L2 PyProof.Rows

/-- what is fixed in a def: its names, the defs (name, arity), the module's constants, the calls by keywords -/
structure Stc where
  N : List Str
  fs : List (Str × Nat)
  gs : List Str
  kp : List (Nat × Nat × List Str × List Nat)
def bnames : List Str := ["len", "abs", "int", "str", "repr", "tuple", "list", "sorted", "sum", "any", "all", "max", "min", "ord", "divmod", "range", "zip", "enumerate", "isinstance", "bool", "dict", "set"]
structure Cok (X : Cx) (T : Stc) (Φ : Phi) : Prop where
  nEq : X.N = T.N
  calm : X.calm = true
  nd : X.N.Nodup
  gu : X.A.guards = some []
  un : X.A.units + 100 < cLine
  bt : ∀ x ∈ bnames, X.mg x = none
  fn : ∀ k x n, T.fs[k]? = some (x, n) → ∃ lv f fd ps, FnG X.prog X.w X.K X.mg X.base lv f fd ps (Φ.fn k) ∧ Room lv X.A ∧ X.mg x = some (.ref f) ∧ PySem.W.keepIn X.K (.ref f) = true ∧ Binds X.K fd ps [] ∧ ps.length = n ∧
    ∀ m ks kw, (k, m, ks, kw) ∈ T.kp → (m + kw.length = n ∧ ∀ (s : Shared) (us ws : List Value), us.length = m → ws.length = ks.length → BindsTo s fd ⟨us, ks.zip ws⟩ (ps.zip (us ++ kw.map fun i => ws.getD i .none)))
  gc : ∀ j x, T.gs[j]? = some x → ∃ u v, X.mg x = some u ∧ L2.RelV v u ∧ ∀ O H, Den X.K O H v (Φ.gc j)
theorem Cok.blk {X : Cx} {T : Stc} {Φ : Phi} (c : Cok X T Φ) (s : Shared) (H : Hp) (scope : Scope) (ce : PySem.Env) (fp : List Addr) : Cok (X.blk s H scope ce fp) T Φ :=
  ⟨c.nEq, c.calm, c.nd, c.gu, c.un, c.bt, c.fn, c.gc⟩

/-! ### names -/
def plainN (x : Str) : Bool := decide (x ≠ "__debug__") && decide (x ≠ "__classdict__") && decide (x ≠ "__name__")
def visB (sc : Scope) (x : Str) : Bool := match sc.names.lookup x with
  | some .local => true
  | some .cell => true
  | some .free => true
  | _ => false
def glB (sc : Scope) (x : Str) : Bool := decide (sc.names.lookup x = some .globalImplicit)
def litB : Lit → Const → Bool
  | .int i, .int j => decide (i = j)
  | .bool i, .bool j => decide (i = j)
  | .none, .none => true
  | .str i, .str j => decide (i = j)
  | _, _ => false
theorem visB_ok {sc : Scope} {x : Str} (h : visB sc x = true) : sc.names.lookup x = some .local ∨ sc.names.lookup x = some .cell ∨ sc.names.lookup x = some .free := by
  unfold visB at h
  split at h
  · exact .inl (by assumption)
  · exact .inr (.inl (by assumption))
  · exact .inr (.inr (by assumption))
  · cases h
theorem plainN_ok {x : Str} (h : plainN x = true) : (x == ("__debug__" : Str)) = false ∧ (x == ("__classdict__" : Str)) = false ∧ x ≠ "__name__" := by
  unfold plainN at h
  simp only [Bool.and_eq_true, decide_eq_true_eq] at h
  exact ⟨beq_eq_false_iff_ne.mpr h.1.1, beq_eq_false_iff_ne.mpr h.1.2, h.2⟩

/-! ### targets -/
def Tgs.len : Tgs → Nat
  | .nil => 0
  | .cons _ b => b.len + 1
section
variable (T : Stc)
mutual
def chkT : Tg → Expr → Scope → (Str → Bool) → Bool
  | .name i, .Name x _, sc, fx => decide (T.N[i]? = some x) && (decide (sc.names.lookup x = some .local) || (decide (sc.names.lookup x = some .cell) && fx x))
  | .tup l, .Tuple es _ _, sc, fx => chkTs l es sc fx
  | _, _, _, _ => false
def chkTs : Tgs → List Expr → Scope → (Str → Bool) → Bool
  | .nil, [], _, _ => true
  | .cons a b, e :: es, sc, fx => chkT a e sc fx && chkTs b es sc fx
  | _, _, _, _ => false
end
end
def notStar : Expr → Bool
  | .Starred _ _ => false
  | _ => true
theorem assign_star {e : Expr} (h : notStar e = true) (es : List Expr) (env : PySem.Env) : assignEach (e :: es) env = (false, assign e env) :: assignEach es env := by
  cases e <;> first | rfl | cases h
theorem eval_star {e : Expr} (h : notStar e = true) (es : List Expr) (env : PySem.Env) : starEach (e :: es) env = (false, eval e env) :: starEach es env := by
  cases e <;> first | rfl | cases h
theorem chkT_star {T : Stc} {a : Tg} {e : Expr} {sc : Scope} {fx : Str → Bool} (h : chkT T a e sc fx = true) : notStar e = true := by
  cases a <;> cases e <;> first | rfl | (simp [chkT] at h)
section
variable {K : PySem.W.Frag} {O O' : Addr → Prop} {H H' : Hp} {σ : L2.St} {s : Sl}
/-- a name is given a value -/
theorem Ok.setVal {i : Nat} {v : V} {d : D} (k : Ok K O H σ s) (h : Den K O H v d) (hi : i < s.length) : Ok K O H (σ.set i (some v)) (s.set i (.val d)) := by
  have hi' : i < σ.length := by rw [k.len]; exact hi
  refine ⟨by rw [List.length_set, List.length_set]; exact k.len, fun j e hj => ?_, fun j q ys hj => ?_, fun j j' q q' ys zs b hne hj hj' => ?_, k.dom⟩
  · by_cases ej : i = j
    · subst ej
      rw [List.getElem?_set_self hi] at hj
      cases hj
      exact ⟨v, List.getElem?_set_self hi', h⟩
    · rw [List.getElem?_set_ne ej] at hj ⊢
      exact k.val j e hj
  · by_cases ej : i = j
    · subst ej
      rw [List.getElem?_set_self hi] at hj
      cases hj
    · rw [List.getElem?_set_ne ej] at hj ⊢
      exact k.own j q ys hj
  · by_cases ej : i = j
    · subst ej
      rw [List.getElem?_set_self hi] at hj
      cases hj
    · by_cases ej' : i = j'
      · subst ej'
        rw [List.getElem?_set_self hi] at hj'
        cases hj'
      · rw [List.getElem?_set_ne ej] at hj ⊢
        rw [List.getElem?_set_ne ej'] at hj' ⊢
        exact k.ne j j' q q' ys zs b hne hj hj'
theorem okSet_lt {i : Nat} {s : Sl} (h : okSet i s = true) : i < s.length := by
  unfold okSet at h
  cases q : s[i]? with
  | none =>
    rw [q] at h
    cases h
  | some x => exact (List.getElem?_eq_some_iff.mp q).1
/-- slots but those of l are as they were -/
def SameBut (l : List Nat) (σ σ' : L2.St) : Prop := σ'.length = σ.length ∧ ∀ i, i ∉ l → σ'[i]? = σ[i]?
theorem SameBut.refl (l : List Nat) (σ : L2.St) : SameBut l σ σ := ⟨rfl, fun _ _ => rfl⟩
theorem SameBut.wipe {l vs : List Nat} {σ σ' : L2.St} (h : SameBut l σ σ') (hv : ∀ i ∈ l, i ∈ vs) : L2.wipe σ' vs = L2.wipe σ vs := by
  have key : ∀ (vs : List Nat) (σ : L2.St) (i : Nat), i < σ.length → (L2.wipe σ vs)[i]? = if i ∈ vs then some none else σ[i]? := by
    intro vs
    induction vs with
    | nil =>
      intro σ i hi
      simp [L2.wipe]
    | cons v vs ih =>
      intro σ i hi
      unfold L2.wipe
      by_cases e : v = i
      · subst e
        rw [List.getElem?_set_self (by rw [wipe_length]; exact hi)]
        simp
      · rw [List.getElem?_set_ne e, ih σ i hi]
        have : (i ∈ v :: vs) ↔ i ∈ vs := by
          rw [List.mem_cons]
          exact ⟨fun z => z.elim (fun z => absurd z.symm e) id, .inr⟩
        simp only [this]
  apply List.ext_getElem?
  intro i
  by_cases hi : i < σ.length
  · rw [key vs σ i hi, key vs σ' i (by rw [h.1]; exact hi)]
    split
    · rfl
    · rename_i n
      exact h.2 i fun z => n (hv i z)
  · rw [List.getElem?_eq_none (by rw [wipe_length, h.1]; omega), List.getElem?_eq_none (by rw [wipe_length]; omega)]
end
def tG (K : PySem.W.Frag) (tg : Tg) : TG := fun v σ H Q => ∃ O s d s', Ok K O H σ s ∧ Den K O H v d ∧ putT tg d s = some s' ∧ ∀ σ', Ok K O H σ' s' → SameBut tg.ix σ σ' → Q σ' H
def tGs (K : PySem.W.Frag) (tg : Tgs) : TGs := fun vs σ H Q => ∃ O s ds s', Ok K O H σ s ∧ DenAll K O H vs ds ∧ putTs tg ds s = some s' ∧ ∀ σ', Ok K O H σ' s' → SameBut tg.ix σ σ' → Q σ' H
section
variable {X : Cx}
theorem _root_.L2.PG.imp {e : Expr} {t u : TG} (h : PG X e t) (i : ∀ v σ H Q, u v σ H Q → t v σ H Q) : PG X e u := ⟨fun pins s σ H v w Q I r q => h.run pins s σ H v w Q I r (i _ _ _ _ q)⟩
theorem _root_.L2.PGs.imp {e : List Expr} {t u : TGs} (h : PGs X e t) (i : ∀ v σ H Q, u v σ H Q → t v σ H Q) : PGs X e u := ⟨fun pins s σ H v w Q I r q => h.run pins s σ H v w Q I r (i _ _ _ _ q)⟩
theorem _root_.L2.PE.imp {e : Expr} {t u : TE} (h : PE X e t) (i : ∀ σ H Q, u σ H Q → t σ H Q) : PE X e u := ⟨fun pins s σ H Q I q => h.run pins s σ H Q I (i _ _ _ q)⟩
theorem _root_.L2.PT.imp {e : Expr} {t u : TT} (h : PT X e t) (i : ∀ σ H Q, u σ H Q → t σ H Q) : PT X e u := ⟨fun pins s σ H Q I q => h.run pins s σ H Q I (i _ _ _ q)⟩
theorem _root_.L2.PA.imp {e : List Expr} {t u : TA} (h : PA X e t) (i : ∀ σ H Q, u σ H Q → t σ H Q) : PA X e u := ⟨fun pos pins s σ H Q I q => h.run pos pins s σ H Q I (i _ _ _ q)⟩
theorem _root_.L2.PK.imp {e : List Keyword} {t u : TA} (h : PK X e t) (i : ∀ σ H Q, u σ H Q → t σ H Q) : PK X e u := ⟨fun pos pins s σ H Q I q => h.run pos pins s σ H Q I (i _ _ _ q)⟩
theorem _root_.L2.PI.imp {a e : Expr} {t u : TI} (h : PI X a e t) (i : ∀ σ H Q, u σ H Q → t σ H Q) : PI X a e u := ⟨fun pins s σ H Q I q => h.run pins s σ H Q I (i _ _ _ q)⟩
theorem _root_.L2.PS.imp {e : Stmt} {t u : TS} (h : PS X e t) (i : ∀ D σ H, u D σ H → t D σ H) : PS X e u := ⟨fun pins s σ H D I q => h.run pins s σ H D I (i _ _ _ q)⟩
theorem _root_.L2.PSs.imp {e : List Stmt} {t u : TS} (h : PSs X e t) (i : ∀ D σ H, u D σ H → t D σ H) : PSs X e u := ⟨fun pins s σ H D I q => h.run pins s σ H D I (i _ _ _ q)⟩
variable {T : Stc} {Φ : Phi}
theorem chkTs_len : ∀ {l : Tgs} {es : List Expr} {sc : Scope} {fx : Str → Bool}, chkTs T l es sc fx = true → l.len = es.length ∧ ∀ env : PySem.Env, (assignEach es env).length = es.length ∧ (assignEach es env).findIdx? (·.1) = none
  | .nil, [], _, _, _ => ⟨rfl, fun _ => ⟨rfl, rfl⟩⟩
  | .nil, _ :: _, _, _, h => by simp [chkTs] at h
  | .cons _ _, [], _, _, h => by simp [chkTs] at h
  | .cons a b, e :: es, sc, fx, h => by
    simp only [chkTs, Bool.and_eq_true] at h
    obtain ⟨h1, h2⟩ := chkTs_len h.2
    refine ⟨congrArg Nat.succ h1, fun env => ?_⟩
    rw [assign_star (chkT_star h.1)]
    refine ⟨congrArg Nat.succ (h2 env).1, ?_⟩
    rw [List.findIdx?_cons]
    simp [(h2 env).2]
theorem putTs_len : ∀ {l : Tgs} {ds : List D} {s s' : Sl}, putTs l ds s = some s' → ds.length = l.len
  | .nil, [], _, _, _ => rfl
  | .nil, _ :: _, _, _, h => by simp [putTs] at h
  | .cons _ _, [], _, _, h => by simp [putTs] at h
  | .cons a b, d :: ds, s, s', h => by
    unfold putTs at h
    cases q : putT a d s with
    | none =>
      rw [q] at h
      cases h
    | some s1 =>
      rw [q] at h
      exact congrArg Nat.succ (putTs_len (l := b) h)
mutual
theorem sTg (c : Cok X T Φ) : ∀ (tg : Tg) (e : Expr), chkT T tg e X.env.scope X.fn = true → PG X e (tG X.K tg)
  | .name i, e, h => by
    obtain ⟨x, pos, rfl⟩ : ∃ x pos, e = .Name x pos := by
      cases e with
      | Name x pos => exact ⟨x, pos, rfl⟩
      | _ => simp [chkT] at h
    simp only [chkT, Bool.and_eq_true, Bool.or_eq_true, decide_eq_true_eq] at h
    have hl : Loc X.env.scope x := by
      rcases h.2 with z | z
      · exact .inl z
      · exact .inr z.1
    refine (pg_name (i := i) c.nd (by rw [c.nEq]; exact h.1) hl (by
      rcases h.2 with z | z
      · exact .inr z
      · exact .inl z.2)).imp fun v σ H Q ⟨O, s, d, s', k, hd, e, q⟩ => ?_
    unfold putT at e
    split at e
    · rename_i ho
      cases e
      have hi := okSet_lt ho
      refine q _ (k.setVal hd hi) ⟨List.length_set .., fun j hj => ?_⟩
      rw [List.getElem?_set_ne]
      intro z
      exact hj (by rw [z]; exact List.mem_singleton.mpr rfl)
    · cases e
  | .tup l, e, h => by
    obtain ⟨es, k, pos, rfl⟩ : ∃ es k pos, e = .Tuple es k pos := by
      cases e with
      | Tuple es k pos => exact ⟨es, k, pos, rfl⟩
      | _ => simp [chkT] at h
    simp only [chkT] at h
    obtain ⟨h1, h2⟩ := chkTs_len h
    refine (pg_tup (n := es.length) c.calm (sTgs c l es h) (h2 X.env).1 (h2 X.env).2).imp fun v σ H Q ⟨O, s, d, s', k, hd, e, q⟩ => ?_
    cases d with
    | tuple ds =>
      cases hd with
      | tup r t =>
        refine ⟨_, _, rfl, r, ?_, O, s, ds, s', k, t, e, q⟩
        rw [t.length, putTs_len (l := l) e, h1]
    | _ => simp [putT] at e
theorem sTgs (c : Cok X T Φ) : ∀ (tg : Tgs) (es : List Expr), chkTs T tg es X.env.scope X.fn = true → PGs X es (tGs X.K tg)
  | .nil, [], h => by
    refine pgs_nil.imp fun vs σ H Q ⟨O, s, ds, s', k, hd, e, q⟩ => ?_
    cases ds with
    | nil =>
      cases hd
      cases e
      exact ⟨rfl, q σ k (SameBut.refl _ σ)⟩
    | cons _ _ => simp [putTs] at e
  | .nil, _ :: _, h => by simp [chkTs] at h
  | .cons _ _, [], h => by simp [chkTs] at h
  | .cons a b, e :: es, h => by
    simp only [chkTs, Bool.and_eq_true] at h
    refine (pgs_cons (sTg c a e h.1) (sTgs c b es h.2) (by rw [assign_star (chkT_star h.1)]; rfl)).imp fun vs σ H Q ⟨O, s, ds, s', k, hd, e, q⟩ => ?_
    cases ds with
    | nil => simp [putTs] at e
    | cons d ds =>
      cases hd with
      | cons hd ht =>
        unfold putTs at e
        cases p : putT a d s with
        | none =>
          rw [p] at e
          cases e
        | some s1 =>
          rw [p] at e
          refine ⟨_, _, rfl, O, s, d, s1, k, hd, p, fun σ1 k1 sb1 => ⟨O, s1, ds, s', k1, ht, e, fun σ2 k2 sb2 => q σ2 k2 ⟨sb2.1.trans sb1.1, fun i hi => ?_⟩⟩⟩
          have hi' : i ∉ a.ix ∧ i ∉ b.ix := by
            constructor
            · exact fun z => hi (by unfold Tgs.ix; exact List.mem_append_left _ z)
            · exact fun z => hi (by unfold Tgs.ix; exact List.mem_append_right _ z)
          exact (sb2.2 i hi'.2).trans (sb1.2 i hi'.1)
end
end
end Mi

set_option Elab.async false
set_option linter.all false
set_option maxRecDepth 100000
/-! Mi: what is walked; comprehensions. -/
namespace Mi
open PySem L2 PyProof.Rows

/-- nothing but own lists has changed -/
def Kp (σ : L2.St) (s : Sl) (E : Addr → Prop) (H H2 : Hp) : Prop := ∀ a o, H a = some o → ¬ ownAd σ s a → ¬ E a → H2 a = some o
/-- a turn may make a pair -/
def TX (H H' : Hp) : Prop := H' = H ∨ ∃ t xs, H t = none ∧ H' = upd H t (.tup xs)
def OldL (O : Addr → Prop) (H0 H : Hp) (E : Addr → Prop) : Prop := ∀ a, E a → O a ∧ H0 a ≠ none ∧ ∃ xs, H a = some (.lst xs)
/-- E: lists of old that change meanwhile -/
def IsW (K : PySem.W.Frag) (O : Addr → Prop) (H0 H : Hp) (σ : L2.St) (s : Sl) (J : It) (ds : List D) : Prop :=
  ∀ E : Addr → Prop, OldL O H0 H E → ∃ G Y, Walk J ds.length G Y ∧ (∀ H2, Kp σ s E H H2 → G H2) ∧
    ∀ i H2 x H3 O2, i < ds.length → Kp σ s E H H2 → (∀ a, O2 a → O a ∨ H a = none) → (∀ a, O2 a → H2 a ≠ none) → Y i H2 x H3 → ∃ d, ds[i]? = some d ∧ TX H2 H3 ∧ Den K O2 H3 x d
def tI (K : PySem.W.Frag) (c : Sl → Option (List D × Sl)) : TI := fun σ H R =>
  ∃ O s ds s', Ok K O H σ s ∧ c s = some (ds, s') ∧ ∀ O' H' J, Go K O H σ s O' H' s' → IsW K O' H H' σ s' J ds → R J H'
section
variable {K : PySem.W.Frag} {O O' E : Addr → Prop} {H H' H0 H2 H3 : Hp} {σ : L2.St} {s : Sl}
theorem TX.kept (h : TX H H') : ∀ a o, H a = some o → H' a = some o := fun a o e => by
  rcases h with rfl | ⟨t, xs, n, rfl⟩
  · exact e
  · rw [upd_ne (ne_of_none e n)]
    exact e
theorem TX.go (h : TX H H') (k : Ok K O H σ s) : Go K O H σ s O H' s := by
  rcases h with rfl | ⟨t, xs, n, rfl⟩
  · exact Go.refl k
  · exact Go.upd k n
/-- an item that is known stays known -/
theorem Kp.den {v : V} {d : D} {O2 : Addr → Prop} (hE : OldL O H0 H E) (k : Ok K O H σ s) (h : Den K O H v d) (kp : Kp σ s E H H2) (nw : ∀ a, O2 a → O a ∨ H a = none) : Den K O2 H2 v d :=
  Den.mono (Wr := fun a => ownAd σ s a ∨ E a) (fun a o e n => kp a o e (fun z => n (.inl z)) fun z => n (.inr z)) (fun a z => z.elim (fun z => k.ow z) fun z => ⟨(hE a z).1, (hE a z).2.2⟩) nw d v h
theorem old_not {a : Addr} (hE : OldL O H0 H E) (n : ¬ O a ∨ H0 a = none) : ¬ E a := fun z => n.elim (fun y => y (hE a z).1) fun y => (hE a z).2.1 y
theorem isw_list {a : Addr} {vs : List V} {ds : List D} (k : Ok K O H σ s) (ha : H a = some (.lst vs)) (no : ¬ ownAd σ s a) (nE : ¬ O a ∨ H0 a = none) (h : DenAll K O H vs ds) : IsW K O H0 H σ s (Itl K a) ds := by
  intro E hE
  refine ⟨_, _, by rw [← h.length]; exact walk_list (xs := vs), fun H2 kp => SqL.of (kp a _ ha no (old_not hE nE)), fun i H2 x H3 O2 hi kp nw dm y => ?_⟩
  obtain ⟨rfl, e⟩ := y
  obtain ⟨d, e2, hd⟩ := h.getV e
  exact ⟨d, e2, .inl rfl, Kp.den hE k hd kp nw⟩
theorem sqt_kp {a : Addr} {vs : List V} (hE : OldL O H0 H E) (k : Ok K O H σ s) (ha : SqT K H a vs) (kp : Kp σ s E H H2) : SqT K H2 a vs := by
  rcases ha with (ha | ⟨o, ha⟩) | ha
  · refine .inl (.inl (kp a _ ha (fun z => by
      obtain ⟨_, xs, e⟩ := k.ow z
      rw [ha] at e
      cases e) fun z => ?_))
    obtain ⟨_, _, xs, e⟩ := hE a z
    rw [ha] at e
    cases e
  · refine .inl (.inr ⟨o, kp a _ ha (fun z => by
      obtain ⟨_, xs, e⟩ := k.ow z
      rw [ha] at e
      cases e) fun z => ?_⟩)
    obtain ⟨_, _, xs, e⟩ := hE a z
    rw [ha] at e
    cases e
  · exact .inr ha
theorem isw_tup {a : Addr} {vs : List V} {ds : List D} (k : Ok K O H σ s) (ha : SqT K H a vs) (h : DenAll K O H vs ds) : IsW K O H0 H σ s (Itt K a) ds := by
  intro E hE
  refine ⟨_, _, by rw [← h.length]; exact walk_tup (xs := vs), fun H2 kp => sqt_kp hE k ha kp, fun i H2 x H3 O2 hi kp nw dm y => ?_⟩
  obtain ⟨rfl, e⟩ := y
  obtain ⟨d, e2, hd⟩ := h.getV e
  exact ⟨d, e2, .inl rfl, Kp.den hE k hd kp nw⟩
theorem rgD_len (lo : Int) (n : Nat) : (rgD lo n).length = n := by
  unfold rgD
  rw [List.length_map, List.length_range]
theorem rgD_get (lo : Int) (n i : Nat) (h : i < n) : (rgD lo n)[i]? = some (.int (lo + i)) := by
  unfold rgD
  rw [List.getElem?_map, List.getElem?_range h]
  rfl
theorem isw_range {lo : Int} {n : Nat} : IsW K O H0 H σ s (Itr lo n) (rgD lo n) := by
  intro E hE
  refine ⟨_, _, by rw [rgD_len]; exact walk_range, fun H2 kp => trivial, fun i H2 x H3 O2 hi kp nw dm y => ?_⟩
  obtain ⟨rfl, rfl⟩ := y
  rw [rgD_len] at hi
  exact ⟨_, rgD_get lo n i hi, .inl rfl, .int _⟩
theorem rg3D_len (lo k : Int) (n : Nat) : (rg3D lo k n).length = n := by
  unfold rg3D
  rw [List.length_map, List.length_range]
theorem rg3D_get (lo k : Int) (n i : Nat) (h : i < n) : (rg3D lo k n)[i]? = some (.int (lo + i * k)) := by
  unfold rg3D
  rw [List.getElem?_map, List.getElem?_range h]
  rfl
theorem isw_range3 {lo k : Int} {n : Nat} : IsW K O H0 H σ s (Itc lo k n) (rg3D lo k n) := by
  intro E hE
  refine ⟨_, _, by rw [rg3D_len]; exact walk_rangeC, fun H2 kp => trivial, fun i H2 x H3 O2 hi kp nw dm y => ?_⟩
  obtain ⟨rfl, rfl⟩ := y
  rw [rg3D_len] at hi
  exact ⟨_, rg3D_get lo k n i hi, .inl rfl, .int _⟩
theorem isw_str {z : Str} : IsW K O H0 H σ s (Its z) (z.cps.toList.map fun c => PyData.str ⟨#[c]⟩) := by
  intro E hE
  have hn : z.cps.size = (z.cps.toList.map fun c => PyData.str ⟨#[c]⟩).length := by simp
  refine ⟨_, _, by rw [← hn]; exact walk_str, fun H2 kp => trivial, fun i H2 x H3 O2 hi kp nw dm y => ?_⟩
  obtain ⟨rfl, c, e, rfl⟩ := y
  refine ⟨.str ⟨#[c]⟩, ?_, .inl rfl, .str _⟩
  rw [List.getElem?_map, ← Array.getElem?_toList] at *
  simp [e]
theorem zipget {α β : Type} {xs : List α} {ys : List β} {i : Nat} {x : α} {y : β} (h : xs[i]? = some x) (h' : ys[i]? = some y) : (xs.zip ys)[i]? = some (x, y) :=
  List.getElem?_zip_eq_some.mpr ⟨h, h'⟩
theorem pair_den {O2 : Addr → Prop} {t : Addr} {x y : V} {d e : D} (n : H2 t = none) (hx : Den K O2 H2 x d) (hy : Den K O2 H2 y e) : Den K O2 (upd H2 t (.tup [x, y])) (.ref t) (.tuple [d, e]) :=
  .tup (SqT.of upd_same) (.cons (hx.upd n) (.cons (hy.upd n) .nil))
theorem isw_zipL {a b : Addr} {vs ws : List V} {ds es : List D} (k : Ok K O H σ s) (ha : H a = some (.lst vs)) (na : ¬ ownAd σ s a) (nE : ¬ O a ∨ H0 a = none) (hd : DenAll K O H vs ds) (hb : H b = some (.lst ws)) (nb : ¬ ownAd σ s b) (nE' : ¬ O b ∨ H0 b = none) (he : DenAll K O H ws es) :
    IsW K O H0 H σ s (Itz K a b) ((ds.zip es).map fun (p : D × D) => .tuple [p.1, p.2]) := by
  intro E hE
  have hn : ((ds.zip es).map fun (p : D × D) => PyData.tuple [p.1, p.2]).length = min vs.length ws.length := by rw [List.length_map, List.length_zip, hd.length, he.length]
  refine ⟨_, _, walk_zip (xs := vs) (ys := ws) hn, fun H2 kp => ⟨SqL.of (kp a _ ha na (old_not hE nE)), SqL.of (kp b _ hb nb (old_not hE nE'))⟩, fun i H2 x H3 O2 hi kp nw dm y => ?_⟩
  obtain ⟨t, x1, x2, rfl, n, rfl, e1, e2⟩ := y
  obtain ⟨d1, f1, g1⟩ := hd.getV e1
  obtain ⟨d2, f2, g2⟩ := he.getV e2
  refine ⟨.tuple [d1, d2], ?_, .inr ⟨t, _, n, rfl⟩, pair_den n (Kp.den hE k g1 kp nw) (Kp.den hE k g2 kp nw)⟩
  rw [List.getElem?_map, zipget f1 f2]
  rfl
theorem walk_zipT {a b : Addr} {xs ys : List V} {n : Nat} (hn : n = min xs.length ys.length) : Walk (RZ.ItzT K a b) n (fun H => SqT K H a xs ∧ SqT K H b ys) (YPair (fun i => xs[i]?) (fun i => ys[i]?)) := by
  subst hn
  refine ⟨fun i _ hi q => ?_, fun _ q => ⟨xs, ys, q.1, q.2, by omega⟩, fun i H v H' _ q y => ?_⟩
  · have h1 : i < xs.length := by omega
    have h2 : i < ys.length := by omega
    exact ⟨xs, ys, xs[i], ys[i], q.1, q.2, by simp [h1], by simp [h2]⟩
  · obtain ⟨T, x, z, h1, h2, h3, h4, h5⟩ := y
    exact ⟨T, x, z, h1, h2, h3, h4 xs q.1, h5 ys q.2⟩
theorem isw_zipT {a b : Addr} {vs ws : List V} {ds es : List D} (k : Ok K O H σ s) (ha : SqT K H a vs) (hd : DenAll K O H vs ds) (hb : SqT K H b ws) (he : DenAll K O H ws es) :
    IsW K O H0 H σ s (RZ.ItzT K a b) ((ds.zip es).map fun (p : D × D) => .tuple [p.1, p.2]) := by
  intro E hE
  have hn : ((ds.zip es).map fun (p : D × D) => PyData.tuple [p.1, p.2]).length = min vs.length ws.length := by rw [List.length_map, List.length_zip, hd.length, he.length]
  refine ⟨_, _, walk_zipT (xs := vs) (ys := ws) hn, fun H2 kp => ⟨sqt_kp hE k ha kp, sqt_kp hE k hb kp⟩, fun i H2 x H3 O2 hi kp nw dm y => ?_⟩
  obtain ⟨t, x1, x2, rfl, n, rfl, e1, e2⟩ := y
  obtain ⟨d1, f1, g1⟩ := hd.getV e1
  obtain ⟨d2, f2, g2⟩ := he.getV e2
  refine ⟨.tuple [d1, d2], ?_, .inr ⟨t, _, n, rfl⟩, pair_den n (Kp.den hE k g1 kp nw) (Kp.den hE k g2 kp nw)⟩
  rw [List.getElem?_map, zipget f1 f2]
  rfl
theorem isw_enumL {a : Addr} {vs : List V} {ds : List D} (k : Ok K O H σ s) (ha : H a = some (.lst vs)) (na : ¬ ownAd σ s a) (nE : ¬ O a ∨ H0 a = none) (hd : DenAll K O H vs ds) :
    IsW K O H0 H σ s (Ite K a) (((rgD 0 ds.length).zip ds).map fun (p : D × D) => .tuple [p.1, p.2]) := by
  intro E hE
  have hn : (((rgD 0 ds.length).zip ds).map fun (p : D × D) => PyData.tuple [p.1, p.2]).length = vs.length := by rw [List.length_map, List.length_zip, rgD_len, hd.length, Nat.min_self]
  refine ⟨_, _, by rw [hn]; exact walk_enum (xs := vs), fun H2 kp => SqL.of (kp a _ ha na (old_not hE nE)), fun i H2 x H3 O2 hi kp nw dm y => ?_⟩
  obtain ⟨t, x1, x2, rfl, n, rfl, e1, e2⟩ := y
  obtain ⟨d2, f2, g2⟩ := hd.getV e2
  have e1' : V.int (i : Nat) = x1 := Option.some.inj e1
  subst e1'
  refine ⟨.tuple [.int (i : Nat), d2], ?_, .inr ⟨t, _, n, rfl⟩, pair_den n (.int _) (Kp.den hE k g2 kp nw)⟩
  rw [List.getElem?_map, zipget (rgD_get 0 ds.length i (by rw [hn, hd.length] at hi; exact hi)) f2]
  simp
end

/-! ### the slots of a comprehension -/
section
variable {K : PySem.W.Frag} {O O' : Addr → Prop} {H H' : Hp} {σ σ' : L2.St} {s : Sl}
theorem wipeS_len (s : Sl) : ∀ vs : List Nat, (wipeS s vs).length = s.length
  | [] => rfl
  | v :: vs => by
    unfold wipeS
    rw [List.length_set, wipeS_len s vs]
theorem wipeS_get : ∀ (vs : List Nat) (s : Sl) (i : Nat), i < s.length → (wipeS s vs)[i]? = if i ∈ vs then some .emp else s[i]?
  | [], s, i, hi => by simp [wipeS]
  | v :: vs, s, i, hi => by
    unfold wipeS
    by_cases e : v = i
    · subst e
      rw [List.getElem?_set_self (by rw [wipeS_len]; exact hi)]
      simp
    · rw [List.getElem?_set_ne e, wipeS_get vs s i hi]
      have : (i ∈ v :: vs) ↔ i ∈ vs := by
        rw [List.mem_cons]
        exact ⟨fun z => z.elim (fun z => absurd z.symm e) id, .inr⟩
      simp only [this]
theorem wipe_get : ∀ (vs : List Nat) (σ : L2.St) (i : Nat), i < σ.length → (L2.wipe σ vs)[i]? = if i ∈ vs then some none else σ[i]?
  | [], s, i, hi => by simp [L2.wipe]
  | v :: vs, s, i, hi => by
    unfold L2.wipe
    by_cases e : v = i
    · subst e
      rw [List.getElem?_set_self (by rw [wipe_length]; exact hi)]
      simp
    · rw [List.getElem?_set_ne e, wipe_get vs s i hi]
      have : (i ∈ v :: vs) ↔ i ∈ vs := by
        rw [List.mem_cons]
        exact ⟨fun z => z.elim (fun z => absurd z.symm e) id, .inr⟩
      simp only [this]
theorem wipe_wipe (σ : L2.St) (vs : List Nat) : L2.wipe (L2.wipe σ vs) vs = L2.wipe σ vs := by
  apply List.ext_getElem?
  intro i
  by_cases hi : i < σ.length
  · rw [wipe_get _ _ _ (by rw [wipe_length]; exact hi), wipe_get _ _ _ hi]
    split <;> rfl
  · rw [List.getElem?_eq_none (by rw [wipe_length, wipe_length]; omega), List.getElem?_eq_none (by rw [wipe_length]; omega)]
theorem Ok.wipe (k : Ok K O H σ s) (vs : List Nat) : Ok K O H (L2.wipe σ vs) (wipeS s vs) := by
  have lt : ∀ (i : Nat) (x : Slot), (wipeS s vs)[i]? = some x → i < s.length := fun i x h => by
    have := (List.getElem?_eq_some_iff.mp h).1
    rw [wipeS_len] at this
    exact this
  have away : ∀ (i : Nat) (x : Slot), (wipeS s vs)[i]? = some x → x ≠ .emp → i ∉ vs ∧ s[i]? = some x ∧ (L2.wipe σ vs)[i]? = σ[i]? := fun i x h n => by
    have hi := lt i x h
    rw [wipeS_get vs s i hi] at h
    rw [wipe_get vs σ i (by rw [k.len]; exact hi)]
    split at h
    · cases h
      exact absurd rfl n
    · rename_i z
      rw [if_neg z]
      exact ⟨z, h, rfl⟩
  refine ⟨by rw [wipe_length, wipeS_len]; exact k.len, fun i d h => ?_, fun i p xs h => ?_, fun i j p q xs ys a ne h h' => ?_, k.dom⟩
  · obtain ⟨_, h1, h2⟩ := away i _ h nofun
    rw [h2]
    exact k.val i d h1
  · obtain ⟨_, h1, h2⟩ := away i _ h nofun
    rw [h2]
    exact k.own i p xs h1
  · obtain ⟨_, h1, h2⟩ := away i _ h nofun
    obtain ⟨_, h3, h4⟩ := away j _ h' nofun
    rw [h2, h4]
    exact k.ne i j p q xs ys a ne h1 h3
theorem isEmp_iff {i : Nat} (h : isEmp s i = true) : s[i]? = some .emp := by
  unfold isEmp at h
  split at h
  · assumption
  · cases h
theorem wipeS_id {vs : List Nat} (h : ∀ i ∈ vs, s[i]? = some .emp) : wipeS s vs = s := by
  apply List.ext_getElem?
  intro i
  by_cases hi : i < s.length
  · rw [wipeS_get _ _ _ hi]
    split
    · rename_i z
      exact (h i z).symm
    · rfl
  · rw [List.getElem?_eq_none (by rw [wipeS_len]; omega), List.getElem?_eq_none (by omega)]
theorem ownAd_wipe {vs : List Nat} {a : Addr} (h : ∀ i ∈ vs, s[i]? = some .emp) (hl : σ.length = s.length) : ownAd (L2.wipe σ vs) s a ↔ ownAd σ s a := by
  have key : ∀ (i : Nat) (p : Bool) (xs : List D), s[i]? = some (.own p xs) → (L2.wipe σ vs)[i]? = σ[i]? := fun i p xs e => by
    have hi := (List.getElem?_eq_some_iff.mp e).1
    rw [wipe_get vs σ i (by rw [hl]; exact hi), if_neg]
    intro z
    rw [h i z] at e
    cases e
  constructor
  · rintro ⟨i, p, xs, e, e2⟩
    exact ⟨i, p, xs, e, by rw [← key i p xs e]; exact e2⟩
  · rintro ⟨i, p, xs, e, e2⟩
    exact ⟨i, p, xs, e, by rw [key i p xs e]; exact e2⟩
/-- back from the block -/
theorem Ok.unwipe {vs : List Nat} (k : Ok K O H (L2.wipe σ vs) s) (h : ∀ i ∈ vs, s[i]? = some .emp) : Ok K O H σ s := by
  have hl : σ.length = s.length := by
    have := k.len
    rw [wipe_length] at this
    exact this
  have away : ∀ (i : Nat) (x : Slot), s[i]? = some x → x ≠ .emp → (L2.wipe σ vs)[i]? = σ[i]? := fun i x e n => by
    have hi := (List.getElem?_eq_some_iff.mp e).1
    rw [wipe_get vs σ i (by rw [hl]; exact hi), if_neg]
    intro z
    rw [h i z] at e
    cases e
    exact n rfl
  refine ⟨hl, fun i d e => ?_, fun i p xs e => ?_, fun i j p q xs ys a ne e e' => ?_, k.dom⟩
  · rw [← away i _ e nofun]
    exact k.val i d e
  · rw [← away i _ e nofun]
    exact k.own i p xs e
  · rw [← away i _ e nofun, ← away j _ e' nofun]
    exact k.ne i j p q xs ys a ne e e'
end
end Mi

set_option Elab.async false
set_option linter.all false
set_option maxRecDepth 100000
/-! Mi: comprehensions. -/
namespace Mi
open PySem L2 PyProof.Rows

theorem bnd {α β : Type} {o : Option α} {f : α → Option β} {b : β} (e : o.bind f = some b) : ∃ a, o = some a ∧ f a = some b := Option.bind_eq_some_iff.mp e
theorem mpd {α β : Type} {o : Option α} {f : α → β} {b : β} (e : o.map f = some b) : ∃ a, o = some a ∧ f a = b := Option.map_eq_some_iff.mp e

def tT (K : PySem.W.Frag) (c : Sl → Option (Bool × Sl)) : TT := fun σ H Q => ∃ O s b s', Ok K O H σ s ∧ c s = some (b, s') ∧ ∀ O' H', Go K O H σ s O' H' s' → Q b H'
section
variable {K : PySem.W.Frag} {O O' : Addr → Prop} {H H' : Hp} {σ σ' : L2.St} {s s' : Sl}
/-- what a store to targets does to the slots -/
def PutOk (l : List Nat) (s s' : Sl) : Prop := s'.length = s.length ∧ (∀ i, i ∉ l → s'[i]? = s[i]?) ∧ ∀ i, i ∈ l → ∃ d, s'[i]? = some (.val d)
mutual
theorem putT_ok : ∀ (tg : Tg) (d : D) (s s' : Sl), putT tg d s = some s' → PutOk tg.ix s s'
  | .name i, d, s, s', e => by
    unfold putT at e
    split at e
    · rename_i ho
      cases e
      refine ⟨List.length_set .., fun j hj => ?_, fun j hj => ?_⟩
      · rw [List.getElem?_set_ne]
        intro z
        exact hj (by rw [z]; exact List.mem_singleton.mpr rfl)
      · have : j = i := List.mem_singleton.mp hj
        subst this
        exact ⟨d, List.getElem?_set_self (okSet_lt ho)⟩
    · cases e
  | .tup l, .tuple ds, s, s', e => putTs_ok l ds s s' e
  | .tup l, .none, s, s', e => by cases e
  | .tup l, .bool _, s, s', e => by cases e
  | .tup l, .int _, s, s', e => by cases e
  | .tup l, .str _, s, s', e => by cases e
  | .tup l, .list _, s, s', e => by cases e
  | .tup l, .dict _, s, s', e => by cases e
theorem putTs_ok : ∀ (tg : Tgs) (ds : List D) (s s' : Sl), putTs tg ds s = some s' → PutOk tg.ix s s'
  | .nil, [], s, s', e => by
    cases e
    exact ⟨rfl, fun _ _ => rfl, fun i hi => by cases hi⟩
  | .nil, _ :: _, s, s', e => by cases e
  | .cons a b, [], s, s', e => by cases e
  | .cons a b, d :: ds, s, s', e => by
    unfold putTs at e
    cases p : putT a d s with
    | none =>
      rw [p] at e
      cases e
    | some s1 =>
      rw [p] at e
      obtain ⟨a1, a2, a3⟩ := putT_ok a d s s1 p
      obtain ⟨b1, b2, b3⟩ := putTs_ok b ds s1 s' e
      refine ⟨b1.trans a1, fun i hi => ?_, fun i hi => ?_⟩
      · have hi' : i ∉ a.ix ∧ i ∉ b.ix := ⟨fun z => hi (List.mem_append_left _ z), fun z => hi (List.mem_append_right _ z)⟩
        exact (b2 i hi'.2).trans (a2 i hi'.1)
      · by_cases hb : i ∈ b.ix
        · exact b3 i hb
        · rcases List.mem_append.mp hi with z | z
          · rw [b2 i hb]
            exact a3 i z
          · exact absurd z hb
end
theorem PutOk.ow {l : List Nat} (p : PutOk l s s') (sb : SameBut l σ σ') {a : Addr} (h : ownAd σ' s' a) : ownAd σ s a := by
  obtain ⟨i, q, xs, h1, h2⟩ := h
  have hi : i ∉ l := fun z => by
    obtain ⟨d, e⟩ := p.2.2 i z
    rw [e] at h1
    cases h1
  exact ⟨i, q, xs, by rw [← p.2.1 i hi]; exact h1, by rw [← sb.2 i hi]; exact h2⟩
/-- a list that is nobody's slot is changed -/
theorem Ok.poke {p : Addr} {ws us : List V} (k : Ok K O H σ s) (hp : O p) (hl : H p = some (.lst us)) (n : ¬ ownAd σ s p) : Ok K O (L2.upd H p (.lst ws)) σ s := by
  have kp : ∀ a o, H a = some o → ¬ a = p → (L2.upd H p (.lst ws)) a = some o := fun a o e ne => by
    rw [upd_ne ne]
    exact e
  have hw : ∀ a, a = p → O a ∧ ∃ xs, H a = some (.lst xs) := fun a e => by
    subst e
    exact ⟨hp, us, hl⟩
  refine ⟨k.len, fun i d h => ?_, fun i q xs h => ?_, k.ne, fun a h => ?_⟩
  · obtain ⟨v, e, h⟩ := k.val i d h
    exact ⟨v, e, Den.mono (Wr := fun a => a = p) kp hw (fun _ z => .inl z) d v h⟩
  · obtain ⟨a, vs, e, h1, h2, h3⟩ := k.own i q xs h
    exact ⟨a, vs, e, h1, kp a _ h2 (fun z => n ⟨i, q, xs, h, by rw [← z]; exact e⟩), DenAll.mono (Wr := fun a => a = p) kp hw (fun _ z => .inl z) xs vs h3⟩
  · unfold L2.upd
    split
    · simp
    · exact k.dom a h
theorem DenAll.poke {p : Addr} {ws us : List V} {vs : List V} {ds : List D} (h : DenAll K O H vs ds) (hp : O p) (hl : H p = some (.lst us)) : DenAll K O (L2.upd H p (.lst ws)) vs ds :=
  DenAll.mono (Wr := fun a => a = p) (fun a o e ne => by rw [upd_ne ne]; exact e) (fun a e => by subst e; exact ⟨hp, us, hl⟩) (fun _ z => .inl z) ds vs h
theorem Den.poke {p : Addr} {ws us : List V} {v : V} {d : D} (h : Den K O H v d) (hp : O p) (hl : H p = some (.lst us)) : Den K O (L2.upd H p (.lst ws)) v d :=
  Den.mono (Wr := fun a => a = p) (fun a o e ne => by rw [upd_ne ne]; exact e) (fun a e => by subst e; exact ⟨hp, us, hl⟩) (fun _ z => .inl z) d v h
/-- the slots behind a turn of a comprehension -/
theorem turn_shp {s1 sc s2 s3 : Sl} {own l : List Nat} (h1 : Shp s1 sc) (he : ∀ i ∈ own, s1[i]? = some .emp) (p : PutOk l sc s2) (hl : ∀ i ∈ l, i ∈ own) (h3 : Shp s2 s3) : Shp s1 (wipeS s3 own) := by
  have L : s1.length = s3.length := by rw [h1.1, ← p.1, h3.1]
  refine ⟨by rw [wipeS_len]; exact L, fun i => ?_⟩
  by_cases hi : i ∈ own
  · have e := he i hi
    have hlt : i < s3.length := by rw [← L]; exact (List.getElem?_eq_some_iff.mp e).1
    rw [e]
    refine ⟨fun _ => ?_, (fun d z => nomatch z), (fun p xs z => nomatch z)⟩
    rw [wipeS_get own s3 i hlt, if_pos hi]
  · have same : sc[i]? = s2[i]? := (p.2.1 i fun z => hi (hl i z)).symm
    have w : ∀ x, s3[i]? = some x → (wipeS s3 own)[i]? = some x := fun x e => by
      rw [wipeS_get own s3 i (List.getElem?_eq_some_iff.mp e).1, if_neg hi]
      exact e
    refine ⟨fun z => w _ ((h3.2 i).1 (by rw [← same]; exact (h1.2 i).1 z)), fun d z => w _ ((h3.2 i).2.1 d (by rw [← same]; exact (h1.2 i).2.1 d z)), fun q xs z => ?_⟩
    obtain ⟨ys, e⟩ := (h1.2 i).2.2 q xs z
    rw [same] at e
    obtain ⟨zs, e⟩ := (h3.2 i).2.2 q ys e
    exact ⟨zs, w _ e⟩
/-- a walk, whatever a turn does -/
theorem walk_it {J : It} {n : Nat} {G : Hp → Prop} {Y : Nat → Hp → V → Hp → Prop} (w : Walk J n G Y) (Body : V → Hp → (Hp → Prop) → Prop) {H0 : Hp} {Qd : Hp → Prop} (Pv : Nat → Hp → Prop) (h0 : Pv 0 H0) (hG : ∀ i H, i ≤ n → Pv i H → G H)
    (hs : ∀ i x H H', i < n → Pv i H → Y i H x H' → Body x H' (Pv (i + 1))) (hd : ∀ H, Pv n H → Qd H) :
    ∃ W : Nat → Nat → Hp → Prop, (∃ m, W 0 m H0) ∧ ∀ i m H, W i m H → (J.stop i H ∧ Qd H) ∨ (J.go i H ∧ ∃ Nx : Hp → Prop, (∀ H', Nx H' → ∃ m', m' < m ∧ W (i + 1) m' H') ∧ ∀ x H', J.yld i H x H' → Body x H' Nx) := by
  refine ⟨fun i m H => m = n - i ∧ i ≤ n ∧ Pv i H, ⟨n, by simp, Nat.zero_le _, h0⟩, ?_⟩
  rintro i m H ⟨rfl, hi, p⟩
  have q := hG i H hi p
  by_cases hlt : i < n
  · exact .inr ⟨w.goes i H hlt q, Pv (i + 1), fun H' p' => ⟨n - (i + 1), by omega, rfl, hlt, p'⟩, fun x H' y => hs i x H H' hlt p (w.yields i H x H' hlt q y)⟩
  · have e : i = n := by omega
    subst e
    exact .inl ⟨w.stops H q, hd H p⟩
/-- where the loop stands, seen from its start; D: the list that is made -/
structure Lp (K : PySem.W.Frag) (Oa : Addr → Prop) (Ha : Hp) (σ : L2.St) (vs : List Nat) (sa : Sl) (D : Addr) (Oc : Addr → Prop) (Hc : Hp) (sc : Sl) (ws : List V) (acc : List Mi.D) : Prop where
  ok : Ok K Oc Hc (L2.wipe σ vs) sc
  sh : Shp sa sc
  up : ∀ a, Oa a → Oc a
  nw : ∀ a, Oc a → Oa a ∨ Ha a = none
  fr : ∀ a o, Ha a = some o → ¬ ownAd σ sa a → a ≠ D → Hc a = some o
  th : ∀ a, Ha a ≠ none → Hc a ≠ none
  hD : Hc D = some (.lst ws)
  da : DenAll K Oc Hc ws acc
section
variable {Oa Oc O3 O4 : Addr → Prop} {Ha Hc H3 H4 : Hp} {vs : List Nat} {sa sc sp st : Sl} {D : Addr} {ws : List V} {acc : List Mi.D} {σ2 : L2.St} {tg : Tg} {d : Mi.D}
/-- behind a store to the targets and what was done then -/
theorem Lp.turn (l : Lp K Oa Ha σ vs sa D Oc Hc sc ws acc) (he : ∀ i ∈ vs, sa[i]? = some .emp) (nD : ¬ ownAd σ sa D) (hix : ∀ i ∈ tg.ix, i ∈ vs) (tx : TX Hc H') (eP : putT tg d sc = some sp) (kp : Ok K Oc H' σ2 sp) (sb : SameBut tg.ix (L2.wipe σ vs) σ2)
    (g : Go K Oc H' σ2 sp O3 H3 st) : Lp K Oa Ha σ vs sa D O3 H3 (wipeS st vs) ws acc ∧ ¬ ownAd σ2 sp D ∧ L2.wipe σ2 vs = L2.wipe σ vs ∧ ∀ a, ownAd σ2 sp a → ownAd σ sa a := by
  have gx := tx.go l.ok
  have po := putT_ok tg d sc sp eP
  have ew : L2.wipe σ2 vs = L2.wipe σ vs := by rw [sb.wipe hix, wipe_wipe]
  have nO : ∀ a, ownAd σ2 sp a → ownAd σ sa a := fun a z => by
    have z1 := po.ow sb z
    have hec : ∀ i ∈ vs, sc[i]? = some .emp := fun i hi => (l.sh.2 i).1 (he i hi)
    have hlc : σ.length = sc.length := by
      have := l.ok.len
      rw [wipe_length] at this
      exact this
    exact (l.sh.ow σ a).mp ((ownAd_wipe hec hlc).mp z1)
  have nDo : ¬ ownAd σ2 sp D := fun z => nD (nO D z)
  refine ⟨⟨?_, turn_shp l.sh he po hix g.sh, fun a z => g.up a (l.up a z), fun a z => ?_, fun a o z n nd => g.fr a o (tx.kept a o (l.fr a o z n nd)) fun z => n (nO a z), fun a z => g.th a (gx.th a (l.th a z)), g.fr D _ (tx.kept D _ l.hD) nDo, g.denAll kp (gx.denAll l.ok l.da)⟩, nDo, ew, nO⟩
  · have := g.ok.wipe vs
    rw [ew] at this
    exact this
  · rcases g.nw a z with z | z
    · exact l.nw a z
    · refine .inr ?_
      cases q0 : Ha a with
      | none => rfl
      | some o => exact absurd z (gx.th a (l.th a (by rw [q0]; simp)))
/-- an item is put at the list's end -/
theorem Lp.put {v : V} {r : R} {z : Mi.D} (l : Lp K Oa Ha σ vs sa D O4 H4 (wipeS st vs) ws acc) (k : Ok K O4 H4 σ2 st) (ew : L2.wipe σ2 vs = L2.wipe σ vs) (dom : ∀ a, Oa a → Ha a ≠ none) (oD : Oa D) (nd : ¬ ownAd σ2 st D) (ra : RAt K O4 H4 σ2 st v r) (eS : r.sto = some z)
    (fresh : ∀ xs a, r = .new xs → v = .ref a → Ha a = none) : ∃ O5, Lp K Oa Ha σ vs sa D O5 (upd H4 D (.lst (ws ++ [v]))) (wipeS st vs) (ws ++ [v]) (acc ++ [z]) := by
  obtain ⟨O5, k5, l5, m5, d5⟩ := ra.keep k eS
  have O5of : ∀ a, Oa a → O5 a := fun a z => by
    rcases m5 a (l.up a z) with y | ⟨xs, z1, z2⟩
    · exact y
    · exact absurd (fresh xs a z1 z2) (dom a z)
  have D5 : O5 D := O5of D oD
  have da5 : DenAll K O5 H4 ws acc := l.da.fewer l5
  refine ⟨O5, ?_, l.sh, O5of, fun a z => l.nw a (l5 a z), fun a o z n nd => ?_, fun a z => ?_, upd_same, (da5.poke D5 l.hD).append (.cons (d5.poke D5 l.hD) .nil)⟩
  · have := (k5.poke (ws := ws ++ [v]) D5 l.hD nd).wipe vs
    rw [ew] at this
    exact this
  · rw [upd_ne nd]
    exact l.fr a o z n nd
  · unfold L2.upd
    split
    · simp
    · exact l.th a z
end
/-- the turns of a comprehension's own loop -/
theorem lc_go {cT : Sl → Option (Bool × Sl)} {cE : Sl → Option (R × Sl)} {tg : Tg} {vs : List Nat} (hix : ∀ i ∈ tg.ix, i ∈ vs) {Oa : Addr → Prop} {Ha : Hp} {sa s2 : Sl} {D : Addr} {ws0 : List V} {acc0 out ds : List Mi.D} {J : It} (ka : Ok K Oa Ha σ sa) (he : ∀ i ∈ vs, sa[i]? = some .emp) (oD : Oa D)
    (hD0 : Ha D = some (.lst ws0)) (nD : ¬ ownAd σ sa D) (da0 : DenAll K Oa Ha ws0 acc0) {G : Hp → Prop} {Y : Nat → Hp → V → Hp → Prop} (wk : Walk J ds.length G Y) (hG : ∀ H2, Kp σ sa (fun a => a = D) Ha H2 → G H2)
    (hY : ∀ i H2 x H3 O2, i < ds.length → Kp σ sa (fun a => a = D) Ha H2 → (∀ a, O2 a → Oa a ∨ Ha a = none) → (∀ a, O2 a → H2 a ≠ none) → Y i H2 x H3 → ∃ d, ds[i]? = some d ∧ TX H2 H3 ∧ Den K O2 H3 x d)
    (eC : compL vs (compF tg cT cE) ds acc0 sa = some (out, s2)) {Qd : Hp → Prop} (hq : ∀ Oc Hc ws, Ok K Oc Hc σ s2 → Lp K Oa Ha σ vs sa D Oc Hc s2 ws out → Qd Hc) :
    ∃ W : Nat → Nat → Hp → Prop, (∃ m, W 0 m Ha) ∧ ∀ i m H, W i m H → (J.stop i H ∧ Qd H) ∨ (J.go i H ∧ ∃ Nx : Hp → Prop, (∀ H', Nx H' → ∃ m', m' < m ∧ W (i + 1) m' H') ∧ ∀ x H', J.yld i H x H' → tG K tg x (L2.wipe σ vs) H' fun σ2 H2 => L2.wipe σ2 vs = L2.wipe σ vs ∧ tT K cT σ2 H2 fun b H3 =>
      if b = true then tE K cE σ2 H3 fun y H4 => ∃ acc, H4 D = some (.lst acc) ∧ acc.length < sizeLine ∧ Nx (upd H4 D (.lst (acc ++ [y]))) else Nx H3) := by
  generalize hf : compF tg cT cE = f at eC
  refine walk_it wk (fun x H' Nx => tG K tg x (L2.wipe σ vs) H' fun σ2 H2 => L2.wipe σ2 vs = L2.wipe σ vs ∧ tT K cT σ2 H2 fun b H3 =>
      if b = true then tE K cE σ2 H3 fun y H4 => ∃ acc, H4 D = some (.lst acc) ∧ acc.length < sizeLine ∧ Nx (upd H4 D (.lst (acc ++ [y]))) else Nx H3)
    (fun i Hc => ∃ Oc sc ws acc, Lp K Oa Ha σ vs sa D Oc Hc sc ws acc ∧ compL vs f (ds.drop i) acc sc = some (out, s2)) ?_ ?_ ?_ ?_
  · refine ⟨Oa, sa, ws0, acc0, ⟨?_, Shp.refl sa, fun _ z => z, fun _ z => .inl z, fun _ _ z _ _ => z, fun _ z => z, hD0, da0⟩, by simpa using eC⟩
    have := ka.wipe vs
    rw [wipeS_id he] at this
    exact this
  · rintro i Hc _ ⟨Oc, sc, ws, acc, l, eq⟩
    exact hG Hc fun a o z n nd => l.fr a o z n nd
  · rintro i x Hc H' hi ⟨Oc, sc, ws, acc, l, eq⟩ y
    obtain ⟨d, ed, tx, dx⟩ := hY i Hc x H' Oc hi (fun a o z n nd => l.fr a o z n nd) l.nw (fun a z => l.ok.dom a z) y
    have edr : ds.drop i = d :: ds.drop (i + 1) := by
      rw [List.drop_eq_getElem_cons hi]
      congr 1
      rw [List.getElem?_eq_getElem hi] at ed
      exact Option.some.inj ed
    rw [edr] at eq
    obtain ⟨⟨o, s3⟩, eF, eq⟩ := bnd eq
    rw [← hf] at eF
    obtain ⟨sp, eP, eF⟩ := bnd eF
    obtain ⟨⟨b, st⟩, eT, eF⟩ := bnd eF
    have gx := tx.go l.ok
    refine ⟨Oc, sc, d, sp, gx.ok, dx, eP, fun σ2 kp sb => ⟨by rw [sb.wipe hix, wipe_wipe], Oc, sp, b, st, kp, eT, fun O3 H3 g3 => ?_⟩⟩
    obtain ⟨l3, nd3, ew, _⟩ := l.turn he nD hix tx eP kp sb g3
    cases b with
    | false =>
      simp only [Bool.false_eq_true, if_false] at eF ⊢
      cases eF
      exact ⟨O3, wipeS s3 vs, ws, acc, l3, eq⟩
    | true =>
      simp only [if_true] at eF ⊢
      obtain ⟨⟨r, s4⟩, eE, eF⟩ := bnd eF
      obtain ⟨z, eS, eF⟩ := mpd eF
      cases eF
      simp only at eq
      split at eq
      · rename_i hz
        refine ⟨O3, st, r, s4, g3.ok, eE, fun O4 v H4 g4 ra fresh => ?_⟩
        obtain ⟨l4, _, _, _⟩ := l.turn he nD hix tx eP kp sb (g3.trans g4)
        have nd4 : ¬ ownAd σ2 s4 D := fun z => nd3 ((g3.sh.ow σ2 D).mp ((g4.sh.ow σ2 D).mp z))
        obtain ⟨O5, l5⟩ := l4.put g4.ok ew (fun a z => ka.dom a z) oD nd4 ra eS fun xs a e1 e2 => by
          cases q0 : Ha a with
          | none => rfl
          | some o => exact absurd (fresh xs a e1 e2) (l3.th a (by rw [q0]; simp))
        exact ⟨ws, l4.hD, by rw [l4.da.length]; exact hz, O5, wipeS s4 vs, ws ++ [v], acc ++ [z], l5, eq⟩
      · cases eq
  · rintro Hc ⟨Oc, sc, ws, acc, l, eq⟩
    rw [List.drop_length] at eq
    cases eq
    exact hq Oc Hc ws (l.ok.unwipe fun i hi => (l.sh.2 i).1 (he i hi)) l
/-! ### names that hold something stand aside -/
theorem isFree_iff {i : Nat} (h : isFree s i = true) : s[i]? = some .emp ∨ ∃ d, s[i]? = some (.val d) := by
  unfold isFree at h
  split at h
  · exact .inl (by assumption)
  · exact .inr ⟨_, by assumption⟩
  · cases h
theorem restS_len (s s2 : Sl) : ∀ vs : List Nat, (restS s s2 vs).length = s2.length
  | [] => rfl
  | v :: vs => by
    unfold restS
    rw [List.length_set, restS_len s s2 vs]
theorem restS_get (s s2 : Sl) (hl : s.length = s2.length) : ∀ (vs : List Nat) (i : Nat), i < s2.length → (restS s s2 vs)[i]? = if i ∈ vs then s[i]? else s2[i]?
  | [], i, hi => by simp [restS]
  | v :: vs, i, hi => by
    unfold restS
    by_cases e : v = i
    · subst e
      rw [List.getElem?_set_self (by rw [restS_len]; exact hi), if_pos List.mem_cons_self, List.getElem?_eq_getElem (by omega)]
      rfl
    · rw [List.getElem?_set_ne e, restS_get s s2 hl vs i hi]
      have : (i ∈ v :: vs) ↔ i ∈ vs := by
        rw [List.mem_cons]
        exact ⟨fun z => z.elim (fun z => absurd z.symm e) id, .inr⟩
      simp only [this]
theorem wipeS_own {vs : List Nat} {i : Nat} {p : Bool} {xs : List Mi.D} (h : (wipeS s vs)[i]? = some (.own p xs)) : i ∉ vs ∧ s[i]? = some (.own p xs) := by
  have hi : i < s.length := by
    have := (List.getElem?_eq_some_iff.mp h).1
    rw [wipeS_len] at this
    exact this
  rw [wipeS_get vs s i hi] at h
  split at h
  · cases h
  · rename_i n
    exact ⟨n, h⟩
theorem ownAd_wipeS {vs : List Nat} (hv : ∀ i ∈ vs, s[i]? = some .emp ∨ ∃ d, s[i]? = some (.val d)) (a : Addr) : ownAd σ (wipeS s vs) a ↔ ownAd σ s a := by
  constructor
  · rintro ⟨i, p, xs, e, e2⟩
    exact ⟨i, p, xs, (wipeS_own e).2, e2⟩
  · rintro ⟨i, p, xs, e, e2⟩
    refine ⟨i, p, xs, ?_, e2⟩
    rw [wipeS_get vs s i (List.getElem?_eq_some_iff.mp e).1, if_neg]
    · exact e
    · intro z
      rcases hv i z with y | ⟨d, y⟩ <;> rw [e] at y <;> cases y
theorem Ok.wipeS (k : Ok K O H σ s) (vs : List Nat) : Ok K O H σ (Mi.wipeS s vs) := by
  have away : ∀ (i : Nat) (x : Slot), (Mi.wipeS s vs)[i]? = some x → x ≠ .emp → s[i]? = some x := fun i x h n => by
    have hi : i < s.length := by
      have := (List.getElem?_eq_some_iff.mp h).1
      rw [wipeS_len] at this
      exact this
    rw [wipeS_get vs s i hi] at h
    split at h
    · cases h
      exact absurd rfl n
    · exact h
  refine ⟨by rw [wipeS_len]; exact k.len, fun i d h => k.val i d (away i _ h nofun), fun i p xs h => k.own i p xs (away i _ h nofun), fun i j p q xs ys a n h h' => k.ne i j p q xs ys a n (away i _ h nofun) (away j _ h' nofun), k.dom⟩
/-- the values that stood aside come back -/
theorem Go.rest {O1 O2 : Addr → Prop} {H1 H2 : Hp} {s1 s2 : Sl} {vs : List Nat} (k1 : Ok K O1 H1 σ s1) (hv : ∀ i ∈ vs, s1[i]? = some .emp ∨ ∃ d, s1[i]? = some (.val d)) (g : Go K O1 H1 σ (Mi.wipeS s1 vs) O2 H2 s2) : Go K O1 H1 σ s1 O2 H2 (restS s1 s2 vs) := by
  have kw := k1.wipeS vs
  have hl : s1.length = s2.length := by
    have := g.sh.1
    rw [wipeS_len] at this
    exact this
  have get := restS_get s1 s2 hl vs
  have lt : ∀ (i : Nat) (x : Slot), (restS s1 s2 vs)[i]? = some x → i < s2.length := fun i x h => by
    have := (List.getElem?_eq_some_iff.mp h).1
    rw [restS_len] at this
    exact this
  have own : ∀ (i : Nat) (p : Bool) (xs : List Mi.D), (restS s1 s2 vs)[i]? = some (.own p xs) → s2[i]? = some (.own p xs) := fun i p xs h => by
    rw [get i (lt i _ h)] at h
    split at h
    · rename_i z
      rcases hv i z with y | ⟨d, y⟩ <;> rw [h] at y <;> cases y
    · exact h
  refine ⟨⟨by rw [restS_len]; exact g.ok.len, fun i d h => ?_, fun i p xs h => g.ok.own i p xs (own i p xs h), fun i j p q xs ys a n h h' => g.ok.ne i j p q xs ys a n (own i p xs h) (own j q ys h'), g.ok.dom⟩, g.up, g.nw, fun a o e n => g.fr a o e fun z => n ((ownAd_wipeS hv a).mp z), g.th, by rw [restS_len]; exact hl, fun i => ?_⟩
  · have h0 := h
    rw [get i (lt i _ h)] at h
    split at h
    · obtain ⟨v, e, dd⟩ := k1.val i d h
      exact ⟨v, e, g.den kw dd⟩
    · exact g.ok.val i d h
  · by_cases hi : i < s2.length
    · rw [get i hi]
      split
      · exact ⟨fun z => z, fun _ z => z, fun p xs z => ⟨xs, z⟩⟩
      · rename_i n
        have e : (Mi.wipeS s1 vs)[i]? = s1[i]? := by rw [wipeS_get vs s1 i (by omega), if_neg n]
        have := g.sh.2 i
        rw [e] at this
        exact this
    · have e : s1[i]? = none := List.getElem?_eq_none (by omega)
      rw [e]
      exact ⟨nofun, nofun, nofun⟩
theorem free_own {own : List Nat} {s1 : Sl} (h : own.all (isFree s1) = true) : ∀ i ∈ own, s1[i]? = some .emp ∨ ∃ d, s1[i]? = some (.val d) := fun i hi => isFree_iff (List.all_eq_true.mp h i hi)
theorem wiped_emp {own : List Nat} {s1 : Sl} (h : own.all (isFree s1) = true) : ∀ i ∈ own, (wipeS s1 own)[i]? = some .emp := fun i hi => by
  have hi' : i < s1.length := by
    rcases free_own h i hi with z | ⟨d, z⟩ <;> exact (List.getElem?_eq_some_iff.mp z).1
  rw [wipeS_get own s1 i hi', if_pos hi]
/-- the end of a comprehension -/
theorem lc_end {O1 : Addr → Prop} {H1 : Hp} {s0 s1 s2 : Sl} {D : Addr} {own : List Nat} {out : List Mi.D} {Q : VK} (g1 : Go K O H σ s0 O1 H1 s1) (hv : ∀ i ∈ own, s1[i]? = some .emp ∨ ∃ d, s1[i]? = some (.val d)) (nD : H1 D = none) (q : Post K O H σ s0 (restS s1 s2 own) (.new out) Q)
    {Oc : Addr → Prop} {Hc : Hp} {ws : List V} (ku : Ok K Oc Hc σ s2) (l : Lp K (fun a => O1 a ∨ a = D) (upd H1 D (.lst [])) σ own (wipeS s1 own) D Oc Hc s2 ws out) : Q (.ref D) Hc := by
  have k1 := g1.ok
  have hn : ¬ ownAd σ s1 D := fun z => by
    obtain ⟨_, xs, e⟩ := k1.ow z
    rw [nD] at e
    cases e
  have HD : ∀ a o, H1 a = some o → (upd H1 D (.lst [])) a = some o := fun a o z => by
    rw [upd_ne (ne_of_none z nD)]
    exact z
  have DH : ∀ a, (upd H1 D (.lst [])) a = none → H1 a = none := fun a z => by
    unfold L2.upd at z
    split at z
    · cases z
    · exact z
  have gw : Go K O1 H1 σ (wipeS s1 own) Oc Hc s2 := ⟨ku, fun a z => l.up a (.inl z), fun a z => by
    rcases l.nw a z with (z | z) | z
    · exact .inl z
    · exact .inr (by rw [z]; exact nD)
    · exact .inr (DH a z), fun a o z n => l.fr a o (HD a o z) n (ne_of_none z nD), fun a z => l.th a (by
      cases q0 : H1 a with
      | none => exact absurd q0 z
      | some o => rw [HD a o q0]; simp), l.sh⟩
  have gr := gw.rest k1 hv
  have old : H D = none := by
    cases q0 : H D with
    | none => rfl
    | some o => exact absurd nD (g1.th D (by rw [q0]; simp))
  refine q Oc (.ref D) Hc (g1.trans gr) ⟨D, ws, rfl, l.up D (.inr rfl), ?_, l.hD, l.da⟩ fun xs a _ ev => ?_
  · exact fun z => hn ((gr.sh.ow σ D).mp z)
  · cases ev
    exact old
theorem laid_facts {O1 : Addr → Prop} {H1 : Hp} {D : Addr} (nD : H1 D = none) : (∀ a o, H1 a = some o → (upd H1 D (.lst [])) a = some o) ∧ ∀ a, (upd H1 D (.lst [])) a = none → H1 a = none := ⟨fun a o z => by
    rw [upd_ne (ne_of_none z nD)]
    exact z, fun a z => by
    unfold L2.upd at z
    split at z
    · cases z
    · exact z⟩
theorem none_own {O1 : Addr → Prop} {H1 : Hp} {s1 : Sl} {D : Addr} (k1 : Ok K O1 H1 σ s1) (nD : H1 D = none) : ¬ ownAd σ s1 D := fun z => by
  obtain ⟨_, xs, e⟩ := k1.ow z
  rw [nD] at e
  cases e
theorem tLc_of {cI : Sl → Option (List D × Sl)} {cT : Sl → Option (Bool × Sl)} {cE : Sl → Option (R × Sl)} {tg : Tg} {own : List Nat} (hix : ∀ i ∈ tg.ix, i ∈ own) (σ : L2.St) (H : Hp) (Q : VK)
    (h : tE K (fun s => (cI s).bind fun (ds, s1) => compD own (compF tg cT cE) ds s1) σ H Q) :
    tLc (tI K cI) (tG K tg) (tT K cT) (tE K cE) own σ H Q := by
  obtain ⟨O, s, r, s2, k, e, q⟩ := h
  obtain ⟨⟨ds, s1⟩, eI, e⟩ := bnd e
  simp only [compD] at e
  split at e
  · rename_i hem
    obtain ⟨⟨out, s2'⟩, eC, e⟩ := mpd e
    cases e
    refine ⟨O, s, ds, s1, k, eI, fun O1 H1 J g1 w D nD => ?_⟩
    obtain ⟨G, Y, wk, hG, hY⟩ := w (fun _ => False) (fun _ z => z.elim)
    have k1 := g1.ok
    have hv := free_own hem
    obtain ⟨HD, DH⟩ := laid_facts (O1 := O1) nD
    have kp1 : ∀ {H2}, Kp σ (wipeS s1 own) (fun a => a = D) (upd H1 D (.lst [])) H2 → Kp σ s1 (fun _ => False) H1 H2 := fun kp a o z n _ => kp a o (HD a o z) (fun y => n ((ownAd_wipeS hv a).mp y)) (ne_of_none z nD)
    exact lc_go (Oa := fun a => O1 a ∨ a = D) (Ha := upd H1 D (.lst [])) (sa := wipeS s1 own) (D := D) hix (Go.lay (k1.wipeS own) nD).ok (wiped_emp hem) (.inr rfl) upd_same (fun z => none_own k1 nD ((ownAd_wipeS hv D).mp z)) .nil wk (fun H2 kp => hG H2 (kp1 kp))
      (fun i H2 x H3 O2 hi kp nw dm y => hY i H2 x H3 O2 hi (kp1 kp) (fun a z => by
        rcases nw a z with (z | z) | z
        · exact .inl z
        · exact .inr (by rw [z]; exact nD)
        · exact .inr (DH a z)) dm y) eC fun Oc Hc ws ku l => lc_end g1 hv nD q ku l
  · cases e
/-- two for -/
theorem tLc2_of {cI cI1 : Sl → Option (List D × Sl)} {cE : Sl → Option (R × Sl)} {tg tg1 : Tg} {own : List Nat} (hix : ∀ i ∈ tg.ix, i ∈ own) (hix1 : ∀ i ∈ tg1.ix, i ∈ own) (hdj : ∀ i ∈ tg1.ix, i ∉ tg.ix) (σ : L2.St) (H : Hp) (Q : VK)
    (h : tE K (fun s => (cI s).bind fun (ds, s1) => comp2D own tg1.ix (fun d s => putT tg d s) cI1 (compF tg1 (fun s => some (true, s)) cE) ds s1) σ H Q) :
    tLc2 (tI K cI) (tG K tg) (tT K fun s => some (true, s)) (tI K cI1) (tG K tg1) (tT K fun s => some (true, s)) (tE K cE) own tg1.ix σ H Q := by
  obtain ⟨O, s, r, s2, k, e, q⟩ := h
  obtain ⟨⟨ds, s1⟩, eI, e⟩ := bnd e
  simp only [comp2D] at e
  split at e
  · rename_i hem
    obtain ⟨⟨out, s2'⟩, eC, e⟩ := mpd e
    cases e
    refine ⟨O, s, ds, s1, k, eI, fun O1 H1 J g1 w D nD => ?_⟩
    obtain ⟨G, Y, wk, hG, hY⟩ := w (fun _ => False) (fun _ z => z.elim)
    have k1 := g1.ok
    have hv := free_own hem
    obtain ⟨HD, DH⟩ := laid_facts (O1 := O1) nD
    have he := wiped_emp hem
    have nDw : ¬ ownAd σ (wipeS s1 own) D := fun z => none_own k1 nD ((ownAd_wipeS hv D).mp z)
    have ka := (Go.lay (p := D) (xs := []) (k1.wipeS own) nD).ok
    have kpl : ∀ {Oc Hc sc ws acc}, Lp K (fun a => O1 a ∨ a = D) (upd H1 D (.lst [])) σ own (wipeS s1 own) D Oc Hc sc ws acc → Kp σ s1 (fun _ => False) H1 Hc := fun l a o z n _ => l.fr a o (HD a o z) (fun y => n ((ownAd_wipeS hv a).mp y)) (ne_of_none z nD)
    generalize hf : compF tg1 (fun s => some (true, s)) cE = f at eC
    refine walk_it wk _ (fun i Hc => ∃ Oc sc ws acc, Lp K (fun a => O1 a ∨ a = D) (upd H1 D (.lst [])) σ own (wipeS s1 own) D Oc Hc sc ws acc ∧ comp2L own tg1.ix (fun d s => putT tg d s) cI1 f (ds.drop i) acc sc = some (out, s2')) ?_ ?_ ?_ ?_
    · refine ⟨_, wipeS s1 own, [], [], ⟨?_, Shp.refl _, fun _ z => z, fun _ z => .inl z, fun _ _ z _ _ => z, fun _ z => z, upd_same, .nil⟩, by simpa using eC⟩
      have := ka.wipe own
      rw [wipeS_id he] at this
      exact this
    · rintro i Hc _ ⟨Oc, sc, ws, acc, l, eq⟩
      exact hG Hc (kpl l)
    · rintro i x Hc H' hi ⟨Oc, sc, ws, acc, l, eq⟩ y
      obtain ⟨d, ed, tx, dx⟩ := hY i Hc x H' Oc hi (kpl l) (fun a z => by
        rcases l.nw a z with (z | z) | z
        · exact .inl z
        · exact .inr (by rw [z]; exact nD)
        · exact .inr (DH a z)) (fun a z => l.ok.dom a z) y
      have edr : ds.drop i = d :: ds.drop (i + 1) := by
        rw [List.drop_eq_getElem_cons hi]
        congr 1
        rw [List.getElem?_eq_getElem hi] at ed
        exact Option.some.inj ed
      rw [edr] at eq
      obtain ⟨sp, eP, eq⟩ := bnd eq
      obtain ⟨⟨es, sq⟩, eI1, eq⟩ := bnd eq
      obtain ⟨⟨acc', s3⟩, eC1, eq⟩ := bnd eq
      have gx := tx.go l.ok
      have po := putT_ok tg d sc sp eP
      refine ⟨Oc, sc, d, sp, gx.ok, dx, eP, fun σ2 kp sb => ⟨by rw [sb.wipe hix, wipe_wipe], Oc, sp, true, sp, kp, rfl, fun O3 H3 g3 => ?_⟩⟩
      simp only [if_true]
      refine ⟨O3, sp, es, sq, g3.ok, eI1, fun O4 H4 J1 g4 w1 => ?_⟩
      obtain ⟨l3, _, _, _⟩ := l.turn he nDw hix tx eP kp sb g3
      obtain ⟨l4, nd, ew, nO⟩ := l.turn he nDw hix tx eP kp sb (g3.trans g4)
      obtain ⟨G1, Y1, wk1, hG1, hY1⟩ := w1 (fun a => a = D) (fun a e => by
        subst e
        exact ⟨l4.up a (.inr rfl), by rw [l3.hD]; simp, ws, l4.hD⟩)
      have sh4 := (g3.trans g4).sh
      have nd4 : ¬ ownAd σ2 sq D := fun z => nd ((sh4.ow σ2 D).mp z)
      have he1 : ∀ i ∈ tg1.ix, sq[i]? = some .emp := fun i hi' => (sh4.2 i).1 (by rw [po.2.1 i (hdj i hi')]; exact (l.sh.2 i).1 (he i (hix1 i hi')))
      rw [← hf] at eC1
      refine lc_go (vs := tg1.ix) (fun _ z => z) g4.ok he1 (l4.up D (.inr rfl)) l4.hD nd4 l4.da wk1 hG1 hY1 eC1 fun O5 H5 ws5 k5 l5 => ⟨O5, wipeS s3 own, ws5, acc', ⟨?_, turn_shp l.sh he po hix (sh4.trans l5.sh), fun a z => l5.up a (l4.up a z), fun a z => ?_, fun a o z n nd => l5.fr a o (l4.fr a o z n nd) (fun y => n (nO a ((sh4.ow σ2 a).mp y))) nd, fun a z => l5.th a (l4.th a z), l5.hD, l5.da⟩, eq⟩
      · have := k5.wipe own
        rw [ew] at this
        exact this
      · rcases l5.nw a z with z | z
        · exact l4.nw a z
        · refine .inr ?_
          cases q0 : (upd H1 D (.lst [])) a with
          | none => rfl
          | some o => exact absurd z (l4.th a (by rw [q0]; simp))
    · rintro Hc ⟨Oc, sc, ws, acc, l, eq⟩
      rw [List.drop_length] at eq
      cases eq
      exact lc_end g1 hv nD q (l.ok.unwipe fun i hi => (l.sh.2 i).1 (he i hi)) l
  · cases e
end
end Mi

set_option Elab.async false
set_option linter.all false
set_option maxRecDepth 100000
/-! Mi: enumerate of a tuple. -/
namespace Mi
open PySem PySem.Spec PyProof.Rows L2

set_option maxHeartbeats 1000000 in
theorem meets_enum1 {v : Value} {o : Obj} {H : Heap → Prop} (B : Begins v o H) :
    Meets (Builtin.«enumerate.__new__» ⟨[.type "enumerate", v], []⟩) (fun _ R s => H s.heap ∧
      R (.ok (.ret (.ref (s.heap.push o).objs.size))) { s with heap := (s.heap.push o).push { cls := .type "enumerate", data := .fields #[.none, .bool false, .ref s.heap.objs.size, rawInt 0, .none, .none] } }) :=
  .of_wp fun prog w A R s h => by
    obtain ⟨hp, g, d, tk, os⟩ := s; obtain ⟨h1, h⟩ := h
    have hsub := sub_enumerate
    have q1 : ∀ {A' : Around} {E : Value → Shared → Prop} {Q : Value → Shared → Prop}, Q (.ref hp.objs.size) ⟨hp.push o, g, d, tk, os⟩ → wpAny (model prog w) A' (pyIter v) Q E ⟨hp, g, d, tk, os⟩ :=
      fun q => B.iter prog w _ _ ⟨hp, g, d, tk, os⟩ _ h1 q
    wp_walk using q1
    refine wpAny_stack_any fun st => wpAny_pure ?_
    split
    · rename_i c _ _ _ _ _
      cases (c == Value.type "enumerate")
      · wp_walk using q1
        exact ⟨_, rfl, h⟩
      · wp_walk using q1
        exact ⟨_, rfl, h⟩
    · wp_walk using q1
      exact ⟨_, rfl, h⟩
theorem enum1_begins {prog : Program} {w : World} {A : Around} {E : Value → Shared → Prop} {s : Shared} {v : Value} {o : Obj} {H : Heap → Prop} {Q : Value → Shared → Prop} (B : Begins v o H) (h1 : H s.heap)
    (h : ∀ h', IsEnum h' (s.heap.objs.size + 1) s.heap.objs.size 0 .none → h'.get? s.heap.objs.size = some o → h'.objs.size = s.heap.objs.size + 2 →
      (∀ b o, s.heap.get? b = some o → h'.get? b = some o) → Q (.ref (s.heap.objs.size + 1)) { s with heap := h' }) :
    wpAny (model prog w) A (call (.type "enumerate") [v]) Q E s := by
  refine callType_new F.called_enumerate (by decide) (F.typeCall_enumerate_1 _) (F.newCall_enumerate_1 _) (fun obj => F.args_object_init_2 obj _) F.entry_enumerate_new
    (meets_enum1 B) ⟨h1, ?_⟩
  have hz : (s.heap.push o).objs.size = s.heap.objs.size + 1 := Heap.size_push ..
  show _ ∧ _
  rw [hz]
  have he : IsEnum ((s.heap.push o).push { cls := .type "enumerate", data := .fields #[.none, .bool false, .ref s.heap.objs.size, rawInt 0, .none, .none] }) (s.heap.objs.size + 1) s.heap.objs.size 0 .none := by
    have := Heap.get?_push_size (s.heap.push o) (o := { cls := .type "enumerate", data := .fields #[.none, .bool false, .ref s.heap.objs.size, rawInt 0, .none, .none] }) rfl
    rw [hz] at this; exact this
  refine ⟨⟨_, he, rfl⟩, h _ he (Heap.get?_push_of_some _ (Heap.get?_push_size _ B.free)) (by rw [Heap.size_push, hz]) fun b o x => Heap.get?_push_of_some _ (Heap.get?_push_of_some _ x)⟩
/-- the tuple at a, each item in a new pair -/
def IteT (K : PySem.W.Frag) (a : Addr) : It :=
  ⟨fun i H => ∃ (xs : List V) (x : V), SqT K H a xs ∧ xs[i]? = some x, fun i H v H' => ∃ T x, v = .ref T ∧ H T = none ∧ H' = upd H T (.tup [.int (i : Nat), x]) ∧ ∀ xs, SqT K H a xs → xs[i]? = some x, fun i H => ∃ xs : List V, SqT K H a xs ∧ xs.length = i⟩
theorem turn_enumT {P : Program} {w : World} {K : PySem.W.Frag} {elts : List Expr} {kk : Nat} {tpos : Pos} (a e it : Addr) :
    Turn P w K (.Tuple elts kk tpos) (IteT K a) [e, it] e (fun i h => (∃ old, IsEnum h e it ((i : Nat) : Int) old) ∧ h.IsTupleIter it a i ∧ e ≠ it ∧ e ≠ a ∧ a ≠ it) where
  mem := by simp
  obj := fun i h st b hb => by
    obtain ⟨⟨old, he⟩, ⟨o, ho, hc, hd⟩, _⟩ := st
    have e' : b = e ∨ b = it := by simpa using hb
    rcases e' with z | z
    · rw [z]; exact ⟨_, he, fun v q => nomatch q⟩
    · rw [z]; exact ⟨o, ho, fun v q => by rw [hd] at q; cases q⟩
  keep := fun i h h' st k => let ⟨⟨old, he⟩, hi, hne⟩ := st; ⟨⟨old, k e (by simp) _ he⟩, hi.at fun o q => k it (by simp) o q, hne⟩
  item := by
    intro X hP hw hK hc i pins s σ H E I hf st hg
    subst hP hw hK
    obtain ⟨⟨old, he⟩, hit, hne, hea, hai⟩ := st
    obtain ⟨xs, x, hq, hx⟩ := hg
    obtain ⟨its, rv, p, hz⟩ := I.tuple hq
    have p : s.heap.IsTuple a its.toArray := p
    obtain ⟨u, hu, ru⟩ := rv.get hx
    have hel : e < s.heap.objs.size := Heap.lt_size he
    have hil : it < s.heap.objs.size := by obtain ⟨_, q, _⟩ := hit; exact Heap.lt_size q
    have hlt : i < its.toArray.size := by
      have := (List.getElem?_eq_some_iff.mp hu).1
      simpa using this
    refine wpAny_pyNext_enum_itemC (Draws.tuple (A := X.A.in1) (I.ok.hd hc) it a hai its.toArray) he ⟨hit, p⟩ hlt hne (by simp [hne, hea]) fun x' h' tk hP ho hst' hT hsz hk => ?_
    have ex : x' = u := by
      have : its.toArray[i]? = some u := by simpa using hu
      rw [this] at hP
      exact (Option.some.inj hP).symm
    subst ex
    refine ⟨_, rfl, wpAny_letOwnedTupleGo_enum (s := { s with heap := h', toks := tk + 1 }) ho fun h'' he' sb => ?_⟩
    have hT2 : h''.get? s.heap.objs.size = some { cls := .type "tuple", data := .seq #[.int i tk, x'] } := (sb.2 _ (Nat.ne_of_gt hel)).trans hT
    have new : ObjOk X.prog X.w (upd H s.heap.objs.size (.tup [.int (i : Nat), x])) h'' s.heap.objs.size (.tup [.int (i : Nat), x]) :=
      ⟨by show 2 ≤ sizeLine; decide, [.int i tk, x'], .cons ⟨_, rfl⟩ (.cons ru .nil), ⟨_, hT2, rfl, _, rfl⟩⟩
    have I1 : Inv X pins σ (upd H s.heap.objs.size (.tup [.int (i : Nat), x])) { s with heap := h'', toks := tk + 1 } :=
      I.turnedNew (ch := [e, it]) (fun b ob hb q => (sb.2 b (fun z => hb (by simp [z]))).trans (hk b ob (fun z => hb (by simp [z])) (fun z => hb (by simp [z])) q)) hf (Nat.le_refl _) new
    refine ⟨.ref s.heap.objs.size, _, I1, rfl, ⟨_, x, rfl, I.hok.fresh (Nat.le_refl _), rfl, fun ys hy => by rw [I.tuple_inj hy hq]; exact hx⟩, ⟨⟨x', ?_⟩, hst'.1.at fun o q => (sb.2 it (Ne.symm hne)).trans q, hne, hea, hai⟩, fun b hb => ?_⟩
    · have e1 : ((i + 1 : Nat) : Int) = (i : Int) + 1 := by omega
      rw [e1]; exact he'
    · have hb' : b < s.heap.objs.size := by
        have e' : b = e ∨ b = it := by simpa using hb
        rcases e' with z | z
        · rw [z]; exact hel
        · rw [z]; exact hil
      rw [upd_ne (Nat.ne_of_lt hb')]
      exact (hf b hb).1
  done := by
    intro X hP hw hK hc i pins s σ H E I hf st hg
    subst hP hw hK
    obtain ⟨⟨old, he⟩, hit, hne, hea, hai⟩ := st
    obtain ⟨xs, hq, hx⟩ := hg
    obtain ⟨its, rv, p, hz⟩ := I.tuple hq
    obtain ⟨f0, f1, f2, f3, f4, f5⟩ := hf it (by simp)
    have hl := rv.length
    exact wpAny_pyNext_enum_endD (Draws.tuple (A := X.A.in1) (I.ok.hd hc) it a hai its.toArray) he ⟨by
      have e9 : its.toArray.size = i := by
        rw [List.size_toArray]
        omega
      rw [e9]
      exact hit, p⟩ fun h' eb => ⟨rfl, I.turned (t' := s.toks) (fun b o hb q => eb b o hb q) f0 f1 f3 f4 f5⟩
  self := fun A i s Q E st h => let ⟨⟨_, he⟩, _⟩ := st; wpAny_pyIter_enum he h
def iEnumT (K : PySem.W.Frag) (ta : TA) : TI := fun σ H R => ta σ H fun vs H1 => ∃ a, vs = [.ref a] ∧ ((∃ xs, SqL K H1 a xs ∧ R (Ite K a) H1) ∨ ∃ xs, SqT K H1 a xs ∧ R (IteT K a) H1)
theorem pi_enumT {X : Cx} {e : Expr} {ta : TA} {p pos tpos : Pos} {elts : List Expr} {kk : Nat} (hg : Gl X "enumerate") (hm : X.mg "enumerate" = none) (ha : PA X [e] ta) (hs : starEach [e] X.env = [(false, eval e X.env)] := by rfl) :
    PI X (.Tuple elts kk tpos) (.Call (.Name "enumerate" p) [e] [] pos) (iEnumT X.K ta) := by
  refine ⟨fun pins s σ H R I h => ?_⟩
  refine Call_ (ld_blt I hg hm boot_enumerate (PyProof.Rows.callWith_type1 (thn (ha.run pos pins s σ H _ I h) fun us s1 ⟨vs, H1, I1, r1, q1⟩ => ?_) hs rfl))
  obtain ⟨a, ex, q1⟩ := q1
  subst ex
  cases r1 with
  | cons r rr =>
    cases rr
    cases r
    have fp : ∀ b ∈ [s1.heap.objs.size + 1, s1.heap.objs.size], s1.heap.objs.size ≤ b := fun b hb => by
      have e' : b = s1.heap.objs.size + 1 ∨ b = s1.heap.objs.size := by simpa using hb
      rcases e' with z | z
      · rw [z]; exact Nat.le_add_right _ _
      · rw [z]; exact Nat.le_refl _
    rcases q1 with ⟨xs, hq, q⟩ | ⟨xs, hq, q⟩
    · obtain ⟨its, rv, p', hz⟩ := I1.list hq
      refine call_enumerate_list p'.isList fun h' he hit hsz hk => wpAny_pyIter_enum he ?_
      have I2 : Inv X pins σ H1 { s1 with heap := h' } := I1.kept (t' := s1.toks) hk
      exact ⟨s1.heap.objs.size + 1, [s1.heap.objs.size + 1, s1.heap.objs.size], _, _, H1, rfl, I2, turn_enum a (s1.heap.objs.size + 1) s1.heap.objs.size, ⟨⟨.none, he⟩, hit, Nat.succ_ne_self _⟩, fun b hb => I1.fpOk (fp b hb) (I1.hok.fresh (fp b hb)), q⟩
    · obtain ⟨its, rv, p', hz⟩ := I1.tuple hq
      have p' : s1.heap.IsTuple a its.toArray := p'
      have hal : a < s1.heap.objs.size := by obtain ⟨_, q, _⟩ := p'; exact Heap.lt_size q
      refine enum1_begins (begins_tuple a its.toArray) p' fun h' he hit hsz hk => wpAny_pyIter_enum he ?_
      have I2 : Inv X pins σ H1 { s1 with heap := h' } := I1.kept (t' := s1.toks) hk
      exact ⟨s1.heap.objs.size + 1, [s1.heap.objs.size + 1, s1.heap.objs.size], _, _, H1, rfl, I2, turn_enumT a (s1.heap.objs.size + 1) s1.heap.objs.size, ⟨⟨.none, he⟩, ⟨_, hit, rfl, rfl⟩, Nat.succ_ne_self _, Nat.ne_of_gt (Nat.lt_succ_of_lt hal), Nat.ne_of_lt hal⟩, fun b hb => I1.fpOk (fp b hb) (I1.hok.fresh (fp b hb)), q⟩
theorem walk_enumT {K : PySem.W.Frag} {a : Addr} {xs : List V} : Walk (IteT K a) xs.length (fun H => SqT K H a xs) (YPair (fun i => some (.int (i : Nat))) (fun i => xs[i]?)) :=
  ⟨fun i _ hi q => ⟨xs, xs[i], q, by simp [hi]⟩, fun _ q => ⟨xs, q, rfl⟩, fun i H v H' _ q y => by
    obtain ⟨T, x, h1, h2, h3, h4⟩ := y
    exact ⟨T, _, x, h1, h2, h3, rfl, h4 xs q⟩⟩
theorem isw_enumT {K : PySem.W.Frag} {O : Addr → Prop} {H0 H : Hp} {σ : L2.St} {s : Sl} {a : Addr} {vs : List V} {ds : List D} (k : Ok K O H σ s) (ha : SqT K H a vs) (hd : DenAll K O H vs ds) :
    IsW K O H0 H σ s (IteT K a) (((rgD 0 ds.length).zip ds).map fun (p : D × D) => .tuple [p.1, p.2]) := by
  intro E hE
  have hn : (((rgD 0 ds.length).zip ds).map fun (p : D × D) => PyData.tuple [p.1, p.2]).length = vs.length := by rw [List.length_map, List.length_zip, rgD_len, hd.length, Nat.min_self]
  refine ⟨_, _, by rw [hn]; exact walk_enumT (xs := vs), fun H2 kp => sqt_kp hE k ha kp, fun i H2 x H3 O2 hi kp nw dm y => ?_⟩
  obtain ⟨t, x1, x2, rfl, n, rfl, e1, e2⟩ := y
  obtain ⟨d2, f2, g2⟩ := hd.getV e2
  have e1' : V.int (i : Nat) = x1 := Option.some.inj e1
  subst e1'
  refine ⟨.tuple [.int (i : Nat), d2], ?_, .inr ⟨t, _, n, rfl⟩, pair_den n (.int _) (Kp.den hE k g2 kp nw)⟩
  rw [List.getElem?_map, zipget (rgD_get 0 ds.length i (by rw [hn, hd.length] at hi; exact hi)) f2]
  simp
end Mi

set_option Elab.async false
set_option linter.all false
set_option maxRecDepth 100000
set_option maxHeartbeats 4000000
/-! Mi: expressions of the text. -/
namespace Mi
open PySem L2 PyProof.Rows

def As.len : As → Nat
  | .nil => 0
  | .v _ r => r.len + 1
  | .m _ r => r.len + 1
  | .n _ r => r.len + 1
def noCall : Expr → Bool
  | .Name .. => true
  | .Constant .. => true
  | _ => false
def noSet : Expr → Bool
  | .Set .. => false
  | _ => true
def isTup : Expr → Bool
  | .Tuple .. => true
  | _ => false
def kwNames (kws : List Keyword) : List Str := kws.filterMap (·.arg)
/-- tuple(range(..)), list(range(..)) taken apart -/
def rngV : Expr → Option (Str × Str × Option Expr × Expr)
  | .Call (.Name x _) [.Call (.Name y _) [u] [] _] [] _ => some (x, y, none, u)
  | .Call (.Name x _) [.Call (.Name y _) [t, u] [] _] [] _ => some (x, y, some t, u)
  | _ => none
theorem rngV_ok {e u : Expr} {x y : Str} {t : Option Expr} (h : rngV e = some (x, y, t, u)) : ∃ p p2 q q2, e = .Call (.Name x p) [.Call (.Name y p2) (t.toList ++ [u]) [] q2] [] q := by
  unfold rngV at h
  split at h
  · cases h
    exact ⟨_, _, _, _, rfl⟩
  · cases h
    exact ⟨_, _, _, _, rfl⟩
  · cases h
/-- range(..) -/
def rgVw : Expr → Option (Str × Option Expr × Expr)
  | .Call (.Name y _) [u] [] _ => some (y, none, u)
  | .Call (.Name y _) [t, u] [] _ => some (y, some t, u)
  | _ => none
theorem rgVw_ok {e u : Expr} {y : Str} {t : Option Expr} (h : rgVw e = some (y, t, u)) : ∃ p q, e = .Call (.Name y p) (t.toList ++ [u]) [] q := by
  unfold rgVw at h
  split at h
  · cases h
    exact ⟨_, _, rfl⟩
  · cases h
    exact ⟨_, _, rfl⟩
  · cases h
/-- f(a, b) -/
def c2V : Expr → Option (Str × Expr × Expr)
  | .Call (.Name y _) [t, u] [] _ => some (y, t, u)
  | _ => none
theorem c2V_ok {e t u : Expr} {y : Str} (h : c2V e = some (y, t, u)) : ∃ p q, e = .Call (.Name y p) [t, u] [] q := by
  unfold c2V at h
  split at h
  · cases h
    exact ⟨_, _, rfl⟩
  · cases h
/-- f(a) -/
def c1V : Expr → Option (Str × Expr)
  | .Call (.Name y _) [t] [] _ => some (y, t)
  | _ => none
theorem c1V_ok {e t : Expr} {y : Str} (h : c1V e = some (y, t)) : ∃ p q, e = .Call (.Name y p) [t] [] q := by
  unfold c1V at h
  split at h
  · cases h
    exact ⟨_, _, rfl⟩
  · cases h
def isiV : Expr → Option (Str × Expr × Str)
  | .Call (.Name y _) [t, .Name z _] [] _ => some (y, t, z)
  | _ => none
theorem isiV_ok {e t : Expr} {y z : Str} (h : isiV e = some (y, t, z)) : ∃ p pz q, e = .Call (.Name y p) [t, .Name z pz] [] q := by
  unfold isiV at h
  split at h
  · cases h
    exact ⟨_, _, _, rfl⟩
  · cases h
def lcV : Expr → Option (Expr × Expr × Expr × List Expr × Scope)
  | .ListComp elt [⟨t, i, ifs, 0⟩] scope _ => some (elt, t, i, ifs, scope)
  | _ => none
theorem lcV_ok {e elt t i : Expr} {ifs : List Expr} {scope : Scope} (h : lcV e = some (elt, t, i, ifs, scope)) : ∃ q, e = .ListComp elt [⟨t, i, ifs, 0⟩] scope q := by
  unfold lcV at h
  split at h
  · cases h
    exact ⟨_, rfl⟩
  · cases h
def lc2V : Expr → Option (Expr × Expr × Expr × Expr × Expr × Scope)
  | .ListComp elt [⟨t, i, [], 0⟩, ⟨t1, i1, [], 0⟩] scope _ => some (elt, t, i, t1, i1, scope)
  | _ => none
theorem lc2V_ok {e elt t i t1 i1 : Expr} {scope : Scope} (h : lc2V e = some (elt, t, i, t1, i1, scope)) : ∃ q, e = .ListComp elt [⟨t, i, [], 0⟩, ⟨t1, i1, [], 0⟩] scope q := by
  unfold lc2V at h
  split at h
  · cases h
    exact ⟨_, rfl⟩
  · cases h
def c3V : Expr → Option (Str × Expr × Expr × Expr)
  | .Call (.Name y _) [t, u, v] [] _ => some (y, t, u, v)
  | _ => none
theorem c3V_ok {e t u v : Expr} {y : Str} (h : c3V e = some (y, t, u, v)) : ∃ p q, e = .Call (.Name y p) [t, u, v] [] q := by
  unfold c3V at h
  split at h
  · cases h
    exact ⟨_, _, rfl⟩
  · cases h
def lsV : Expr → Option (Str × Str × Expr)
  | .Call (.Name y _) [.Call (.Name z _) [t] [] _] [] _ => some (y, z, t)
  | _ => none
theorem lsV_ok {e t : Expr} {y z : Str} (h : lsV e = some (y, z, t)) : ∃ p p2 q q2, e = .Call (.Name y p) [.Call (.Name z p2) [t] [] q2] [] q := by
  unfold lsV at h
  split at h
  · cases h
    exact ⟨_, _, _, _, rfl⟩
  · cases h
/-- f(..), f(.., k = v) -/
def cV : Expr → Option (Str × List Expr × List Keyword)
  | .Call (.Name x _) args kws _ => some (x, args, kws)
  | _ => none
theorem cV_ok {e : Expr} {x : Str} {args : List Expr} {kws : List Keyword} (h : cV e = some (x, args, kws)) : ∃ p q, e = .Call (.Name x p) args kws q := by
  unfold cV at h
  split at h
  · cases h
    exact ⟨_, _, rfl⟩
  · cases h
def ifV : List Expr → Option (Option Expr)
  | [] => some none
  | [e] => some (some e)
  | _ => none
theorem ifV_ok {l : List Expr} {o : Option Expr} (h : ifV l = some o) : l = o.toList := by
  unfold ifV at h
  split at h <;> first | (cases h; rfl) | cases h
def nmV (fs : List (Str × Nat)) (k : Nat) (x : Str) : Bool := match fs[k]? with
  | some (y, _) => decide (y = x)
  | none => false
theorem nmV_ok {fs : List (Str × Nat)} {k : Nat} {x : Str} (h : nmV fs k x = true) : ∃ n, fs[k]? = some (x, n) := by
  unfold nmV at h
  split at h
  · rename_i y n e
    have := of_decide_eq_true h
    subst this
    exact ⟨n, e⟩
  · cases h
section
variable (T : Stc)
mutual
def chkE : E → Expr → Scope → Bool
  | .slot i, e, sc => match e with
    | .Name x _ => decide (T.N[i]? = some x) && visB sc x && plainN x
    | _ => false
  | .lit c, e, _ => match e with
    | .Constant k _ _ => litB c k
    | _ => false
  | .gc j, e, sc => match e with
    | .Name x _ => decide (T.gs[j]? = some x) && glB sc x && plainN x
    | _ => false
  | .bin op a b, e, sc => match e with
    | .BinOp l o r _ => decide (o = op.py) && chkE a l sc && chkE b r sc
    | _ => false
  | .neg a, e, sc => match e with
    | .UnaryOp o x _ => decide (o = .USub) && chkE a x sc
    | _ => false
  | .not a, e, sc => match e with
    | .UnaryOp o x _ => decide (o = .Not) && chkE a x sc
    | _ => false
  | .and a b, e, sc => match e with
    | .BoolOp .And [l, r] _ => chkE a l sc && chkE b r sc
    | .BoolOp .And (l :: r :: r2 :: rest) pos => chkE a l sc && chkE b (.BoolOp .And (r :: r2 :: rest) pos) sc
    | _ => false
  | .or a b, e, sc => match e with
    | .BoolOp .Or [l, r] _ => chkE a l sc && chkE b r sc
    | .BoolOp .Or (l :: r :: r2 :: rest) pos => chkE a l sc && chkE b (.BoolOp .Or (r :: r2 :: rest) pos) sc
    | _ => false
  | .cmp op a b, e, sc => match e with
    | .Compare l [o] [r] _ => decide (o = op.py) && noSet r && chkE a l sc && chkE b r sc
    | _ => false
  | .cmp2 op op' a b c, e, sc => match e with
    | .Compare l [o, o'] [m, r] _ => decide (o = op.py) && decide (o' = op'.py) && noSet r && chkE a l sc && chkE b m sc && chkE c r sc
    | _ => false
  | .ite c a b, e, sc => match e with
    | .IfExp t x y _ => chkE c t sc && chkE a x sc && chkE b y sc
    | _ => false
  | .tup es, e, sc => match e with
    | .Tuple l _ _ => chkEs es l sc
    | _ => false
  | .lst es, e, sc => match e with
    | .List l _ => chkEs es l sc
    | _ => false
  | .ix a i, e, sc => match e with
    | .Subscript v x _ => chkE a v sc && chkE i x sc
    | _ => false
  | .sl a lo hi, e, sc => match e with
    | .Subscript v (.Slice l h none _) _ => chkE a v sc && chkOe lo l sc && chkOe hi h sc
    | _ => false
  | .f1 f a, e, sc => match e with
    | .Call (.Name x _) [y] [] _ => decide (x = f.nm) && glB sc x && chkE a y sc
    | _ => false
  | .f2 f a b, e, sc => match e with
    | .Call (.Name x _) [y, z] [] _ => decide (x = f.nm) && glB sc x && chkE a y sc && chkE b z sc
    | _ => false
  | .isT t a, e, sc => match isiV e with
    | some (x, y, z) => decide (x = "isinstance") && glB sc x && decide (z = t.nm) && glB sc z && chkE a y sc
    | none => false
  | .rng tup a b, e, sc => match rngV e with
    | some (x, y, t, u) => decide (x = if tup = true then "tuple" else "list") && glB sc x && decide (y = "range") && glB sc y && chkOe a t sc && chkE b u sc
    | none => false
  | .call k as, e, sc => match cV e with
    | some (x, args, kws) => kws.isEmpty && decide (T.fs[k]? = some (x, as.len)) && glB sc x && plainN x && chkA as args sc
    | none => false
  | .callK k as kw ks, e, sc => match cV e with
    | some (x, args, kws) => nmV T.fs k x && glB sc x && plainN x && decide ((k, as.len, kwNames kws, kw) ∈ T.kp) && chkA as args sc && chkK ks kws sc
    | none => false
  | .comp own tg it c e, x, sc => match lcV x with
    | some (elt, t, i, ifs, scope) => blkC T.N sc scope own && chkI it t i sc && noSet i && chkT T tg t (relS scope sc) (fun x => scope.names.lookup x == some .cell) &&
        (match ifV ifs with
        | some o => chkOe c o (relS scope sc)
        | none => false) && chkE e elt (relS scope sc) && tg.ix.all (fun i => (own.map (·.2)).contains i)
    | none => false
  | .m1 m a b, e, sc => false
  | .comp2 own tg it tg1 it1 e, x, sc => match lc2V x with
    | some (elt, t, i, t1, i1, scope) => blkC T.N sc scope own && chkI it t i sc && noSet i && chkT T tg t (relS scope sc) (fun x => scope.names.lookup x == some .cell) && chkI it1 t1 i1 (relS scope sc) && noSet i1 &&
        chkT T tg1 t1 (relS scope sc) (fun x => scope.names.lookup x == some .cell) && chkE e elt (relS scope sc) && tg.ix.all (fun i => (own.map (·.2)).contains i) && tg1.ix.all (fun i => (own.map (·.2)).contains i) && tg1.ix.all (fun i => !(tg.ix.contains i))
    | none => false
  | .min3 a b c, e, sc => match c3V e with
    | some (y, t, u, v) => decide (y = "min") && glB sc y && chkE a t sc && chkE b u sc && chkE c v sc
    | none => false
  | .nset a, e, sc => match lsV e with
    | some (y, z, t) => decide (y = "len") && glB sc y && decide (z = "set") && glB sc z && chkE a t sc
    | none => false
def chkEs : Es → List Expr → Scope → Bool
  | .nil, l, _ => l.isEmpty
  | .cons a r, l, sc => match l with
    | e :: es => chkE a e sc && notStar e && chkEs r es sc
    | [] => false
def chkK : Es → List Keyword → Scope → Bool
  | .nil, l, _ => l.isEmpty
  | .cons a r, l, sc => match l with
    | ⟨some _, e, _⟩ :: es => chkE a e sc && chkK r es sc
    | _ => false
def chkOe : Oe → Option Expr → Scope → Bool
  | .none, e, _ => e.isNone
  | .some a, e, sc => match e with
    | some e => chkE a e sc
    | none => false
def chkA : As → List Expr → Scope → Bool
  | .nil, l, _ => l.isEmpty
  | .v a r, l, sc => match l with
    | e :: es => chkE a e sc && notStar e && chkA r es sc
    | [] => false
  | .m i r, l, sc => match l with
    | .Name x _ :: es => decide (T.N[i]? = some x) && visB sc x && plainN x && chkA r es sc
    | _ => false
  | .n a r, l, sc => match l with
    | e :: es => chkE a e sc && notStar e && chkA r es sc
    | [] => false
def chkI : It' → Expr → Expr → Scope → Bool
  | .seq a, _, e, sc => chkE a e sc
  | .rng a b, _, e, sc => match rgVw e with
    | some (y, t, u) => decide (y = "range") && glB sc y && chkOe a t sc && chkE b u sc
    | none => false
  | .zip a b, tg, e, sc => match c2V e with
    | some (y, t, u) => isTup tg && decide (y = "zip") && glB sc y && chkE a t sc && chkE b u sc
    | none => false
  | .enum a, tg, e, sc => match c1V e with
    | some (y, t) => isTup tg && decide (y = "enumerate") && glB sc y && chkE a t sc
    | none => false
  | .rng3 a b c, _, e, sc => match c3V e with
    | some (y, t, u, v) => decide (y = "range") && glB sc y && chkE a t sc && chkE b u sc && chkE c v sc
    | none => false
end
end
theorem chkE_star {T : Stc} {a : E} {e : Expr} {sc : Scope} (h : chkE T a e sc = true) : notStar e = true := by
  cases e <;> first | rfl | (cases a <;> exact absurd h Bool.false_ne_true)
example (T : Stc) (a b : E) (l r : Expr) (p : Pos) (sc : Scope) : chkE T (.bin .add a b) (.BinOp l .Add r p) sc = (decide (Operator.Add = BOp.add.py) && chkE T a l sc && chkE T b r sc) := rfl
end Mi

set_option Elab.async false
set_option linter.all false
set_option maxRecDepth 100000
set_option maxHeartbeats 4000000
/-! Mi: the readings of expressions. -/
namespace Mi
open PySem L2 PyProof.Rows

section
variable {K : PySem.W.Frag} {O O2 : Addr → Prop} {H H2 : Hp} {σ : L2.St} {s s' s2 : Sl} {Q : VK} {r : R}
theorem Go.old (g : Go K O H σ s O2 H2 s2) (a : Addr) (h : H2 a = none) : H a = none := by
  cases q0 : H a with
  | none => rfl
  | some o => exact absurd h (g.th a (by rw [q0]; simp))
theorem Post.behind (q : Post K O H σ s s' r Q) (g : Go K O H σ s O2 H2 s2) : Post K O2 H2 σ s2 s' r Q :=
  fun O' v H' g' ra fr => q O' v H' (g.trans g') ra fun xs a e ev => g.old a (fr xs a e ev)
variable {ca cb cc : Sl → Option (R × Sl)}
theorem rd_op {r2 : R2} {f : D → D → Option R} (hf : OpS K r2 f)
    (h : tE K (fun s => (ca s).bind fun (ra, s1) => (cb s1).bind fun (rb, s2) => (ra.get s2).bind fun x => (rb.get s2).bind fun y => (f x y).map fun r => (r, s2)) σ H Q) : tOp r2 (tE K ca) (tE K cb) σ H Q := by
  obtain ⟨O, s, r, s', k, e, q⟩ := h
  obtain ⟨⟨ra, s1⟩, ea, e⟩ := bnd e
  obtain ⟨⟨rb, s2⟩, eb, e⟩ := bnd e
  obtain ⟨x, ex, e⟩ := bnd e
  obtain ⟨y, ey, e⟩ := bnd e
  obtain ⟨res, ef, e⟩ := mpd e
  cases e
  exact ⟨O, s, ra, s1, k, ea, fun O1 v1 H1 g1 r1 f1 => ⟨O1, s1, rb, _, g1.ok, eb, fun O2 v2 H2 g2 r2 f2 =>
    hf O2 H2 σ _ v1 v2 x y r Q g2.ok ((g2.rat g1.ok r1).top g2.ok ex) (r2.top g2.ok ey) ef (q.behind (g1.trans g2))⟩⟩
theorem rd_cmp {r2 : R2} {f : D → D → Option Bool} (hf : OpB K r2 f)
    (h : tE K (fun s => (ca s).bind fun (ra, s1) => (cb s1).bind fun (rb, s2) => (ra.get s2).bind fun x => (rb.get s2).bind fun y => (f x y).map fun r => (.val (.bool r), s2)) σ H Q) : tOp r2 (tE K ca) (tE K cb) σ H Q := by
  obtain ⟨O, s, r, s', k, e, q⟩ := h
  obtain ⟨⟨ra, s1⟩, ea, e⟩ := bnd e
  obtain ⟨⟨rb, s2⟩, eb, e⟩ := bnd e
  obtain ⟨x, ex, e⟩ := bnd e
  obtain ⟨y, ey, e⟩ := bnd e
  obtain ⟨res, ef, e⟩ := mpd e
  cases e
  exact ⟨O, s, ra, s1, k, ea, fun O1 v1 H1 g1 r1 f1 => ⟨O1, s1, rb, _, g1.ok, eb, fun O2 v2 H2 g2 r2 f2 =>
    hf O2 H2 σ _ v1 v2 x y res Q g2.ok ((g2.rat g1.ok r1).top g2.ok ex) (r2.top g2.ok ey) ef ((q.behind (g1.trans g2)).val g2.ok (.bl _))⟩⟩
theorem rd_chain {r2 r2' : R2} {f f' : D → D → Option Bool} (hf : OpB K r2 f) (hf' : OpB K r2' f')
    (h : tE K (fun s => (ca s).bind fun (ra, s1) => (cb s1).bind fun (rb, s2) => (ra.get s2).bind fun x => (rb.get s2).bind fun y => (f x y).bind fun k =>
      if k = true then (cc s2).bind fun (rc, s3) => (rb.get s3).bind fun y => (rc.get s3).bind fun z => (f' y z).map fun k' => (.val (.bool k'), s3) else some (.val (.bool false), s2)) σ H Q) : tChain r2 r2' (tE K ca) (tE K cb) (tE K cc) σ H Q := by
  obtain ⟨O, s, r, s', k, e, q⟩ := h
  obtain ⟨⟨ra, s1⟩, ea, e⟩ := bnd e
  obtain ⟨⟨rb, s2⟩, eb, e⟩ := bnd e
  obtain ⟨x, ex, e⟩ := bnd e
  obtain ⟨y, ey, e⟩ := bnd e
  obtain ⟨b, ef, e⟩ := bnd e
  refine ⟨O, s, ra, s1, k, ea, fun O1 v1 H1 g1 r1 f1 => ⟨O1, s1, rb, _, g1.ok, eb, fun O2 v2 H2 g2 r2 f2 =>
    hf O2 H2 σ _ v1 v2 x y b _ g2.ok ((g2.rat g1.ok r1).top g2.ok ex) (r2.top g2.ok ey) ef ⟨b, rfl, ?_⟩⟩⟩
  cases b with
  | false =>
    simp only [Bool.false_eq_true, if_false] at e ⊢
    cases e
    exact (q.behind (g1.trans g2)).val g2.ok (.bl _)
  | true =>
    simp only [if_true] at e ⊢
    obtain ⟨⟨rc, s3⟩, ec, e⟩ := bnd e
    obtain ⟨y', ey', e⟩ := bnd e
    obtain ⟨z, ez, e⟩ := bnd e
    obtain ⟨b', ef', e⟩ := mpd e
    cases e
    exact ⟨O2, s2, rc, _, g2.ok, ec, fun O3 v3 H3 g3 r3 f3 => hf' O3 H3 σ _ v2 v3 y' z b' Q g3.ok ((g3.rat g2.ok r2).top g3.ok ey') (r3.top g3.ok ez) ef' ((q.behind ((g1.trans g2).trans g3)).val g3.ok (.bl _))⟩
def evB (c : Sl → Option (R × Sl)) : Sl → Option (Bool × Sl) := fun s => (c s).bind fun (r, s1) => (toB r).map fun b => (b, s1)
theorem toB_val {r : R} {b : Bool} (e : toB r = some b) : r = .val (.bool b) := by
  unfold toB at e
  split at e
  · cases e
    rfl
  · cases e
/-- a test by its value -/
theorem rd_tB (h : tT K (evB ca) σ H (fun b H' => Q (.bl b) H')) : tE K ca σ H Q := by
  obtain ⟨O, s, b, s', k, e, q⟩ := h
  obtain ⟨⟨ra, s1⟩, ea, e⟩ := bnd e
  obtain ⟨b', eb, e⟩ := mpd e
  cases e
  have er := toB_val eb
  subst er
  refine ⟨O, s, _, _, k, ea, fun O1 v1 H1 g1 r1 f1 => ?_⟩
  have e1 : v1 = .bl b := by
    cases r1
    rfl
  subst e1
  exact q O1 H1 g1
theorem rd_B {Q : Bool → Hp → Prop} (h : tT K (evB ca) σ H Q) : tB (tE K ca) σ H Q := by
  obtain ⟨O, s, b, s', k, e, q⟩ := h
  exact rd_tB (Q := fun x H' => ∃ c, x = .bl c ∧ Q c H') ⟨O, s, b, s', k, e, fun O' H' g => ⟨b, rfl, q O' H' g⟩⟩
theorem rd_test {t : TE} {c : Sl → Option (R × Sl)} {Q : Bool → Hp → Prop} (i : ∀ Q' : VK, tE K c σ H Q' → t σ H Q') (h : tT K (evB c) σ H Q) : tTest t σ H Q := by
  obtain ⟨O, s, b, s', k, e, q⟩ := h
  exact i _ (rd_tB (Q := fun x H' => ∃ c, x = .bl c ∧ Q c H') ⟨O, s, b, s', k, e, fun O' H' g => ⟨b, rfl, q O' H' g⟩⟩)
theorem rd_not {Q : Bool → Hp → Prop} (h : tT K (evB fun s => (ca s).bind fun (ra, s1) => (toB ra).map fun b => (.val (.bool !b), s1)) σ H Q) : tNot (tT K (evB ca)) σ H Q := by
  obtain ⟨O, s, b, s', k, e, q⟩ := h
  obtain ⟨⟨r, s2⟩, e1, e⟩ := bnd e
  obtain ⟨⟨ra, s1⟩, ea, e1⟩ := bnd e1
  obtain ⟨b1, eb1, e1⟩ := mpd e1
  cases e1
  cases e
  exact ⟨O, s, b1, _, k, by show (ca s).bind _ = _; rw [ea]; show (toB ra).map _ = _; rw [eb1]; rfl, fun O1 H1 g1 => q O1 H1 g1⟩
theorem rd_notV (h : tE K (fun s => (ca s).bind fun (ra, s1) => (toB ra).map fun b => (.val (.bool !b), s1)) σ H Q) : tNotV (tE K ca) σ H Q := by
  obtain ⟨O, s, r, s', k, e, q⟩ := h
  obtain ⟨⟨ra, s1⟩, ea, e⟩ := bnd e
  obtain ⟨b, eb, e⟩ := mpd e
  cases e
  have er := toB_val eb
  subst er
  refine ⟨O, s, _, s', k, ea, fun O1 v1 H1 g1 r1 f1 => ⟨b, ?_, (q.behind g1).val g1.ok (.bl _)⟩⟩
  cases r1
  rfl
theorem rd_andV (h : tE K (fun s => (ca s).bind fun (ra, s1) => (toB ra).bind fun c => if c = true then (cb s1).bind fun (rb, s2) => (toB rb).map fun c => (.val (.bool c), s2) else some (.val (.bool false), s1)) σ H Q) : tAndV (tE K ca) (tE K cb) σ H Q := by
  obtain ⟨O, s, r, s', k, e, q⟩ := h
  obtain ⟨⟨ra, s1⟩, ea, e1⟩ := bnd e
  obtain ⟨b, eb, e2⟩ := bnd e1
  clear e e1
  have er := toB_val eb
  subst er
  refine ⟨O, s, _, s1, k, ea, fun O1 v1 H1 g1 r1 f1 => ⟨b, by cases r1; rfl, ?_⟩⟩
  cases b with
  | false =>
    simp only [Bool.false_eq_true, if_false] at e2 ⊢
    cases e2
    exact (q.behind g1).val g1.ok (.bl _)
  | true =>
    simp only [if_true] at e2 ⊢
    obtain ⟨⟨rb, s2⟩, eb', e3⟩ := bnd e2
    obtain ⟨b', eb2, e4⟩ := mpd e3
    cases e4
    have er := toB_val eb2
    subst er
    exact ⟨O1, s1, _, _, g1.ok, eb', q.behind g1⟩
theorem rd_orV (h : tE K (fun s => (ca s).bind fun (ra, s1) => (toB ra).bind fun c => if c = true then some (.val (.bool true), s1) else (cb s1).bind fun (rb, s2) => (toB rb).map fun c => (.val (.bool c), s2)) σ H Q) : tOrV (tE K ca) (tE K cb) σ H Q := by
  obtain ⟨O, s, r, s', k, e, q⟩ := h
  obtain ⟨⟨ra, s1⟩, ea, e1⟩ := bnd e
  obtain ⟨b, eb, e2⟩ := bnd e1
  clear e e1
  have er := toB_val eb
  subst er
  refine ⟨O, s, _, s1, k, ea, fun O1 v1 H1 g1 r1 f1 => ⟨b, by cases r1; rfl, ?_⟩⟩
  cases b with
  | true =>
    simp only [if_true] at e2 ⊢
    cases e2
    exact (q.behind g1).val g1.ok (.bl _)
  | false =>
    simp only [Bool.false_eq_true, if_false] at e2 ⊢
    obtain ⟨⟨rb, s2⟩, eb', e3⟩ := bnd e2
    obtain ⟨b', eb2, e4⟩ := mpd e3
    cases e4
    have er := toB_val eb2
    subst er
    exact ⟨O1, s1, _, _, g1.ok, eb', q.behind g1⟩
theorem rd_and {Q : Bool → Hp → Prop} (h : tT K (evB fun s => (ca s).bind fun (ra, s1) => (toB ra).bind fun c => if c = true then (cb s1).bind fun (rb, s2) => (toB rb).map fun c => (.val (.bool c), s2) else some (.val (.bool false), s1)) σ H Q) : tAnd (tT K (evB ca)) (tT K (evB cb)) σ H Q := by
  obtain ⟨O, s, b, s', k, e, q⟩ := h
  obtain ⟨⟨r, s2⟩, e1, e⟩ := bnd e
  obtain ⟨⟨ra, s1⟩, ea, e1⟩ := bnd e1
  obtain ⟨b1, eb1, e1⟩ := bnd e1
  refine ⟨O, s, b1, s1, k, by show (ca s).bind _ = _; rw [ea]; show (toB ra).map _ = _; rw [eb1]; rfl, fun O1 H1 g1 => ?_⟩
  cases b1 with
  | false =>
    simp only [Bool.false_eq_true, if_false] at e1 ⊢
    cases e1
    cases e
    exact q O1 H1 g1
  | true =>
    simp only [if_true] at e1 ⊢
    obtain ⟨⟨rb, s3⟩, eb', e1⟩ := bnd e1
    obtain ⟨b', eb2, e1⟩ := mpd e1
    cases e1
    cases e
    exact ⟨O1, s1, b, _, g1.ok, by show (cb s1).bind _ = _; rw [eb']; show (toB rb).map _ = _; rw [eb2]; rfl, fun O2 H2 g2 => q O2 H2 (g1.trans g2)⟩
theorem rd_or {Q : Bool → Hp → Prop} (h : tT K (evB fun s => (ca s).bind fun (ra, s1) => (toB ra).bind fun c => if c = true then some (.val (.bool true), s1) else (cb s1).bind fun (rb, s2) => (toB rb).map fun c => (.val (.bool c), s2)) σ H Q) : tOr (tT K (evB ca)) (tT K (evB cb)) σ H Q := by
  obtain ⟨O, s, b, s', k, e, q⟩ := h
  obtain ⟨⟨r, s2⟩, e1, e⟩ := bnd e
  obtain ⟨⟨ra, s1⟩, ea, e1⟩ := bnd e1
  obtain ⟨b1, eb1, e1⟩ := bnd e1
  refine ⟨O, s, b1, s1, k, by show (ca s).bind _ = _; rw [ea]; show (toB ra).map _ = _; rw [eb1]; rfl, fun O1 H1 g1 => ?_⟩
  cases b1 with
  | true =>
    simp only [if_true] at e1 ⊢
    cases e1
    cases e
    exact q O1 H1 g1
  | false =>
    simp only [Bool.false_eq_true, if_false] at e1 ⊢
    obtain ⟨⟨rb, s3⟩, eb', e1⟩ := bnd e1
    obtain ⟨b', eb2, e1⟩ := mpd e1
    cases e1
    cases e
    exact ⟨O1, s1, b, _, g1.ok, by show (cb s1).bind _ = _; rw [eb']; show (toB rb).map _ = _; rw [eb2]; rfl, fun O2 H2 g2 => q O2 H2 (g1.trans g2)⟩
theorem rd_ite (h : tE K (fun s => (ca s).bind fun (rc, s1) => (toB rc).bind fun k => if k = true then cb s1 else cc s1) σ H Q) : tIf (tT K (evB ca)) (tE K cb) (tE K cc) σ H Q := by
  obtain ⟨O, s, r, s', k, e, q⟩ := h
  obtain ⟨⟨ra, s1⟩, ea, e⟩ := bnd e
  obtain ⟨b, eb, e⟩ := bnd e
  refine ⟨O, s, b, s1, k, by show (ca s).bind _ = _; rw [ea]; show (toB ra).map _ = _; rw [eb]; rfl, fun O1 H1 g1 => ?_⟩
  cases b with
  | true =>
    simp only [if_true] at e ⊢
    exact ⟨O1, s1, _, _, g1.ok, e, q.behind g1⟩
  | false =>
    simp only [Bool.false_eq_true, if_false] at e ⊢
    exact ⟨O1, s1, _, _, g1.ok, e, q.behind g1⟩
/-- a if t else b as a test -/
def tIfB (t u v : TT) : TT := fun σ H Q => t σ H fun c H1 => if c = true then u σ H1 Q else v σ H1 Q
theorem pt_ite {X : Cx} {t u v : TT} {a b c : Expr} {pos : Pos} (hc : PT X c t) (ha : PT X a u) (hb : PT X b v) : PT X (.IfExp c a b pos) (tIfB t u v) := by
  refine ⟨fun pins s σ H Q I h => isTrue_IfExp (thn (hc.run pins s σ H _ I h) fun d s1 ⟨H1, I1, q1⟩ => ?_)⟩
  cases d with
  | true => exact ha.run pins s1 σ H1 Q I1 q1
  | false => exact hb.run pins s1 σ H1 Q I1 q1
theorem rd_iteB {Q : Bool → Hp → Prop} (h : tT K (evB fun s => (ca s).bind fun (rc, s1) => (toB rc).bind fun k => if k = true then cb s1 else cc s1) σ H Q) : tIfB (tT K (evB ca)) (tT K (evB cb)) (tT K (evB cc)) σ H Q := by
  obtain ⟨O, s, b, s', k, e, q⟩ := h
  obtain ⟨⟨r, s2⟩, e1, e⟩ := bnd e
  obtain ⟨⟨ra, s1⟩, ea, e1⟩ := bnd e1
  obtain ⟨b1, eb1, e1⟩ := bnd e1
  refine ⟨O, s, b1, s1, k, by show (ca s).bind _ = _; rw [ea]; show (toB ra).map _ = _; rw [eb1]; rfl, fun O1 H1 g1 => ?_⟩
  cases b1 with
  | true =>
    simp only [if_true] at e1 ⊢
    exact ⟨O1, s1, b, _, g1.ok, by show (cb s1).bind _ = _; rw [e1]; exact e, fun O2 H2 g2 => q O2 H2 (g1.trans g2)⟩
  | false =>
    simp only [Bool.false_eq_true, if_false] at e1 ⊢
    exact ⟨O1, s1, b, _, g1.ok, by show (cc s1).bind _ = _; rw [e1]; exact e, fun O2 H2 g2 => q O2 H2 (g1.trans g2)⟩
/-! ### argument lists -/
variable {cs : Sl → Option (List D × Sl)}
theorem rd_nil {Q : List V → Hp → Prop} (h : tEs K (fun s => some ([], s)) σ H Q) : tNil σ H Q := by
  obtain ⟨O, s, ds, s', k, e, q⟩ := h
  cases e
  exact q O [] H (Go.refl k) .nil
theorem rd_cons {Q : List V → Hp → Prop} (h : tEs K (fun s => (ca s).bind fun (r, s1) => r.sto.bind fun d => (cs s1).map fun (ds, s2) => (d :: ds, s2)) σ H Q) : tCons (tE K ca) (tEs K cs) σ H Q := by
  obtain ⟨O, s, ds, s', k, e, q⟩ := h
  obtain ⟨⟨r, s1⟩, ea, e⟩ := bnd e
  obtain ⟨d, ed, e⟩ := bnd e
  obtain ⟨⟨ds', s2⟩, es, e⟩ := mpd e
  cases e
  refine ⟨O, s, r, s1, k, ea, fun O1 v1 H1 g1 r1 f1 => ?_⟩
  obtain ⟨O5, k5, l5, m5, d5⟩ := r1.keep g1.ok ed
  have up5 : ∀ a, O a → O5 a := fun a z => by
    rcases m5 a (g1.up a z) with z' | ⟨xs, z1, z2⟩
    · exact z'
    · exact absurd (f1 xs a z1 z2) (k.dom a z)
  have g5 : Go K O H σ s O5 H1 s1 := ⟨k5, up5, fun a z => g1.nw a (l5 a z), g1.fr, g1.th, g1.sh⟩
  exact ⟨O5, s1, ds', s', k5, es, fun O2 vs H2 g2 dv => q O2 (v1 :: vs) H2 (g5.trans g2) (.cons (g2.den k5 d5) dv)⟩
theorem rd_tup (h : tE K (fun s => (cs s).bind fun (ds, s1) => if ds.length ≤ sizeLine then some (.val (.tuple ds), s1) else none) σ H Q) : tTup (tEs K cs) σ H Q := by
  obtain ⟨O, s, r, s', k, e, q⟩ := h
  obtain ⟨⟨ds, s1⟩, es, e⟩ := bnd e
  simp only at e
  split at e
  · rename_i hz
    cases e
    refine ⟨O, s, ds, s', k, es, fun O1 vs H1 g1 dv => ⟨by rw [dv.length]; exact hz, fun p n => ?_⟩⟩
    exact (q.behind g1).tup g1.ok dv n
  · cases e
theorem rd_lst (h : tE K (fun s => (cs s).bind fun (ds, s1) => if ds.length ≤ sizeLine then some (.new ds, s1) else none) σ H Q) : tLst (tEs K cs) σ H Q := by
  obtain ⟨O, s, r, s', k, e, q⟩ := h
  obtain ⟨⟨ds, s1⟩, es, e⟩ := bnd e
  simp only at e
  split at e
  · rename_i hz
    cases e
    refine ⟨O, s, ds, s', k, es, fun O1 vs H1 g1 dv => ⟨by rw [dv.length]; exact hz, fun p n => ?_⟩⟩
    exact (q.behind g1).new g1.ok dv n
  · cases e
/-! ### items, slices, built-in calls -/
theorem rd_ix {r2 : R2} (hf : IxS K r2 ixD) (h : tE K (fun s => (ca s).bind fun (ra, s1) => (cb s1).bind fun (rb, s2) => (ra.get s2).bind fun x => (rb.get s2).bind fun y => (ixD x y).map fun d => (.val d, s2)) σ H Q) : tOp r2 (tE K ca) (tE K cb) σ H Q := by
  obtain ⟨O, s, r, s', k, e, q⟩ := h
  obtain ⟨⟨ra, s1⟩, ea, e⟩ := bnd e
  obtain ⟨⟨rb, s2⟩, eb, e⟩ := bnd e
  obtain ⟨x, ex, e⟩ := bnd e
  obtain ⟨y, ey, e⟩ := bnd e
  obtain ⟨d, ef, e⟩ := mpd e
  cases e
  exact ⟨O, s, ra, s1, k, ea, fun O1 v1 H1 g1 r1 f1 => ⟨O1, s1, rb, _, g1.ok, eb, fun O2 v2 H2 g2 r2 f2 =>
    hf O2 H2 σ _ v1 v2 x y d Q g2.ok ((g2.rat g1.ok r1).top g2.ok ex) (r2.top g2.ok ey) ef fun v hv => (q.behind (g1.trans g2)).val g2.ok hv⟩⟩
def tOi (K : PySem.W.Frag) (c : Sl → Option (Option Int × Sl)) : TO := fun σ H Q => ∃ O s o s', Ok K O H σ s ∧ c s = some (o, s') ∧ ∀ O' H', Go K O H σ s O' H' s' → Q o H'
theorem rd_oi {Q : Option Int → Hp → Prop} (h : tOi K (fun s => (ca s).bind fun (r, s1) => match r with
    | .val (.int i) => some (some i, s1)
    | _ => none) σ H Q) : tPart (tE K ca) σ H Q := by
  obtain ⟨O, s, o, s', k, e, q⟩ := h
  obtain ⟨⟨r, s1⟩, ea, e⟩ := bnd e
  simp only at e
  split at e
  · cases e
    refine ⟨O, s, _, s', k, ea, fun O1 v1 H1 g1 r1 f1 => ⟨_, ?_, q O1 H1 g1⟩⟩
    cases r1
    rfl
  · cases e
theorem rd_sl {r3 : V → Option Int → Option Int → Hp → VK → Prop} {cl ch : Sl → Option (Option Int × Sl)} (hf : SlS K r3 slD) (h : tE K (fun s => (ca s).bind fun (ra, s1) => (cl s1).bind fun (l, s2) => (ch s2).bind fun (h, s3) => (ra.get s3).bind fun x => (slD x l h).map fun r => (r, s3)) σ H Q) :
    tSl r3 (tE K ca) (tOi K cl) (tOi K ch) σ H Q := by
  obtain ⟨O, s, r, s', k, e, q⟩ := h
  obtain ⟨⟨ra, s1⟩, ea, e⟩ := bnd e
  obtain ⟨⟨l, s2⟩, el, e⟩ := bnd e
  obtain ⟨⟨hi, s3⟩, eh, e⟩ := bnd e
  obtain ⟨x, ex, e⟩ := bnd e
  obtain ⟨res, ef, e⟩ := mpd e
  cases e
  exact ⟨O, s, ra, s1, k, ea, fun O1 v1 H1 g1 r1 f1 => ⟨O1, s1, l, s2, g1.ok, el, fun O2 H2 g2 => ⟨O2, s2, hi, s', g2.ok, eh, fun O3 H3 g3 =>
    hf O3 H3 σ s' v1 x l hi r Q g3.ok (((g2.trans g3).rat g1.ok r1).top g3.ok ex) ef (q.behind ((g1.trans g2).trans g3))⟩⟩⟩
theorem rd_c1 {r1 : List V → Hp → VK → Prop} {f : D → Option R} (hf : C1S K r1 f) (h : tE K (fun s => (ca s).bind fun (ra, s1) => (ra.get s1).bind fun x => (f x).map fun r => (r, s1)) σ H Q) : tCB r1 (tCons (tE K ca) tNil) σ H Q := by
  obtain ⟨O, s, r, s', k, e, q⟩ := h
  obtain ⟨⟨ra, s1⟩, ea, e⟩ := bnd e
  obtain ⟨x, ex, e⟩ := bnd e
  obtain ⟨res, ef, e⟩ := mpd e
  cases e
  exact ⟨O, s, ra, s', k, ea, fun O1 v1 H1 g1 r1 f1 => hf O1 H1 σ s' v1 x r Q g1.ok (r1.top g1.ok ex) ef (q.behind g1)⟩
theorem rd_c2 {r1 : List V → Hp → VK → Prop} {f : D → D → Option R} (hf : C2S K r1 f) (h : tE K (fun s => (ca s).bind fun (ra, s1) => (cb s1).bind fun (rb, s2) => (ra.get s2).bind fun x => (rb.get s2).bind fun y => (f x y).map fun r => (r, s2)) σ H Q) : tCB r1 (tCons (tE K ca) (tCons (tE K cb) tNil)) σ H Q := by
  obtain ⟨O, s, r, s', k, e, q⟩ := h
  obtain ⟨⟨ra, s1⟩, ea, e⟩ := bnd e
  obtain ⟨⟨rb, s2⟩, eb, e⟩ := bnd e
  obtain ⟨x, ex, e⟩ := bnd e
  obtain ⟨y, ey, e⟩ := bnd e
  obtain ⟨res, ef, e⟩ := mpd e
  cases e
  exact ⟨O, s, ra, s1, k, ea, fun O1 v1 H1 g1 r1 f1 => ⟨O1, s1, rb, s', g1.ok, eb, fun O2 v2 H2 g2 r2 f2 =>
    hf O2 H2 σ s' v1 v2 x y r Q g2.ok ((g2.rat g1.ok r1).top g2.ok ex) (r2.top g2.ok ey) ef (q.behind (g1.trans g2))⟩⟩
theorem rd_isT {t : Ty} (h : tE K (fun s => (ca s).bind fun (ra, s1) => (ra.get s1).bind fun x => (isTD t x).map fun k => (.val (.bool k), s1)) σ H Q) : tCB (rIsi K) (tCons (tE K ca) (tCons (tC (.ty t.s)) tNil)) σ H Q := by
  obtain ⟨O, s, r, s', k, e, q⟩ := h
  obtain ⟨⟨ra, s1⟩, ea, e⟩ := bnd e
  obtain ⟨x, ex, e⟩ := bnd e
  obtain ⟨b, ef, e⟩ := mpd e
  cases e
  refine ⟨O, s, ra, s', k, ea, fun O1 v1 H1 g1 r1 f1 => ?_⟩
  obtain ⟨nd, kt⟩ := kit_tab t x b ef
  exact ⟨v1, .ty t.s, _, _, b, rfl, .ty _, tyx (r1.top g1.ok ex) nd, kit_ty kt, (q.behind g1).val g1.ok (.bl _)⟩
end
end Mi

set_option Elab.async false
set_option linter.all false
set_option maxRecDepth 100000
set_option maxHeartbeats 4000000
/-! Mi: calls, what is walked, the text's expressions. -/
namespace Mi
open PySem L2 PyProof.Rows

section
variable {X : Cx} {k : Nat} {f : Addr} {fd : FuncData} {ps : List Str} {m : FnSem}
theorem run_fnG {pins : List (Addr × Obj)} {σ : L2.St} {H : Hp} {s : Shared} {Q : VK} {us0 us : List Value} {kw : List (Str × Value)} {vs : List V} (F : FnG X.prog X.w X.K X.mg X.base k f fd ps m) (hr : Room k X.A) (hg : X.A.guards = some [])
    (hb : BindsTo s fd ⟨us0, kw⟩ (ps.zip us)) (I : L2.Inv X pins σ H s) (r : Vals vs us) (hl : vs.length = ps.length) (h : spOf X.K m vs H Q) : wpAny (model X.prog X.w) X.A (call (.ref f) us0 kw) (EP X pins σ Q) X.xe s := by
  refine wpAny_call (codeAny_mono (F.run X.A X.stack s H ⟨us0, kw⟩ us vs Q hr hg I.env0 hb r hl h) fun r s' hq => ?_)
  cases r with
  | error e => exact False.elim hq
  | ok fl =>
    cases fl with
    | ret u => exact I.after hq
    | next => exact hq.elim
    | brk => exact hq.elim
    | cont => exact hq.elim
variable {x : Str} {p pos : Pos} {e : Expr} {es : List Expr} {kws : List Keyword} {t tk : TA}
theorem pe_callG (F : FnG X.prog X.w X.K X.mg X.base k f fd ps m) (hr : Room k X.A) (hgu : X.A.guards = some []) (hg : Gl X x) (hm : X.mg x = some (.ref f)) (hk : PySem.W.keepIn X.K (.ref f) = true) (hb : Binds X.K fd ps []) (ha : PA X (e :: es) t) (hdb : (x == ("__debug__" : Str)) = false)
    (n1 : notStar e = true) (n2 : (backTo pos (starEach es X.env)).any (·.1) = false) : PE X (.Call (.Name x p) (e :: es) [] pos) (fun σ H Q => t σ H fun vs H1 => vs.length = ps.length ∧ spOf X.K m vs H1 Q) := by
  refine ⟨fun pins s σ H Q I h => wpAny_Call_Name_kw (ld_glob I hg hm ?_ hdb)⟩
  refine PySem.W.callWith_K (h₀ := X.base) I.ok.mod.kin hk (thn (ha.run pos pins s σ H _ I h) fun us s1 ⟨vs, H1, I1, r, hl, q⟩ => ⟨I1.kIn, ?_⟩) (eval_star n1 es X.env) n2
  have hz := hb s1 us I1.kIn (by rw [List.append_nil, ← r.length]; exact hl)
  rw [List.append_nil] at hz
  exact run_fnG F hr hgu hz I1 r hl q
theorem pe_callG0 (F : FnG X.prog X.w X.K X.mg X.base k f fd ps m) (hr : Room k X.A) (hgu : X.A.guards = some []) (hg : Gl X x) (hm : X.mg x = some (.ref f)) (hk : PySem.W.keepIn X.K (.ref f) = true) (hb : Binds X.K fd ps []) (hdb : (x == ("__debug__" : Str)) = false) :
    PE X (.Call (.Name x p) [] [] pos) (fun σ H Q => ps.length = 0 ∧ spOf X.K m [] H Q) := by
  refine ⟨fun pins s σ H Q I h => wpAny_Call_Name_kw (ld_glob I hg hm ?_ hdb)⟩
  refine PySem.W.callWith_K0 I.kIn hk ?_
  have hz := hb s [] I.kIn h.1.symm
  exact run_fnG (us := []) F hr hgu hz I .nil h.1.symm h.2
theorem vals_kw {zs : List V} {ws : List Value} (h : Vals zs ws) : ∀ kw : List Nat, Vals (kw.map fun i => zs.getD i .non) (kw.map fun i => ws.getD i .none)
  | [] => .nil
  | i :: kw => by
    refine .cons ?_ (vals_kw h kw)
    have : ∀ (zs : List V) (ws : List Value) (i : Nat), Vals zs ws → L2.RelV (zs.getD i .non) (ws.getD i .none) := by
      intro zs
      induction zs with
      | nil =>
        intro ws i r
        cases r
        show L2.RelV V.non Value.none
        rfl
      | cons z zs ih =>
        intro ws i r
        cases r with
        | cons a b =>
          cases i with
          | zero => exact a
          | succ i => exact ih _ i b
    exact this zs ws i h
/-- f(.., k = v, ..): kw tells which keyword goes where behind the positional values -/
theorem pe_callGK {ks : List Str} {kw : List Nat} {n : Nat} (F : FnG X.prog X.w X.K X.mg X.base k f fd ps m) (hr : Room k X.A) (hgu : X.A.guards = some []) (hg : Gl X x) (hm : X.mg x = some (.ref f)) (hk : PySem.W.keepIn X.K (.ref f) = true)
    (hb : ∀ (s : Shared) (us ws : List Value), us.length = n → ws.length = ks.length → BindsTo s fd ⟨us, ks.zip ws⟩ (ps.zip (us ++ kw.map fun i => ws.getD i .none))) (ha : PA X (e :: es) t) (hkw : PK X kws tk) (hdb : (x == ("__debug__" : Str)) = false)
    (hall : (backToKw pos (keywordEach kws X.env)).all (·.1.isSome) = true) (hks : (backToKw pos (keywordEach kws X.env)).filterMap (·.1) = ks)
    (n1 : notStar e = true) (hpl : ((backTo pos (starEach (e :: es) X.env)).any (·.1) || (backToKw pos (keywordEach kws X.env)).any (·.1.isNone)) = false) :
    PE X (.Call (.Name x p) (e :: es) kws pos) (fun σ H Q => t σ H fun vs H1 => tk σ H1 fun zs H2 => vs.length = n ∧ zs.length = ks.length ∧ n + kw.length = ps.length ∧ spOf X.K m (vs ++ kw.map fun i => zs.getD i .non) H2 Q) := by
  refine ⟨fun pins s σ H Q I h => wpAny_Call_Name_kw (ld_glob I hg hm ?_ hdb)⟩
  refine PySem.W.callWith_KW (h₀ := X.base) I.ok.mod.kin hk hall (thn (ha.run pos pins s σ H _ I h) fun us s1 ⟨vs, H1, I1, r, q1⟩ => ?_) hpl (eval_star n1 es X.env)
  refine thn (hkw.run pos pins s1 σ H1 _ I1 q1) fun ws s2 ⟨zs, H2, I2, rz, l1, l2, l3, q2⟩ => ⟨I2.kIn, ?_⟩
  rw [hks]
  exact run_fnG F hr hgu (hb s2 us ws (r.length.symm.trans l1) (rz.length.symm.trans l2)) I2 (r.append (vals_kw rz kw)) (by rw [List.length_append, List.length_map, l1]; exact l3) q2
theorem pe_callGK0 {ks : List Str} {kw : List Nat} (F : FnG X.prog X.w X.K X.mg X.base k f fd ps m) (hr : Room k X.A) (hgu : X.A.guards = some []) (hg : Gl X x) (hm : X.mg x = some (.ref f)) (hk : PySem.W.keepIn X.K (.ref f) = true)
    (hb : ∀ (s : Shared) (us ws : List Value), us.length = 0 → ws.length = ks.length → BindsTo s fd ⟨us, ks.zip ws⟩ (ps.zip (us ++ kw.map fun i => ws.getD i .none))) (hkw : PK X kws tk) (hdb : (x == ("__debug__" : Str)) = false)
    (hall : (backToKw pos (keywordEach kws X.env)).all (·.1.isSome) = true) (hks : (backToKw pos (keywordEach kws X.env)).filterMap (·.1) = ks)
    (hpl : ((backTo pos (starEach [] X.env)).any (·.1) || (backToKw pos (keywordEach kws X.env)).any (·.1.isNone)) = false) :
    PE X (.Call (.Name x p) [] kws pos) (fun σ H Q => tk σ H fun zs H2 => zs.length = ks.length ∧ kw.length = ps.length ∧ spOf X.K m (kw.map fun i => zs.getD i .non) H2 Q) := by
  refine ⟨fun pins s σ H Q I h => wpAny_Call_Name_kw (ld_glob I hg hm ?_ hdb)⟩
  refine PySem.W.callWith_KW0 (h₀ := X.base) I.ok.mod.kin hk hall ?_ hpl
  refine thn (hkw.run pos pins s σ H _ I h) fun ws s2 ⟨zs, H2, I2, rz, l2, l3, q2⟩ => ⟨I2.kIn, ?_⟩
  rw [hks]
  exact run_fnG (us0 := []) F hr hgu (hb s2 [] ws rfl (rz.length.symm.trans l2)) I2 (vals_kw rz kw) (by rw [List.length_map]; exact l3) q2
end

/-! ### readings of calls -/
section
variable {K : PySem.W.Frag} {O O2 : Addr → Prop} {H H2 H0 : Hp} {σ : L2.St} {s s' s2 : Sl} {ca : Sl → Option (R × Sl)} {cs : Sl → Option (List D × Sl)} {cp : Sl → Option (List PArg × Sl)}
theorem PsAt.older {vs : List V} {ps : List PArg} {H1 : Hp} (h : PsAt K O H H1 σ s vs ps) (i : ∀ a, H1 a = none → H0 a = none) : PsAt K O H H0 σ s vs ps := by
  induction h with
  | nil => exact .nil
  | val a _ ih => exact .val a ih
  | new a b c d e _ ih => exact .new (i _ a) b c d e ih
  | lent a b _ ih => exact .lent a b ih
theorem rd_anil {Q : List V → Hp → Prop} (h : tAs K (fun s => some ([], s)) σ H Q) : tNil σ H Q := by
  obtain ⟨O, s, ps, s', k, e, q⟩ := h
  cases e
  exact q O [] H (Go.refl k) .nil
theorem rd_av {Q : List V → Hp → Prop} (h : tAs K (fun s => (ca s).bind fun (x, s1) => x.sto.bind fun d => (cp s1).map fun (ps, s2) => (.val d :: ps, s2)) σ H Q) : tCons (tE K ca) (tAs K cp) σ H Q := by
  obtain ⟨O, s, ps, s', k, e, q⟩ := h
  obtain ⟨⟨r, s1⟩, ea, e1⟩ := bnd e
  obtain ⟨d, ed, e2⟩ := bnd e1
  obtain ⟨⟨ps', s2⟩, es, e3⟩ := mpd e2
  cases e3
  refine ⟨O, s, r, s1, k, ea, fun O1 v1 H1 g1 r1 f1 => ?_⟩
  obtain ⟨O5, k5, l5, m5, d5⟩ := r1.keep g1.ok ed
  have up5 : ∀ a, O a → O5 a := fun a z => by
    rcases m5 a (g1.up a z) with z' | ⟨xs, z1, z2⟩
    · exact z'
    · exact absurd (f1 xs a z1 z2) (k.dom a z)
  have g5 : Go K O H σ s O5 H1 s1 := ⟨k5, up5, fun a z => g1.nw a (l5 a z), g1.fr, g1.th, g1.sh⟩
  exact ⟨O5, s1, ps', _, k5, es, fun O2 vs H2 g2 dv => q O2 (v1 :: vs) H2 (g5.trans g2) (.val (g2.den k5 d5) (dv.older fun a z => g1.old a z))⟩
theorem rd_an {Q : List V → Hp → Prop} (h : tAs K (fun s => (ca s).bind fun (x, s1) => match x with
    | .new xs => (cp s1).map fun (ps, s2) => (.new xs :: ps, s2)
    | _ => none) σ H Q) : tCons (tE K ca) (tAs K cp) σ H Q := by
  obtain ⟨O, s, ps, s', k, e, q⟩ := h
  obtain ⟨⟨r, s1⟩, ea, e1⟩ := bnd e
  simp only at e1
  split at e1
  · rename_i xs
    obtain ⟨⟨ps', s2⟩, es, e3⟩ := mpd e1
    cases e3
    refine ⟨O, s, _, s1, k, ea, fun O1 v1 H1 g1 r1 f1 => ⟨O1, s1, ps', _, g1.ok, es, fun O2 vs H2 g2 dv => ?_⟩⟩
    have r2 := g2.rat g1.ok r1
    obtain ⟨a, ws, e5, h1, h2, h3, h4⟩ := r2
    subst e5
    exact q O2 _ H2 (g1.trans g2) (.new (f1 xs a rfl rfl) h1 h2 h3 h4 (dv.older fun a z => g1.old a z))
  · cases e1
theorem rd_am {i : Nat} {Q : List V → Hp → Prop} (h : tAs K (fun s => match s[i]? with
    | some (.own _ _) => (cp s).map fun (ps, s2) => (.lent i :: ps, s2)
    | _ => none) σ H Q) : tCons (tVar i) (tAs K cp) σ H Q := by
  obtain ⟨O, s, ps, s', k, e, q⟩ := h
  simp only at e
  split at e
  · rename_i p xs hi
    obtain ⟨⟨ps', s2⟩, es, e3⟩ := mpd e
    cases e3
    obtain ⟨a, vs, e5, _⟩ := k.own i p xs hi
    refine ⟨_, e5, O, s, ps', _, k, es, fun O2 vs H2 g2 dv => ?_⟩
    obtain ⟨ys, e6⟩ := (g2.sh.2 i).2.2 p xs hi
    exact q O2 _ H2 g2 (.lent e5 e6 dv)
  · cases e
theorem PsAt.len {vs : List V} {ps : List PArg} (h : PsAt K O H H0 σ s vs ps) : vs.length = ps.length := by
  induction h with
  | nil => rfl
  | val _ _ ih => exact congrArg Nat.succ ih
  | new _ _ _ _ _ _ ih => exact congrArg Nat.succ ih
  | lent _ _ _ ih => exact congrArg Nat.succ ih
theorem evA_len {Φ : Phi} : ∀ (as : As) (s s' : Sl) (ps : List PArg), evA Φ as s = some (ps, s') → ps.length = as.len
  | .nil, s, s', ps, e => by
    cases e
    rfl
  | .v x r, s, s', ps, e => by
    obtain ⟨⟨r1, s1⟩, ea, e1⟩ := bnd e
    obtain ⟨d, ed, e2⟩ := bnd e1
    obtain ⟨⟨ps', s2⟩, es, e3⟩ := mpd e2
    cases e3
    exact congrArg Nat.succ (evA_len r _ _ _ es)
  | .m i r, s, s', ps, e => by
    unfold evA at e
    split at e
    · obtain ⟨⟨ps', s2⟩, es, e3⟩ := mpd e
      cases e3
      exact congrArg Nat.succ (evA_len r _ _ _ es)
    · cases e
  | .n x r, s, s', ps, e => by
    obtain ⟨⟨r1, s1⟩, ea, e1⟩ := bnd e
    simp only at e1
    split at e1
    · obtain ⟨⟨ps', s2⟩, es, e3⟩ := mpd e1
      cases e3
      exact congrArg Nat.succ (evA_len r _ _ _ es)
    · cases e1
theorem rd_call {Φ : Phi} {m : FnSem} {as : As} {n : Nat} {Q : VK} (hn : as.len = n) (h : tE K (fun s => (evA Φ as s).bind fun (ps, s1) => callD m ps s1) σ H Q) : tAs K (evA Φ as) σ H (fun vs H1 => vs.length = n ∧ spOf K m vs H1 Q) := by
  obtain ⟨O, s, r, s', k, e, q⟩ := h
  obtain ⟨⟨ps, s1⟩, ea, e1⟩ := bnd e
  refine ⟨O, s, ps, s1, k, ea, fun O1 vs H1 g1 pa => ⟨by rw [pa.len, evA_len _ _ _ _ ea, hn], ?_⟩⟩
  have := call_sp (zs := []) (ds := []) (m := m) k g1 pa .nil (by simpa using e1) q
  rw [List.append_nil] at this
  exact this
theorem rd_call0 {Φ : Phi} {m : FnSem} {n : Nat} {Q : VK} (hn : As.nil.len = n) (h : tE K (fun s => (evA Φ .nil s).bind fun (ps, s1) => callD m ps s1) σ H Q) : n = 0 ∧ spOf K m [] H Q := by
  have h1 := rd_call hn h
  obtain ⟨O, s, ps, s', k, e, q⟩ := h1
  cases e
  exact ⟨hn.symm, (q O [] H (Go.refl k) .nil).2⟩
theorem kw_den {zs : List V} {ds : List D} (h : DenAll K O H zs ds) : ∀ kw : List Nat, DenAll K O H (kw.map fun i => zs.getD i .non) (kw.map fun i => ds.getD i .none)
  | [] => .nil
  | i :: kw => by
    refine .cons ?_ (kw_den h kw)
    have : ∀ (zs : List V) (ds : List D) (i : Nat), DenAll K O H zs ds → Den K O H (zs.getD i .non) (ds.getD i .none) := by
      intro zs
      induction zs with
      | nil =>
        intro ds i r
        cases r
        exact .non
      | cons z zs ih =>
        intro ds i r
        cases r with
        | cons a b =>
          cases i with
          | zero => exact a
          | succ i => exact ih _ i b
    exact this zs ds i h
theorem rd_callK {Φ : Phi} {m : FnSem} {as : As} {kw : List Nat} {n l : Nat} {np : Nat} {Q : VK} (hn : as.len = n) (hl : ∀ s ds s', cs s = some (ds, s') → ds.length = l) (hnp : n + kw.length = np) (h : tE K (fun s => (evA Φ as s).bind fun (ps, s1) => (cs s1).bind fun (ds, s2) =>
      callD (fun as => m (as ++ (kw.map fun i => ds.getD i .none).map .val)) ps s2) σ H Q) :
    tAs K (evA Φ as) σ H (fun vs H1 => tEs K cs σ H1 fun zs H2 => vs.length = n ∧ zs.length = l ∧ n + kw.length = np ∧ spOf K m (vs ++ kw.map fun i => zs.getD i .non) H2 Q) := by
  obtain ⟨O, s, r, s', k, e, q⟩ := h
  obtain ⟨⟨ps, s1⟩, ea, e1⟩ := bnd e
  obtain ⟨⟨ds, s2⟩, es, e2⟩ := bnd e1
  refine ⟨O, s, ps, s1, k, ea, fun O1 vs H1 g1 pa => ⟨O1, s1, ds, s2, g1.ok, es, fun O2 zs H2 g2 dz => ⟨by rw [pa.len, evA_len _ _ _ _ ea, hn], by rw [dz.length]; exact hl _ _ _ es, hnp, ?_⟩⟩⟩
  exact call_sp k (g1.trans g2) (g2.psat g1.ok pa) (kw_den dz kw) e2 q
theorem rd_callK0 {Φ : Phi} {m : FnSem} {kw : List Nat} {l : Nat} {np : Nat} {Q : VK} (hl : ∀ s ds s', cs s = some (ds, s') → ds.length = l) (hnp : 0 + kw.length = np) (h : tE K (fun s => (evA Φ .nil s).bind fun (ps, s1) => (cs s1).bind fun (ds, s2) =>
      callD (fun as => m (as ++ (kw.map fun i => ds.getD i .none).map .val)) ps s2) σ H Q) :
    tEs K cs σ H fun zs H2 => zs.length = l ∧ kw.length = np ∧ spOf K m (kw.map fun i => zs.getD i .non) H2 Q := by
  have h1 := rd_callK (n := 0) rfl hl hnp h
  obtain ⟨O, s, ps, s', k, e, q⟩ := h1
  cases e
  obtain ⟨O1, s1, ds, s2, k1, e1, q1⟩ := q O [] H (Go.refl k) .nil
  exact ⟨O1, s1, ds, s2, k1, e1, fun O2 zs H2 g2 dz => ⟨(q1 O2 zs H2 g2 dz).2.1, by rw [← hnp, Nat.zero_add], (q1 O2 zs H2 g2 dz).2.2.2⟩⟩
end
end Mi

set_option Elab.async false
set_option linter.all false
set_option maxRecDepth 100000
set_option maxHeartbeats 4000000
/-! Mi: every expression of the text does what its tree says. -/
namespace Mi
open PySem L2 PyProof.Rows

section
variable {X : Cx} {T : Stc} {Φ : Phi}
theorem gl_ok {x : Str} (h : glB X.env.scope x = true) : Gl X x := by
  unfold glB at h
  have h' := of_decide_eq_true h
  exact h'
theorem vis_ok {x : Str} (h : visB X.env.scope x = true) : Vis X.env.scope x := visB_ok h
/-! ### no stars -/
theorem chkEs_ns : ∀ {a : Es} {l : List Expr} {sc : Scope}, chkEs T a l sc = true → ∀ (pos : Pos) (env : PySem.Env), (backTo pos (starEach l env)).any (·.1) = false
  | .nil, l, sc, h, pos, env => by
    cases l with
    | nil => rfl
    | cons _ _ => exact absurd h Bool.false_ne_true
  | .cons a r, l, sc, h, pos, env => by
    cases l with
    | nil => exact absurd h Bool.false_ne_true
    | cons e es =>
      simp only [chkEs, Bool.and_eq_true] at h
      rw [eval_star h.1.2]
      exact chkEs_ns h.2 pos env
theorem chkA_ns : ∀ {a : As} {l : List Expr} {sc : Scope}, chkA T a l sc = true → ∀ (pos : Pos) (env : PySem.Env), (backTo pos (starEach l env)).any (·.1) = false
  | .nil, l, sc, h, pos, env => by
    cases l with
    | nil => rfl
    | cons _ _ => exact absurd h Bool.false_ne_true
  | .v a r, l, sc, h, pos, env => by
    cases l with
    | nil => exact absurd h Bool.false_ne_true
    | cons e es =>
      simp only [chkA, Bool.and_eq_true] at h
      rw [eval_star h.1.2]
      exact chkA_ns h.2 pos env
  | .n a r, l, sc, h, pos, env => by
    cases l with
    | nil => exact absurd h Bool.false_ne_true
    | cons e es =>
      simp only [chkA, Bool.and_eq_true] at h
      rw [eval_star h.1.2]
      exact chkA_ns h.2 pos env
  | .m i r, l, sc, h, pos, env => by
    cases l with
    | nil => exact absurd h Bool.false_ne_true
    | cons e es =>
      cases e with
      | Name x p =>
        simp only [chkA, Bool.and_eq_true] at h
        exact chkA_ns h.2 pos env
      | _ => exact absurd h Bool.false_ne_true
theorem chkA_star {a : As} {e : Expr} {es : List Expr} {sc : Scope} (h : chkA T a (e :: es) sc = true) : notStar e = true ∧ ∀ (pos : Pos) (env : PySem.Env), (backTo pos (starEach es env)).any (·.1) = false := by
  cases a with
  | nil => exact absurd h Bool.false_ne_true
  | v a r =>
    simp only [chkA, Bool.and_eq_true] at h
    exact ⟨h.1.2, chkA_ns h.2⟩
  | n a r =>
    simp only [chkA, Bool.and_eq_true] at h
    exact ⟨h.1.2, chkA_ns h.2⟩
  | m i r =>
    cases e with
    | Name x p =>
      simp only [chkA, Bool.and_eq_true] at h
      exact ⟨rfl, chkA_ns h.2⟩
    | _ => exact absurd h Bool.false_ne_true
theorem chkK_kw : ∀ {a : Es} {l : List Keyword} {sc : Scope}, chkK T a l sc = true → ∀ (pos : Pos) (env : PySem.Env),
    (backToKw pos (keywordEach l env)).all (·.1.isSome) = true ∧ (backToKw pos (keywordEach l env)).filterMap (·.1) = kwNames l ∧ (backToKw pos (keywordEach l env)).any (·.1.isNone) = false ∧
      ∀ (Φ : Phi) s ds s', evs Φ a s = some (ds, s') → ds.length = (kwNames l).length
  | .nil, l, sc, h, pos, env => by
    cases l with
    | nil => exact ⟨rfl, rfl, rfl, fun Φ s ds s' e => by cases e; rfl⟩
    | cons _ _ => exact absurd h Bool.false_ne_true
  | .cons a r, l, sc, h, pos, env => by
    cases l with
    | nil => exact absurd h Bool.false_ne_true
    | cons k ks =>
      obtain ⟨nm, e, kp⟩ := k
      cases nm with
      | none => exact absurd h Bool.false_ne_true
      | some nm =>
        simp only [chkK, Bool.and_eq_true] at h
        obtain ⟨h1, h2, h3, h4⟩ := chkK_kw h.2 pos env
        refine ⟨?_, ?_, ?_, fun Φ s ds s' e => ?_⟩
        · show ((some nm : Option Str).isSome && _) = true
          rw [Option.isSome_some, Bool.true_and]
          exact h1
        · show nm :: _ = nm :: kwNames ks
          rw [← h2]
          rfl
        · show ((some nm : Option Str).isNone || _) = false
          rw [Option.isNone_some, Bool.false_or]
          exact h3
        · obtain ⟨⟨r1, s1⟩, ea, e1⟩ := bnd e
          obtain ⟨d, ed, e2⟩ := bnd e1
          obtain ⟨⟨ds', s2⟩, es, e3⟩ := mpd e2
          cases e3
          exact congrArg Nat.succ (h4 Φ _ _ _ es)
/-! ### built-in calls -/
theorem pe_b1 {f : F1} {r : List V → Hp → VK → Prop} {e : Expr} {te : TE} {p pos : Pos} (hc : CallR X f.val r) (hg : Gl X f.nm) (hm : X.mg f.nm = none) (ha : PE X e te) (ns : notStar e = true) : PE X (.Call (.Name f.nm p) [e] [] pos) (tCB r (tCons te tNil)) := by
  have pa := pa_cons ha pa_nil (eval_star ns [] X.env)
  have hv := f.boot
  cases f <;> first | exact pe_callB hc hg hm hv pa (by decide) (by decide) (eval_star ns [] X.env) rfl | exact pe_callTy hc hg hm hv pa (by decide) (by decide) (eval_star ns [] X.env) rfl
theorem pe_b2 {f : F2} {r : List V → Hp → VK → Prop} {e e2 : Expr} {te te2 : TE} {p pos : Pos} (hc : CallR X (.builtin f.bn) r) (hg : Gl X f.nm) (hm : X.mg f.nm = none) (ha : PE X e te) (ns : notStar e = true) (ha2 : PE X e2 te2) (ns2 : notStar e2 = true) :
    PE X (.Call (.Name f.nm p) [e, e2] [] pos) (tCB r (tCons te (tCons te2 tNil))) := by
  have pa := pa_cons ha (pa_cons ha2 pa_nil (eval_star ns2 [] X.env)) (eval_star ns [e2] X.env)
  have hv := f.boot
  have hb : (backTo pos (starEach [e2] X.env)).any (·.1) = false := by rw [eval_star ns2]; rfl
  cases f <;> exact pe_callB hc hg hm hv pa (by decide) (by decide) (eval_star ns [e2] X.env) hb
theorem f1_mem (f : F1) : f.nm ∈ bnames := by cases f <;> decide +kernel
theorem f2_mem (f : F2) : f.nm ∈ bnames := by cases f <;> decide +kernel
theorem ty_mem (t : Ty) : t.nm ∈ bnames := by cases t <;> decide +kernel
theorem plainIx_of {e : Expr} {i : E} {sc : Scope} (h : chkE T i e sc = true) : PlainIx e := by
  cases e <;> first | exact fun _ _ => rfl | (cases i <;> exact absurd h Bool.false_ne_true)
theorem flat_lst {K : PySem.W.Frag} {O : Addr → Prop} {H : Hp} {σ : L2.St} {s : Sl} {v : V} {r : R} {ds : List D} (k : Ok K O H σ s) (h : RAt K O H σ s v r) (nb : ∀ i, r ≠ .bor i) (e : r.flat = .list ds) : ∃ a vs, v = .ref a ∧ H a = some (.lst vs) ∧ ¬ ownAd σ s a ∧ DenAll K O H vs ds := by
  cases r with
  | val d =>
    have e : d = .list ds := e
    subst e
    cases h with
    | lst h1 h2 h3 => exact ⟨_, _, rfl, h1, fun z => h2 (k.ow z).1, h3⟩
  | new xs =>
    have e : PyData.list xs = .list ds := e
    cases e
    obtain ⟨a, vs, e1, h1, h2, h3, h4⟩ := h
    exact ⟨a, vs, e1, h3, h2, h4⟩
  | bor i => exact absurd rfl (nb i)
theorem flat_lst2 {K : PySem.W.Frag} {O : Addr → Prop} {H0 H : Hp} {σ : L2.St} {s : Sl} {v : V} {r : R} {ds : List D} (k : Ok K O H σ s) (h : RAt K O H σ s v r) (nb : ∀ i, r ≠ .bor i) (e : r.flat = .list ds) (f : ∀ xs a, r = .new xs → v = .ref a → H0 a = none) :
    ∃ a vs, v = .ref a ∧ H a = some (.lst vs) ∧ ¬ ownAd σ s a ∧ DenAll K O H vs ds ∧ (¬ O a ∨ H0 a = none) := by
  cases r with
  | val d =>
    have e : d = .list ds := e
    subst e
    cases h with
    | lst h1 h2 h3 => exact ⟨_, _, rfl, h1, fun z => h2 (k.ow z).1, h3, .inl h2⟩
  | new xs =>
    have e : PyData.list xs = .list ds := e
    cases e
    obtain ⟨a, vs, e1, h1, h2, h3, h4⟩ := h
    exact ⟨a, vs, e1, h3, h2, h4, .inr (f _ a rfl e1)⟩
  | bor i => exact absurd rfl (nb i)
theorem flat_tup {K : PySem.W.Frag} {O : Addr → Prop} {H : Hp} {σ : L2.St} {s : Sl} {v : V} {r : R} {ds : List D} (h : RAt K O H σ s v r) (nb : ∀ i, r ≠ .bor i) (e : r.flat = .tuple ds) : ∃ a vs, v = .ref a ∧ SqT K H a vs ∧ DenAll K O H vs ds := by
  cases r with
  | val d =>
    have e : d = .tuple ds := e
    subst e
    cases h with
    | tup h1 h3 => exact ⟨_, _, rfl, h1, h3⟩
  | new xs => cases e
  | bor i => exact absurd rfl (nb i)
theorem den_rg {K : PySem.W.Frag} {O : Addr → Prop} {H : Hp} (lo hi : Int) : DenAll K O H (rgV lo hi) (rgD lo (hi - lo).toNat) := DenAll.of_map (f := fun i => V.int (lo + (i : Nat))) (g := fun (i : Nat) => PyData.int (lo + (i : Int))) (fun i => .int _) _
theorem rng_tail {tup : Bool} {ca : Sl → Option (Option Int × Sl)} {cb : Sl → Option (R × Sl)} {K : PySem.W.Frag} (σ : L2.St) (H : Hp) (Q : VK) (hh : tE K (fun s => (ca s).bind fun (lo, s1) => (cb s1).bind fun (rb, s2) => match rb with
    | .val (.int j) => let i := lo.getD 0
      if -(2 ^ 62) ≤ i ∧ i < 2 ^ 62 ∧ -(2 ^ 62) ≤ j ∧ j < 2 ^ 62 ∧ (j - i).toNat ≤ sizeLine then
        some (if tup = true then .val (.tuple (rgD i (j - i).toNat)) else .new (rgD i (j - i).toNat), s2) else none
    | _ => none) σ H Q) :
    ∃ O s lo j s1 s', Ok K O H σ s ∧ ca s = some (lo, s1) ∧ cb s1 = some (.val (.int j), s') ∧ ∀ O' H', Go K O H σ s O' H' s' → RgOk (lo.getD 0) j ∧ ∀ p, H' p = none → Q (.ref p) (upd H' p (if tup = true then .tup (rgV (lo.getD 0) j) else .lst (rgV (lo.getD 0) j))) := by
  obtain ⟨O, s, r, s', k, e, q⟩ := hh
  obtain ⟨⟨lo, s1⟩, el, e1⟩ := bnd e
  obtain ⟨⟨rb, s2⟩, eb, e2⟩ := bnd e1
  simp only at e2
  split at e2
  · rename_i j
    split at e2
    · rename_i hz
      refine ⟨O, s, lo, j, s1, s2, k, el, eb, fun O' H' g => ⟨⟨hz.1, hz.2.1, hz.2.2.1, hz.2.2.2.1, by have := hz.2.2.2.2; rw [sizeLine_eq] at this; omega⟩, fun p n => ?_⟩⟩
      cases tup with
      | true =>
        simp only [if_true] at e2 ⊢
        cases e2
        exact (q.behind g).tup g.ok (den_rg _ _) n
      | false =>
        simp only [Bool.false_eq_true, if_false] at e2 ⊢
        cases e2
        exact (q.behind g).new g.ok (den_rg _ _) n
    · cases e2
  · cases e2
def tRgc (K : PySem.W.Frag) (ca : Sl → Option (Option Int × Sl)) (cb : Sl → Option (R × Sl)) : L2.St → Hp → (Int → Int → Hp → Prop) → Prop := fun σ H Q =>
  ∃ O s lo j s1 s', Ok K O H σ s ∧ ca s = some (lo, s1) ∧ cb s1 = some (.val (.int j), s') ∧ ∀ O' H', Go K O H σ s O' H' s' → Q (lo.getD 0) j H'
theorem prg_imp {e : Expr} {t u : L2.St → Hp → (Int → Int → Hp → Prop) → Prop} (h : PRg X e t) (i : ∀ σ H Q, u σ H Q → t σ H Q) : PRg X e u := fun pins s σ H Q I q => h pins s σ H Q I (i _ _ _ q)
theorem rd_rg1 {cb : Sl → Option (R × Sl)} {K : PySem.W.Frag} {σ : L2.St} {H : Hp} {Q : Int → Int → Hp → Prop} (h : tRgc K (fun s => some (none, s)) cb σ H Q) : tRg1 (tE K cb) σ H Q := by
  obtain ⟨O, s, lo, j, s1, s', k, el, eb, q⟩ := h
  cases el
  refine ⟨O, s, _, _, k, eb, fun O1 v1 H1 g1 r1 f1 => ⟨j, ?_, q O1 H1 g1⟩⟩
  cases r1
  rfl
theorem rd_rg2 {ca cb : Sl → Option (R × Sl)} {K : PySem.W.Frag} {σ : L2.St} {H : Hp} {Q : Int → Int → Hp → Prop} (h : tRgc K (fun s => (ca s).bind fun (r, s1) => match r with
    | .val (.int i) => some (some i, s1)
    | _ => none) cb σ H Q) : tRg2 (tE K ca) (tE K cb) σ H Q := by
  obtain ⟨O, s, lo, j, s1, s', k, el, eb, q⟩ := h
  obtain ⟨⟨ra, s1'⟩, ea, el⟩ := bnd el
  simp only at el
  split at el
  · cases el
    refine ⟨O, s, _, _, k, ea, fun O1 v1 H1 g1 r1 f1 => ⟨O1, _, _, _, g1.ok, eb, fun O2 v2 H2 g2 r2 f2 => ⟨_, _, ?_, ?_, q O2 H2 (g1.trans g2)⟩⟩⟩
    · cases r1
      rfl
    · cases r2
      rfl
  · cases el
/-! ### what is walked -/
theorem pi_seq {tg e : Expr} {ca : Sl → Option (R × Sl)} (he : PE X e (tE X.K ca)) : PI X tg e (tI X.K (fun s => (ca s).bind fun (r, s1) => match r with
    | .val (.list ds) => some (ds, s1)
    | .val (.tuple ds) => some (ds, s1)
    | .val (.str z) => some (z.cps.toList.map fun c => PyData.str ⟨#[c]⟩, s1)
    | .new ds => some (ds, s1)
    | _ => none)) := by
  refine ⟨fun pins s0 σ H Rr I h => ?_⟩
  obtain ⟨O, s, ds, s', k, e, q⟩ := h
  obtain ⟨⟨r, s1⟩, ea, e1⟩ := bnd e
  simp only at e1
  split at e1
  · cases e1
    refine (pi_list he).run pins s0 σ H Rr I ⟨O, s, _, _, k, ea, fun O1 v1 H1 g1 r1 f1 => ?_⟩
    obtain ⟨a, vs, e5, h1, h2, h3, h9⟩ := flat_lst2 g1.ok r1 nofun rfl f1
    exact ⟨a, e5, ⟨vs, SqL.of h1⟩, q O1 H1 _ g1 (isw_list g1.ok h1 h2 h9 h3)⟩
  · cases e1
    refine (pi_tup he).run pins s0 σ H Rr I ⟨O, s, _, _, k, ea, fun O1 v1 H1 g1 r1 f1 => ?_⟩
    obtain ⟨a, vs, e5, h1, h3⟩ := flat_tup r1 nofun rfl
    exact ⟨a, e5, ⟨vs, h1⟩, q O1 H1 _ g1 (isw_tup g1.ok h1 h3)⟩
  · cases e1
    refine (pi_str he).run pins s0 σ H Rr I ⟨O, s, _, _, k, ea, fun O1 v1 H1 g1 r1 f1 => ?_⟩
    cases r1
    exact ⟨_, rfl, q O1 H1 _ g1 isw_str⟩
  · cases e1
    refine (pi_list he).run pins s0 σ H Rr I ⟨O, s, _, _, k, ea, fun O1 v1 H1 g1 r1 f1 => ?_⟩
    obtain ⟨a, vs, e5, h1, h2, h3, h9⟩ := flat_lst2 g1.ok r1 nofun rfl f1
    exact ⟨a, e5, ⟨vs, SqL.of h1⟩, q O1 H1 _ g1 (isw_list g1.ok h1 h2 h9 h3)⟩
  · cases e1
section
variable {K : PySem.W.Frag} {σ : L2.St} {H : Hp} {Rr : It → Hp → Prop} {ca cb : Sl → Option (R × Sl)}
theorem rd_ir1 (h : tI K (fun s => (Option.some ((none : Option Int), s)).bind fun (lo, s1) => (cb s1).bind fun (rb, s2) => match rb with
    | .val (.int j) => let i := lo.getD 0
      if -(2 ^ 62) ≤ i ∧ i < 2 ^ 62 ∧ -(2 ^ 62) ≤ j ∧ j < 2 ^ 62 then some (rgD i (j - i).toNat, s2) else none
    | _ => none) σ H Rr) : iRng1 (tCons (tE K cb) tNil) σ H Rr := by
  obtain ⟨O, s, ds, s', k, e, q⟩ := h
  obtain ⟨⟨lo, s1⟩, el, e1⟩ := bnd e
  cases el
  obtain ⟨⟨rb, s2⟩, eb, e2⟩ := bnd e1
  simp only at e2
  split at e2
  · rename_i j
    split at e2
    · rename_i hz
      have ej : (j - (none : Option Int).getD 0).toNat = j.toNat := by simp
      rw [ej] at e2
      cases e2
      refine ⟨O, s, _, _, k, eb, fun O1 v1 H1 g1 r1 f1 => ⟨j, ?_, hz.2.2.1, hz.2.2.2, q O1 H1 _ g1 isw_range⟩⟩
      cases r1
      rfl
    · cases e2
  · cases e2
theorem rd_ir2 (h : tI K (fun s => ((ca s).bind fun (r, s1) => match r with
    | .val (.int i) => some (some i, s1)
    | _ => none).bind fun (lo, s1) => (cb s1).bind fun (rb, s2) => match rb with
    | .val (.int j) => let i := lo.getD 0
      if -(2 ^ 62) ≤ i ∧ i < 2 ^ 62 ∧ -(2 ^ 62) ≤ j ∧ j < 2 ^ 62 then some (rgD i (j - i).toNat, s2) else none
    | _ => none) σ H Rr) : iRng2 (tCons (tE K ca) (tCons (tE K cb) tNil)) σ H Rr := by
  obtain ⟨O, s, ds, s', k, e, q⟩ := h
  obtain ⟨⟨lo, s1⟩, el, e1⟩ := bnd e
  obtain ⟨⟨ra, s0⟩, ea, el⟩ := bnd el
  simp only at el
  split at el
  · rename_i i
    cases el
    obtain ⟨⟨rb, s2⟩, eb, e2⟩ := bnd e1
    simp only at e2
    split at e2
    · rename_i j
      split at e2
      · rename_i hz
        cases e2
        refine ⟨O, s, _, _, k, ea, fun O1 v1 H1 g1 r1 f1 => ⟨O1, _, _, _, g1.ok, eb, fun O2 v2 H2 g2 r2 f2 => ⟨i, j, ?_, hz, q O2 H2 _ (g1.trans g2) isw_range⟩⟩⟩
        cases r1
        cases r2
        rfl
      · cases e2
    · cases e2
  · cases el
theorem rd_zip (h : tI K (fun s => (ca s).bind fun (ra, s1) => (cb s1).bind fun (rb, s2) => match ra, rb with
    | .bor _, _ => none
    | _, .bor _ => none
    | ra, rb => match ra.flat, rb.flat with
      | .list xs, .list ys => some ((xs.zip ys).map fun (p : D × D) => .tuple [p.1, p.2], s2)
      | .tuple xs, .tuple ys => some ((xs.zip ys).map fun (p : D × D) => .tuple [p.1, p.2], s2)
      | _, _ => none) σ H Rr) : RZ.iZipA K (tCons (tE K ca) (tCons (tE K cb) tNil)) σ H Rr := by
  obtain ⟨O, s, ds, s', k, e, q⟩ := h
  obtain ⟨⟨ra, s1⟩, ea, e1⟩ := bnd e
  obtain ⟨⟨rb, s2⟩, eb, e2⟩ := bnd e1
  simp only at e2
  refine ⟨O, s, _, _, k, ea, fun O1 v1 H1 g1 r1 f1 => ⟨O1, _, _, _, g1.ok, eb, fun O2 v2 H2 g2 r2 f2 => ?_⟩⟩
  have r1' := g2.rat g1.ok r1
  have nba : ∀ i, ra ≠ .bor i := fun i z => by
    subst z
    cases e2
  have nbb : ∀ i, rb ≠ .bor i := fun i z => by
    subst z
    cases ra <;> cases e2
  have e3 : (match ra.flat, rb.flat with
      | .list xs, .list ys => some ((xs.zip ys).map fun (p : D × D) => .tuple [p.1, p.2], s2)
      | .tuple xs, .tuple ys => some ((xs.zip ys).map fun (p : D × D) => .tuple [p.1, p.2], s2)
      | _, _ => none) = some (ds, s') := by
    cases ra <;> cases rb <;> first | exact e2 | exact absurd rfl (nba _) | exact absurd rfl (nbb _)
  split at e3
  · rename_i xs ys fa fb
    cases e3
    obtain ⟨a, vs, ev, h1, h2, h3, h9⟩ := flat_lst2 g2.ok r1' nba fa f1
    obtain ⟨b, ws, ew, h4, h5, h6, h10⟩ := flat_lst2 (H0 := H) g2.ok r2 nbb fb fun xs a e1 e2 => g1.old a (f2 xs a e1 e2)
    subst ev ew
    exact ⟨a, b, vs, ws, rfl, .inl ⟨SqL.of h1, SqL.of h4, q O2 H2 _ (g1.trans g2) (isw_zipL g2.ok h1 h2 h9 h3 h4 h5 h10 h6)⟩⟩
  · rename_i xs ys fa fb
    cases e3
    obtain ⟨a, vs, ev, h1, h3⟩ := flat_tup r1' nba fa
    obtain ⟨b, ws, ew, h4, h6⟩ := flat_tup r2 nbb fb
    subst ev ew
    exact ⟨a, b, vs, ws, rfl, .inr ⟨h1, h4, q O2 H2 _ (g1.trans g2) (isw_zipT g2.ok h1 h3 h4 h6)⟩⟩
  · cases e3
theorem rd_enum (h : tI K (fun s => (ca s).bind fun (ra, s1) => match ra with
    | .bor _ => none
    | ra => match ra.flat with
      | .list xs => some (((rgD 0 xs.length).zip xs).map fun (p : D × D) => .tuple [p.1, p.2], s1)
      | .tuple xs => some (((rgD 0 xs.length).zip xs).map fun (p : D × D) => .tuple [p.1, p.2], s1)
      | _ => none) σ H Rr) : iEnumT K (tCons (tE K ca) tNil) σ H Rr := by
  obtain ⟨O, s, ds, s', k, e, q⟩ := h
  obtain ⟨⟨ra, s1⟩, ea, e2⟩ := bnd e
  simp only at e2
  refine ⟨O, s, _, _, k, ea, fun O1 v1 H1 g1 r1 f1 => ?_⟩
  have nba : ∀ i, ra ≠ .bor i := fun i z => by
    subst z
    cases e2
  have e3 : (match ra.flat with
      | .list xs => some (((rgD 0 xs.length).zip xs).map fun (p : D × D) => .tuple [p.1, p.2], s1)
      | .tuple xs => some (((rgD 0 xs.length).zip xs).map fun (p : D × D) => .tuple [p.1, p.2], s1)
      | _ => none) = some (ds, s') := by
    cases ra <;> first | exact e2 | exact absurd rfl (nba _)
  split at e3
  · rename_i xs fa
    cases e3
    obtain ⟨a, vs, ev, h1, h2, h3, h9⟩ := flat_lst2 g1.ok r1 nba fa f1
    subst ev
    exact ⟨a, rfl, .inl ⟨vs, SqL.of h1, q O1 H1 _ g1 (isw_enumL g1.ok h1 h2 h9 h3)⟩⟩
  · rename_i xs fa
    cases e3
    obtain ⟨a, vs, ev, h1, h3⟩ := flat_tup r1 nba fa
    subst ev
    exact ⟨a, rfl, .inr ⟨vs, h1, q O1 H1 _ g1 (isw_enumT g1.ok h1 h3)⟩⟩
  · cases e3
theorem small_up {a b c : Int} (ha : -(2 ^ 60) ≤ a) (ha' : a < 2 ^ 60) (hb : -(2 ^ 60) ≤ b) (hb' : b < 2 ^ 60) (hc : 0 < c) (hc' : c < 1073741824) : Builtin.Range.small a b c = true := by
  have e : Builtin.Range.rangeSize a b c = if a < b then (b - a - 1) / c + 1 else 0 := by
    unfold Builtin.Range.rangeSize
    rw [if_pos (show c > 0 from hc)]
  have h1 : a < b → 0 ≤ (b - a - 1) / c ∧ (b - a - 1) / c ≤ b - a - 1 ∧ (b - a - 1) / c * c ≤ b - a - 1 := fun h => ⟨Int.ediv_nonneg (by omega) (by omega), Int.ediv_le_self _ (by omega), Int.ediv_mul_le _ (by omega)⟩
  have h2 : ((b - a - 1) / c + 1) * c = (b - a - 1) / c * c + c := by rw [Int.add_mul]; omega
  unfold Builtin.Range.small
  rw [e]
  simp only [Builtin.Range.rangeFitsLong, Bool.and_eq_true, Bool.or_eq_true, decide_eq_true_eq, beq_iff_eq, show c > 0 from hc, if_true]
  split
  · rename_i h
    have := h1 h
    omega
  · omega
theorem rgc_of {i j k : Int} (ha : -(2 ^ 60) ≤ i) (ha' : i < 2 ^ 60) (hb : -(2 ^ 60) ≤ j) (hb' : j < 2 ^ 60) (hc : 0 < k) (hc' : k < 1073741824) : RgC i j k (rg3N i j k) := by
  refine ⟨by omega, by omega, small_up ha ha' hb hb' hc hc', ?_⟩
  unfold Builtin.Range.rangeSize rg3N
  rw [if_pos (show k > 0 from hc)]
  split
  · have : 0 ≤ (j - i - 1) / k := Int.ediv_nonneg (by omega) (by omega)
    omega
  · rfl
theorem rd_ir3 {cc : Sl → Option (R × Sl)} (h : tI K (fun s => (ca s).bind fun (ra, s1) => (cb s1).bind fun (rb, s2) => (cc s2).bind fun (rc, s3) => match ra, rb, rc with
    | .val (.int i), .val (.int j), .val (.int k) => if -(2 ^ 60) ≤ i ∧ i < 2 ^ 60 ∧ -(2 ^ 60) ≤ j ∧ j < 2 ^ 60 ∧ 0 < k ∧ k < 1073741824 then some (rg3D i k (rg3N i j k), s3) else none
    | _, _, _ => none) σ H Rr) : iRng3 (tCons (tE K ca) (tCons (tE K cb) (tCons (tE K cc) tNil))) σ H Rr := by
  obtain ⟨O, s, ds, s', k, e, q⟩ := h
  obtain ⟨⟨ra, s1⟩, ea, e1⟩ := bnd e
  obtain ⟨⟨rb, s2⟩, eb, e2⟩ := bnd e1
  obtain ⟨⟨rc, s3⟩, ec, e3⟩ := bnd e2
  simp only at e3
  split at e3
  · rename_i i j m
    split at e3
    · rename_i hz
      cases e3
      refine ⟨O, s, _, _, k, ea, fun O1 v1 H1 g1 r1 f1 => ⟨O1, _, _, _, g1.ok, eb, fun O2 v2 H2 g2 r2 f2 => ⟨O2, _, _, _, g2.ok, ec, fun O3 v3 H3 g3 r3 f3 => ⟨i, j, m, _, ?_, rgc_of hz.1 hz.2.1 hz.2.2.1 hz.2.2.2.1 hz.2.2.2.2.1 hz.2.2.2.2.2, q O3 H3 _ ((g1.trans g2).trans g3) isw_range3⟩⟩⟩⟩
      cases r1
      cases r2
      cases r3
      rfl
    · cases e3
  · cases e3
theorem min3_eq (i j k : Int) : nuMin3 (.int i) (.int j) (.int k) = some (.int (min3I i j k)) := by
  by_cases h1 : j < i
  · by_cases h2 : k < j <;> simp [nuMin3, nuMin2, nuLt, nuCB, min3I, h1, h2]
  · by_cases h2 : k < i <;> simp [nuMin3, nuMin2, nuLt, nuCB, min3I, h1, h2]
theorem rd_min3 {cc : Sl → Option (R × Sl)} {Q : VK} (h : tE K (fun s => (ca s).bind fun (ra, s1) => (cb s1).bind fun (rb, s2) => (cc s2).bind fun (rc, s3) => match ra, rb, rc with
    | .val (.int i), .val (.int j), .val (.int k) => some (.val (.int (min3I i j k)), s3)
    | _, _, _ => none) σ H Q) : tCB (rNuC3 nuMin3) (tCons (tE K ca) (tCons (tE K cb) (tCons (tE K cc) tNil))) σ H Q := by
  obtain ⟨O, s, r, s', k, e, q⟩ := h
  obtain ⟨⟨ra, s1⟩, ea, e1⟩ := bnd e
  obtain ⟨⟨rb, s2⟩, eb, e2⟩ := bnd e1
  obtain ⟨⟨rc, s3⟩, ec, e3⟩ := bnd e2
  simp only at e3
  split at e3
  · rename_i i j m
    cases e3
    refine ⟨O, s, _, _, k, ea, fun O1 v1 H1 g1 r1 f1 => ⟨O1, _, _, _, g1.ok, eb, fun O2 v2 H2 g2 r2 f2 => ⟨O2, _, _, _, g2.ok, ec, fun O3 v3 H3 g3 r3 f3 => ⟨.int i, .int j, .int m, .int (min3I i j m), ?_, min3_eq i j m, (q.behind ((g1.trans g2).trans g3)).val g3.ok (.int _)⟩⟩⟩⟩
    cases r1
    cases r2
    cases r3
    rfl
  · cases e3
theorem ints_vals : ∀ {vs : List V} {xs : List D} {ns : List Int} {O : Addr → Prop}, DenAll K O H vs xs → intsL xs = some ns → vs = ns.map V.int
  | _, [], ns, O, h, e => by
    cases h
    cases e
    rfl
  | _, x :: xs, ns, O, .cons r t, e => by
    cases x <;> first | cases e | skip
    rename_i i
    obtain ⟨ms, e1, e2⟩ := mpd e
    subst e2
    cases r
    rw [ints_vals t e1]
    rfl
theorem rd_nset {Q : VK} (h : tE K (fun s => (ca s).bind fun (ra, s1) => (ra.get s1).bind fun x => (nsetD x).map fun r => (r, s1)) σ H Q) : RZ.tLenSetI K (tE K ca) σ H Q := by
  obtain ⟨O, s, r, s', k, e, q⟩ := h
  obtain ⟨⟨ra, s1⟩, ea, e1⟩ := bnd e
  obtain ⟨x, ex, e2⟩ := bnd e1
  obtain ⟨r', er, e3⟩ := mpd e2
  cases e3
  unfold nsetD at er
  split at er
  · rename_i xs
    obtain ⟨ns, en, er⟩ := bnd er
    split at er
    · rename_i hz
      cases er
      refine ⟨O, s, _, _, k, ea, fun O1 v1 H1 g1 r1 f1 => ?_⟩
      have : ∃ a vs, v1 = .ref a ∧ H1 a = some (.lst vs) ∧ DenAll K O1 H1 vs xs := by
        exact (r1.top g1.ok ex).lst
      obtain ⟨a, vs, rfl, h1, h2⟩ := this
      have ev := ints_vals h2 en
      subst ev
      exact ⟨a, ns, rfl, SqL.of h1, hz.1, hz.2, (q.behind g1).val g1.ok (.int _)⟩
    · cases er
  · cases er
theorem rd_yes {Q : Bool → Hp → Prop} (h : tT K (fun s => some (true, s)) σ H Q) : tYes σ H Q := by
  obtain ⟨O, s, b, s', k, e, q⟩ := h
  cases e
  exact q O H (Go.refl k)
end
theorem noSet_ok {e : Expr} (h : noSet e = true) (env : PySem.Env) : ∀ x, foldedSetIterable e env x = pure x := by
  cases e <;> first | exact fun _ => rfl | cases h
theorem _root_.L2.PTs.imp {e : List Expr} {t u : TT} (h : PTs X e t) (i : ∀ σ H Q, u σ H Q → t σ H Q) : PTs X e u := ⟨fun pins s σ H Q I q => h.run pins s σ H Q I (i _ _ _ q)⟩
end
end Mi

set_option Elab.async false
set_option linter.all false
set_option maxRecDepth 100000
set_option maxHeartbeats 4000000
/-! Mi: every expression of the text does what its tree says (the theorem). -/
namespace Mi
open PySem L2 PyProof.Rows

section
variable {X : Cx} {T : Stc} {Φ : Phi}
def isBo : Expr → Bool
  | .BoolOp .. => true
  | _ => false
/-- expressions whose test is their value's truth -/
def plainTest : Expr → Bool
  | .Name .. => true
  | .Constant .. => true
  | .Subscript .. => true
  | .Call .. => true
  | .Tuple .. => true
  | .List .. => true
  | .ListComp .. => true
  | .BinOp .. => true
  | .UnaryOp .USub _ _ => true
  | _ => false
theorem plainTest_ok {e : Expr} (h : plainTest e = true) (env : PySem.Env) : ∀ whole, isTrue e env whole = (do let v ← whole; standAt e.pos; holding [v] (truthy v)) := by
  cases e <;> first | exact fun _ => rfl | cases h | skip
  rename_i op a b
  cases op <;> first | exact fun _ => rfl | cases h
def needsT : E → Bool
  | .not _ => true
  | .and _ _ => true
  | .or _ _ => true
  | .cmp _ _ _ => true
  | .cmp2 _ _ _ _ _ => true
  | .ite _ _ _ => true
  | _ => false
theorem plain_of {a : E} {e : Expr} {sc : Scope} (h : chkE T a e sc = true) (n : needsT a = false) : plainTest e = true := by
  cases e with
  | Name => rfl
  | Constant => rfl
  | Subscript => rfl
  | Call => rfl
  | Tuple => rfl
  | List => rfl
  | ListComp => rfl
  | BinOp => rfl
  | UnaryOp op x p =>
    cases a <;> first | exact absurd h Bool.false_ne_true | exact Bool.noConfusion n | skip
    simp only [chkE, Bool.and_eq_true, decide_eq_true_eq] at h
    rw [h.1]
    rfl
  | _ => cases a <;> first | exact absurd h Bool.false_ne_true | (first | exact Bool.noConfusion n | (exact absurd n (by simp [needsT])))
theorem noBo {e : Expr} {p : Prop} (h : isBo e = true) (f : ∀ o l pos, e = .BoolOp o l pos → p) : p := by
  cases e <;> first | exact f _ _ _ rfl | cases h
def POE (X : Cx) (Φ : Phi) : Oe → Option Expr → Prop
  | .none, none => True
  | .some a, some t => notStar t = true ∧ PE X t (tE X.K (ev Φ a))
  | _, _ => False
def POT (X : Cx) (Φ : Phi) : Oe → Option Expr → Prop
  | .none, none => True
  | .some a, some t => PT X t (tT X.K (evB (ev Φ a)))
  | _, _ => False
theorem rg_of (c : Cok X T Φ) {a : Oe} {t : Option Expr} {b : E} {u : Expr} {p q : Pos} (hz : glB X.env.scope "range" = true) (ha : POE X Φ a t) (hb : PE X u (tE X.K (ev Φ b))) (nb : notStar u = true) : PRg X (.Call (.Name "range" p) (t.toList ++ [u]) [] q) (tRgc X.K (evo Φ a) (ev Φ b)) := by
  rcases a with _ | a <;> rcases t with _ | t
  · exact prg_imp (prg_1 (gl_ok hz) (c.bt _ (by decide +kernel)) hb (eval_star nb [] X.env)) fun σ H Q hh => rd_rg1 hh
  · exact ha.elim
  · exact ha.elim
  · exact prg_imp (prg_2 (gl_ok hz) (c.bt _ (by decide +kernel)) ha.2 hb (eval_star ha.1 [u] X.env) (eval_star nb [] X.env) (by rw [eval_star nb]; rfl)) fun σ H Q hh => rd_rg2 hh
theorem pts_of {co : Oe} {o : Option Expr} (h : POT X Φ co o) : PTs X o.toList (tT X.K (fun s => evo' Φ co s)) := by
  rcases co with _ | co <;> rcases o with _ | ce
  · exact pts_nil.imp fun σ H Q hh => rd_yes hh
  · exact h.elim
  · exact h.elim
  · exact pts_one h
theorem ir_of (c : Cok X T Φ) {tg : Expr} {a : Oe} {t : Option Expr} {b : E} {u : Expr} {p q : Pos} (hg : glB X.env.scope "range" = true) (ha : POE X Φ a t) (hb : PE X u (tE X.K (ev Φ b))) (nb : notStar u = true) : PI X tg (.Call (.Name "range" p) (t.toList ++ [u]) [] q) (tI X.K (evI Φ (.rng a b))) := by
  rcases a with _ | a <;> rcases t with _ | t
  · exact (pi_range1 (gl_ok hg) (c.bt _ (by decide +kernel)) (pa_cons hb pa_nil (eval_star nb [] X.env)) (eval_star nb [] X.env)).imp fun σ H Q hh => rd_ir1 hh
  · exact ha.elim
  · exact ha.elim
  · exact (pi_range2 (gl_ok hg) (c.bt _ (by decide +kernel)) (pa_cons ha.2 (pa_cons hb pa_nil (eval_star nb [] X.env)) (eval_star ha.1 [u] X.env)) (by rw [eval_star ha.1, eval_star nb]; rfl) (eval_star nb [] X.env)).imp fun σ H Q hh => rd_ir2 hh
mutual
theorem sE {X : Cx} (c : Cok X T Φ) : ∀ (a : E) (e : Expr), chkE T a e X.env.scope = true → PE X e (tE X.K (ev Φ a))
  | .slot i, e, h => by
    cases e with
    | Name x pos =>
      simp only [chkE, Bool.and_eq_true, decide_eq_true_eq] at h
      obtain ⟨d1, d2, _⟩ := plainN_ok h.2
      refine (pe_var (i := i) (by rw [c.nEq]; exact h.1.1) (vis_ok h.1.2) d1 d2).imp fun σ H Q ⟨O, s, r, s', k, e, q⟩ => ?_
      unfold ev at e
      split at e
      · rename_i d hd
        cases e
        obtain ⟨v, e1, h1⟩ := k.val i d hd
        exact ⟨v, e1, q.val k h1⟩
      · rename_i p xs hd
        cases e
        obtain ⟨a, vs, e1, _⟩ := k.own i p xs hd
        exact ⟨.ref a, e1, q O _ H (Go.refl k) ⟨e1, p, xs, hd⟩ fun _ _ z => nomatch z⟩
      · cases e
    | _ => exact absurd h Bool.false_ne_true
  | .lit l, e, h => by
    cases e with
    | Constant k j pos =>
      have h : litB l k = true := h
      have key : ∀ (v : V), (∀ K O H, Den K O H v l.d) → PE X (.Constant k j pos) (tC v) → PE X (.Constant k j pos) (tE X.K (ev Φ (.lit l))) := fun v hv p => p.imp fun σ H Q ⟨O, s, r, s', kk, e, q⟩ => by
        cases e
        exact q.val kk (hv _ _ _)
      cases l <;> cases k <;> first | exact absurd h Bool.false_ne_true | skip
      · have e := of_decide_eq_true (show decide _ = true from h)
        subst e
        exact key (.int _) (fun _ _ _ => .int _) pe_int
      · have e := of_decide_eq_true (show decide _ = true from h)
        subst e
        exact key (.bl _) (fun _ _ _ => .bl _) pe_bl
      · exact key .non (fun _ _ _ => .non) pe_non
      · have e := of_decide_eq_true (show decide _ = true from h)
        subst e
        exact key (.str _) (fun _ _ _ => .str _) pe_str
    | _ => exact absurd h Bool.false_ne_true
  | .gc j, e, h => by
    cases e with
    | Name x pos =>
      simp only [chkE, Bool.and_eq_true, decide_eq_true_eq] at h
      obtain ⟨d1, d2, _⟩ := plainN_ok h.2
      obtain ⟨u, v, hm, hr, hd⟩ := c.gc j x h.1.1
      refine (pe_glob (gl_ok h.1.2) hm hr d1).imp fun σ H Q ⟨O, s, r, s', kk, e, q⟩ => ?_
      cases e
      exact q.val kk (hd _ _)
    | _ => exact absurd h Bool.false_ne_true
  | .bin op a b, e, h => by
    cases e with
    | BinOp l o r pos =>
      simp only [chkE, Bool.and_eq_true, decide_eq_true_eq] at h
      obtain ⟨⟨rfl, ha⟩, hb⟩ := h
      obtain ⟨r2, ho, hs⟩ := bin_ok (X := X) op
      exact (pe_op ho (sE c a l ha) (sE c b r hb)).imp fun σ H Q hh => rd_op hs hh
    | _ => exact absurd h Bool.false_ne_true
  | .neg a, e, h => by
    cases e with
    | UnaryOp o x pos =>
      simp only [chkE, Bool.and_eq_true, decide_eq_true_eq] at h
      obtain ⟨rfl, ha⟩ := h
      refine (pe_un un_neg (sE c a x ha)).imp fun σ H Q ⟨O, s, r, s', k, e, q⟩ => ?_
      obtain ⟨⟨ra, s1⟩, ea, e1⟩ := bnd e
      simp only at e1
      split at e1
      · rename_i i
        cases e1
        refine ⟨O, s, _, _, k, ea, fun O1 v1 H1 g1 r1 f1 => ⟨i, ?_, (q.behind g1).val g1.ok (.int _)⟩⟩
        cases r1
        rfl
      · cases e1
    | _ => exact absurd h Bool.false_ne_true
  | .not a, e, h => by
    cases e with
    | UnaryOp o x pos =>
      simp only [chkE, Bool.and_eq_true, decide_eq_true_eq] at h
      obtain ⟨rfl, ha⟩ := h
      exact (pe_not (sE c a x ha)).imp fun σ H Q hh => rd_notV hh
    | _ => exact absurd h Bool.false_ne_true
  | .and a b, e, h => by
    cases e with
    | BoolOp op vs pos =>
      cases op with
      | Or => exact absurd h Bool.false_ne_true
      | And =>
        match vs, h with
        | [], h => exact absurd h Bool.false_ne_true
        | [_], h => exact absurd h Bool.false_ne_true
        | [l, r], h =>
          simp only [chkE, Bool.and_eq_true] at h
          exact (pe_and (sE c a l h.1) (pe_one (sE c b r h.2))).imp fun σ H Q hh => rd_andV hh
        | l :: r :: r2 :: rest, h =>
          simp only [chkE, Bool.and_eq_true] at h
          exact (pe_and (sE c a l h.1) (sE c b _ h.2)).imp fun σ H Q hh => rd_andV hh
    | _ => exact absurd h Bool.false_ne_true
  | .or a b, e, h => by
    cases e with
    | BoolOp op vs pos =>
      cases op with
      | And => exact absurd h Bool.false_ne_true
      | Or =>
        match vs, h with
        | [], h => exact absurd h Bool.false_ne_true
        | [_], h => exact absurd h Bool.false_ne_true
        | [l, r], h =>
          simp only [chkE, Bool.and_eq_true] at h
          exact (pe_or (sE c a l h.1) (pe_one (sE c b r h.2))).imp fun σ H Q hh => rd_orV hh
        | l :: r :: r2 :: rest, h =>
          simp only [chkE, Bool.and_eq_true] at h
          exact (pe_or (sE c a l h.1) (sE c b _ h.2)).imp fun σ H Q hh => rd_orV hh
    | _ => exact absurd h Bool.false_ne_true
  | .cmp op a b, e, h => by
    cases e with
    | Compare l os rs pos =>
      match os, rs, h with
      | [o], [r], h =>
        simp only [chkE, Bool.and_eq_true, decide_eq_true_eq] at h
        obtain ⟨⟨⟨rfl, hn⟩, ha⟩, hb⟩ := h
        obtain ⟨r2, ho, hs⟩ := cmp_ok (X := X) (by have := c.un; omega) op
        exact (pe_cmpR ho (sE c a l ha) (sE c b r hb) (by cases r <;> first | rfl | exact absurd hn Bool.false_ne_true)).imp fun σ H Q hh => rd_cmp hs hh
      | [], _, h => exact absurd h Bool.false_ne_true
      | [_], [], h => exact absurd h Bool.false_ne_true
      | [_], _ :: _ :: _, h => exact absurd h Bool.false_ne_true
      | _ :: _ :: _, _, h => exact absurd h Bool.false_ne_true
    | _ => exact absurd h Bool.false_ne_true
  | .cmp2 op op' a b c', e, h => by
    cases e with
    | Compare l os rs pos =>
      match os, rs, h with
      | [o, o'], [m, r], h =>
        simp only [chkE, Bool.and_eq_true, decide_eq_true_eq] at h
        obtain ⟨⟨⟨⟨⟨rfl, rfl⟩, hn⟩, ha⟩, hb⟩, hc⟩ := h
        obtain ⟨r2, ho, hs⟩ := cmp_ok (X := X) (by have := c.un; omega) op
        obtain ⟨r2', ho', hs'⟩ := cmp_ok (X := X) (by have := c.un; omega) op'
        exact (pe_chain ho ho' (sE c a l ha) (sE c b m hb) (sE c c' r hc) (by cases r <;> first | rfl | exact absurd hn Bool.false_ne_true)).imp fun σ H Q hh => rd_chain hs hs' hh
      | [], _, h => exact absurd h Bool.false_ne_true
      | [_], _, h => exact absurd h Bool.false_ne_true
      | [_, _], [], h => exact absurd h Bool.false_ne_true
      | [_, _], [_], h => exact absurd h Bool.false_ne_true
      | [_, _], _ :: _ :: _ :: _, h => exact absurd h Bool.false_ne_true
      | _ :: _ :: _ :: _, _, h => exact absurd h Bool.false_ne_true
    | _ => exact absurd h Bool.false_ne_true
  | .ite t a b, e, h => by
    cases e with
    | IfExp u x y pos =>
      simp only [chkE, Bool.and_eq_true] at h
      exact (pe_ifExp (sT c t u h.1.1) (sE c a x h.1.2) (sE c b y h.2)).imp fun σ H Q hh => rd_ite hh
    | _ => exact absurd h Bool.false_ne_true
  | .tup es, e, h => by
    cases e with
    | Tuple l kk pos => exact (pe_tup (sEs c es l h)).imp fun σ H Q hh => rd_tup hh
    | _ => exact absurd h Bool.false_ne_true
  | .lst es, e, h => by
    cases e with
    | List l pos => exact (pe_lst (sEs c es l h)).imp fun σ H Q hh => rd_lst hh
    | _ => exact absurd h Bool.false_ne_true
  | .ix a i, e, h => by
    cases e with
    | Subscript v x pos =>
      simp only [chkE, Bool.and_eq_true] at h
      obtain ⟨r2, ho, hs⟩ := ix_ok (X := X)
      exact (pe_ix ho (sE c a v h.1) (sE c i x h.2) (plainIx_of h.2)).imp fun σ H Q hh => rd_ix hs hh
    | _ => exact absurd h Bool.false_ne_true
  | .sl a lo hi, e, h => by
    cases e with
    | Subscript v x pos =>
      cases x with
      | Slice l u st pos2 =>
        cases st with
        | none =>
          simp only [chkE, Bool.and_eq_true] at h
          obtain ⟨r2, ho, hs⟩ := sl_ok (X := X)
          exact (pe_slice ho (sE c a v h.1.1) (sO c lo l h.1.2) (sO c hi u h.2)).imp fun σ H Q hh => rd_sl hs hh
        | some _ => exact absurd h Bool.false_ne_true
      | _ => exact absurd h Bool.false_ne_true
    | _ => exact absurd h Bool.false_ne_true
  | .f1 f a, e, h => by
    cases e with
    | Call fn args kws pos =>
      cases fn with
      | Name x p =>
        match args, kws, h with
        | [y], [], h =>
          simp only [chkE, Bool.and_eq_true, decide_eq_true_eq] at h
          obtain ⟨⟨rfl, hg⟩, ha⟩ := h
          obtain ⟨r1, ho, hs⟩ := f1_ok c.calm c.gu (by have := c.un; omega) f
          exact (pe_b1 ho (gl_ok hg) (c.bt _ (f1_mem f)) (sE c a y ha) (chkE_star ha)).imp fun σ H Q hh => rd_c1 hs hh
        | [], _, h => exact absurd h Bool.false_ne_true
        | [_], _ :: _, h => exact absurd h Bool.false_ne_true
        | _ :: _ :: _, _, h => exact absurd h Bool.false_ne_true
      | _ => exact absurd h Bool.false_ne_true
    | _ => exact absurd h Bool.false_ne_true
  | .f2 f a b, e, h => by
    cases e with
    | Call fn args kws pos =>
      cases fn with
      | Name x p =>
        match args, kws, h with
        | [y, z], [], h =>
          simp only [chkE, Bool.and_eq_true, decide_eq_true_eq] at h
          obtain ⟨⟨⟨rfl, hg⟩, ha⟩, hb⟩ := h
          obtain ⟨r1, ho, hs⟩ := f2_ok c.calm f
          exact (pe_b2 ho (gl_ok hg) (c.bt _ (f2_mem f)) (sE c a y ha) (chkE_star ha) (sE c b z hb) (chkE_star hb)).imp fun σ H Q hh => rd_c2 hs hh
        | [], _, h => exact absurd h Bool.false_ne_true
        | [_], _, h => exact absurd h Bool.false_ne_true
        | [_, _], _ :: _, h => exact absurd h Bool.false_ne_true
        | _ :: _ :: _ :: _, _, h => exact absurd h Bool.false_ne_true
      | _ => exact absurd h Bool.false_ne_true
    | _ => exact absurd h Bool.false_ne_true
  | .isT t a, e, h => by
    simp only [chkE] at h
    split at h
    · rename_i x y z hv
      obtain ⟨p, pz, q, rfl⟩ := isiV_ok hv
      simp only [Bool.and_eq_true, decide_eq_true_eq] at h
      obtain ⟨⟨⟨⟨rfl, hg⟩, rfl⟩, hz⟩, ha⟩ := h
      have hn : t.nm ≠ "__name__" ∧ (t.nm == ("__debug__" : Str)) = false := by cases t <;> decide +kernel
      exact (pe_callB call_isi (gl_ok hg) (c.bt _ (by decide +kernel)) (by decide +kernel) (pa_cons (sE c a y ha) (pa_cons (pe_bltn (v := .ty t.s) (gl_ok hz) (c.bt _ (ty_mem t)) t.boot rfl hn.1 hn.2) pa_nil rfl) (eval_star (chkE_star ha) _ X.env)) (by decide) (by decide) (eval_star (chkE_star ha) _ X.env) rfl).imp
        fun σ H Q hh => rd_isT hh
    · cases h
  | .rng tup a b, e, h => by
    simp only [chkE] at h
    split at h
    · rename_i x y t u hv
      obtain ⟨p, p2, q, q2, rfl⟩ := rngV_ok hv
      simp only [Bool.and_eq_true, decide_eq_true_eq] at h
      obtain ⟨⟨⟨⟨⟨hx, hg⟩, rfl⟩, hz⟩, hta⟩, hb⟩ := h
      have rg := rg_of (p := p2) (q := q2) c hz (sOE c a t hta) (sE c b u hb) (chkE_star hb)
      cases tup with
      | true =>
        have hx : x = "tuple" := hx
        subst hx
        exact (pe_tupRg c.calm (gl_ok hg) (c.bt _ (by decide +kernel)) rg rfl).imp fun σ H Q hh => by
          obtain ⟨O, s, lo, j, s1, s', k, el, eb, q⟩ := rng_tail (tup := true) σ H Q hh
          exact ⟨O, s, lo, j, s1, s', k, el, eb, fun O' H' g => by simpa using q O' H' g⟩
      | false =>
        have hx : x = "list" := hx
        subst hx
        exact (pe_listRg c.calm (gl_ok hg) (c.bt _ (by decide +kernel)) rg rfl).imp fun σ H Q hh => by
          obtain ⟨O, s, lo, j, s1, s', k, el, eb, q⟩ := rng_tail (tup := false) σ H Q hh
          exact ⟨O, s, lo, j, s1, s', k, el, eb, fun O' H' g => by simpa using q O' H' g⟩
    · cases h
  | .call k as, e, h => by
    simp only [chkE] at h
    split at h
    · rename_i x args kws hv
      obtain ⟨p, q, rfl⟩ := cV_ok hv
      simp only [Bool.and_eq_true, decide_eq_true_eq, List.isEmpty_iff] at h
      obtain ⟨⟨⟨⟨rfl, hf⟩, hg⟩, hp⟩, hA⟩ := h
      obtain ⟨lv, f, fd, ps, F, hr, hm, hk, hb, hl, _⟩ := c.fn _ _ _ hf
      cases args with
      | nil =>
        cases as with
        | nil => exact (pe_callG0 F hr c.gu (gl_ok hg) hm hk hb (plainN_ok hp).1).imp fun σ H Q hh => rd_call0 hl.symm hh
        | _ => exact absurd hA Bool.false_ne_true
      | cons e es =>
        have hs := chkA_star hA
        exact (pe_callG F hr c.gu (gl_ok hg) hm hk hb (sA c as (e :: es) hA) (plainN_ok hp).1 hs.1 (hs.2 _ _)).imp fun σ H Q hh => rd_call hl.symm hh
    · cases h
  | .callK k as kw ks, e, h => by
    simp only [chkE] at h
    split at h
    · rename_i x args kws hv
      obtain ⟨p, q, rfl⟩ := cV_ok hv
      simp only [Bool.and_eq_true, decide_eq_true_eq] at h
      obtain ⟨⟨⟨⟨⟨hf, hg⟩, hp⟩, hkp⟩, hA⟩, hK⟩ := h
      obtain ⟨n, hf⟩ := nmV_ok hf
      obtain ⟨lv, f, fd, ps, F, hr, hm, hk, hb, hl, hkk⟩ := c.fn _ _ _ hf
      obtain ⟨hnm, hbt⟩ := hkk _ _ _ hkp
      obtain ⟨k1, k2, k3, k4⟩ := chkK_kw hK q X.env
      cases args with
      | nil =>
        cases as with
        | nil => exact (pe_callGK0 F hr c.gu (gl_ok hg) hm hk hbt (sK c ks kws hK) (plainN_ok hp).1 k1 k2 (by rw [k3]; rfl)).imp fun σ H Q hh => rd_callK0 (k4 Φ) (hnm.trans hl.symm) hh
        | _ => exact absurd hA Bool.false_ne_true
      | cons e es =>
        have hs := chkA_star hA
        exact (pe_callGK F hr c.gu (gl_ok hg) hm hk hbt (sA c as (e :: es) hA) (sK c ks kws hK) (plainN_ok hp).1 k1 k2 hs.1 (by rw [k3, chkA_ns hA]; rfl)).imp fun σ H Q hh => rd_callK rfl (k4 Φ) (hnm.trans hl.symm) hh
    · cases h
  | .comp own tg it co el, x, h => by
    simp only [chkE] at h
    split at h
    · rename_i elt t i ifs scope hv
      obtain ⟨q, rfl⟩ := lcV_ok hv
      split at h
      · rename_i o ho
        have ho := ifV_ok ho
        subst ho
        simp only [Bool.and_eq_true] at h
        obtain ⟨⟨⟨⟨⟨⟨hb, hi⟩, hn⟩, ht⟩, hc⟩, he⟩, hx⟩ := h
        have hix : ∀ i ∈ tg.ix, i ∈ own.map (·.2) := fun i z => List.contains_iff_mem.mp (List.all_eq_true.mp hx i z)
        exact (pe_lc (tt := tT X.K (fun s => evo' Φ co s)) (te := tE X.K (fun s => ev Φ el s)) (g := tG X.K tg) c.calm c.nd (sI c it t i hi) (blkOk_by (by rw [c.nEq]; exact hb)) (fun s H C cl fp => sTg (c.blk s H scope _ fp) tg t ht) (fun s H C cl fp => pts_of (sOT (c.blk s H scope _ fp) co o hc)) (fun s H C cl fp => sE (c.blk s H scope _ fp) el elt he) (noSet_ok hn X.env)).imp fun σ H Q hh => tLc_of hix σ H Q hh
      · simp at h
    · cases h
  | .m1 _ _ _, _, h => absurd h Bool.false_ne_true
  | .comp2 own tg it tg1 it1 el, x, h => by
    simp only [chkE] at h
    split at h
    · rename_i elt t i t1 i1 scope hv
      obtain ⟨q, rfl⟩ := lc2V_ok hv
      simp only [Bool.and_eq_true] at h
      obtain ⟨⟨⟨⟨⟨⟨⟨⟨⟨⟨hb, hi⟩, hn⟩, ht⟩, hi1⟩, hn1⟩, ht1⟩, he⟩, hx⟩, hx1⟩, hd⟩ := h
      have hix : ∀ i ∈ tg.ix, i ∈ own.map (·.2) := fun i z => List.contains_iff_mem.mp (List.all_eq_true.mp hx i z)
      have hix1 : ∀ i ∈ tg1.ix, i ∈ own.map (·.2) := fun i z => List.contains_iff_mem.mp (List.all_eq_true.mp hx1 i z)
      have hdj : ∀ i ∈ tg1.ix, i ∉ tg.ix := fun i z y => by
        have := List.all_eq_true.mp hd i z
        rw [List.contains_iff_mem.mpr y] at this
        exact Bool.false_ne_true this
      exact (pe_lc2 (tt := tT X.K fun s => some (true, s)) (tt1 := tT X.K fun s => some (true, s)) (te := tE X.K (fun s => ev Φ el s)) (g := tG X.K tg) (g1 := tG X.K tg1) (wi1 := tI X.K (fun s => evI Φ it1 s)) (vs1 := tg1.ix) c.calm c.nd (sI c it t i hi) (blkOk_by (by rw [c.nEq]; exact hb)) hix1
        (fun s H C cl fp => sTg (c.blk s H scope _ fp) tg t ht) (fun s H C cl fp => pts_nil.imp fun σ H Q hh => rd_yes hh) (fun s H C cl fp => sI (c.blk s H scope _ fp) it1 t1 i1 hi1) (fun s H C cl fp => sTg (c.blk s H scope _ fp) tg1 t1 ht1) (fun s H C cl fp => pts_nil.imp fun σ H Q hh => rd_yes hh)
        (fun s H C cl fp => sE (c.blk s H scope _ fp) el elt he) (noSet_ok hn X.env) (fun env x => noSet_ok hn1 env x)).imp fun σ H Q hh => tLc2_of hix hix1 hdj σ H Q hh
    · cases h
  | .min3 a b d, x, h => by
    simp only [chkE] at h
    split at h
    · rename_i y t u v hv
      obtain ⟨p, q, rfl⟩ := c3V_ok hv
      simp only [Bool.and_eq_true, decide_eq_true_eq] at h
      obtain ⟨⟨⟨⟨rfl, hg⟩, ha⟩, hb⟩, hd⟩ := h
      have n1 := chkE_star ha
      have n2 := chkE_star hb
      have n3 := chkE_star hd
      have pa := pa_cons (sE c a t ha) (pa_cons (sE c b u hb) (pa_cons (sE c d v hd) pa_nil (eval_star n3 [] X.env)) (eval_star n2 [v] X.env)) (eval_star n1 [u, v] X.env)
      exact (pe_callB (call_min3Nu c.calm) (gl_ok hg) (c.bt _ (by decide +kernel)) F2.min.boot pa (by decide) (by decide) (eval_star n1 [u, v] X.env) (by rw [eval_star n2, eval_star n3]; rfl)).imp fun σ H Q hh => rd_min3 hh
    · cases h
  | .nset a, x, h => by
    simp only [chkE] at h
    split at h
    · rename_i y z t hv
      obtain ⟨p, p2, q, q2, rfl⟩ := lsV_ok hv
      simp only [Bool.and_eq_true, decide_eq_true_eq] at h
      obtain ⟨⟨⟨⟨rfl, hg⟩, rfl⟩, hz⟩, ha⟩ := h
      exact (RZ.pe_lenSetI (gl_ok hg) (c.bt _ (by decide +kernel)) (gl_ok hz) (c.bt _ (by decide +kernel)) (sE c a t ha) c.calm (eval_star (chkE_star ha) [] X.env)).imp fun σ H Q hh => rd_nset hh
    · cases h
termination_by a _ _ => (sizeOf a, 0)
theorem sW {X : Cx} (c : Cok X T Φ) : ∀ (a : E) (e : Expr), isBo e = true → chkE T a e X.env.scope = true → PW X e (tT X.K (evB (ev Φ a)))
  | .and a b, e, hb, h => by
    cases e with
    | BoolOp op vs pos =>
      cases op with
      | Or => exact absurd h Bool.false_ne_true
      | And =>
        match vs, h with
        | [], h => exact absurd h Bool.false_ne_true
        | [_], h => exact absurd h Bool.false_ne_true
        | [l, r], h =>
          simp only [chkE, Bool.and_eq_true] at h
          exact ⟨fun wh pins s σ H Q I hh => (pw_and (sT c a l h.1) (pw_and1 (sT c b r h.2))).run wh pins s σ H Q I (rd_and hh)⟩
        | l :: r :: r2 :: rest, h =>
          simp only [chkE, Bool.and_eq_true] at h
          exact ⟨fun wh pins s σ H Q I hh => (pw_and (sT c a l h.1) (sW c b (.BoolOp .And (r :: r2 :: rest) pos) rfl h.2)).run wh pins s σ H Q I (rd_and hh)⟩
    | _ => cases hb
  | .or a b, e, hb, h => by
    cases e with
    | BoolOp op vs pos =>
      cases op with
      | And => exact absurd h Bool.false_ne_true
      | Or =>
        match vs, h with
        | [], h => exact absurd h Bool.false_ne_true
        | [_], h => exact absurd h Bool.false_ne_true
        | [l, r], h =>
          simp only [chkE, Bool.and_eq_true] at h
          exact ⟨fun wh pins s σ H Q I hh => (pw_or (sT c a l h.1) (pw_or1 (sT c b r h.2))).run wh pins s σ H Q I (rd_or hh)⟩
        | l :: r :: r2 :: rest, h =>
          simp only [chkE, Bool.and_eq_true] at h
          exact ⟨fun wh pins s σ H Q I hh => (pw_or (sT c a l h.1) (sW c b (.BoolOp .Or (r :: r2 :: rest) pos) rfl h.2)).run wh pins s σ H Q I (rd_or hh)⟩
    | _ => cases hb
  | .slot x0, e, hb, h => noBo hb fun _ _ _ z => by
    subst z
    exact absurd h Bool.false_ne_true
  | .lit x0, e, hb, h => noBo hb fun _ _ _ z => by
    subst z
    exact absurd h Bool.false_ne_true
  | .gc x0, e, hb, h => noBo hb fun _ _ _ z => by
    subst z
    exact absurd h Bool.false_ne_true
  | .bin x0 x1 x2, e, hb, h => noBo hb fun _ _ _ z => by
    subst z
    exact absurd h Bool.false_ne_true
  | .neg x0, e, hb, h => noBo hb fun _ _ _ z => by
    subst z
    exact absurd h Bool.false_ne_true
  | .not x0, e, hb, h => noBo hb fun _ _ _ z => by
    subst z
    exact absurd h Bool.false_ne_true
  | .cmp x0 x1 x2, e, hb, h => noBo hb fun _ _ _ z => by
    subst z
    exact absurd h Bool.false_ne_true
  | .cmp2 x0 x1 x2 x3 x4, e, hb, h => noBo hb fun _ _ _ z => by
    subst z
    exact absurd h Bool.false_ne_true
  | .ite x0 x1 x2, e, hb, h => noBo hb fun _ _ _ z => by
    subst z
    exact absurd h Bool.false_ne_true
  | .tup x0, e, hb, h => noBo hb fun _ _ _ z => by
    subst z
    exact absurd h Bool.false_ne_true
  | .lst x0, e, hb, h => noBo hb fun _ _ _ z => by
    subst z
    exact absurd h Bool.false_ne_true
  | .ix x0 x1, e, hb, h => noBo hb fun _ _ _ z => by
    subst z
    exact absurd h Bool.false_ne_true
  | .sl x0 x1 x2, e, hb, h => noBo hb fun _ _ _ z => by
    subst z
    exact absurd h Bool.false_ne_true
  | .f1 x0 x1, e, hb, h => noBo hb fun _ _ _ z => by
    subst z
    exact absurd h Bool.false_ne_true
  | .f2 x0 x1 x2, e, hb, h => noBo hb fun _ _ _ z => by
    subst z
    exact absurd h Bool.false_ne_true
  | .isT x0 x1, e, hb, h => noBo hb fun _ _ _ z => by
    subst z
    exact absurd h Bool.false_ne_true
  | .rng x0 x1 x2, e, hb, h => noBo hb fun _ _ _ z => by
    subst z
    exact absurd h Bool.false_ne_true
  | .call x0 x1, e, hb, h => noBo hb fun _ _ _ z => by
    subst z
    exact absurd h Bool.false_ne_true
  | .callK x0 x1 x2 x3, e, hb, h => noBo hb fun _ _ _ z => by
    subst z
    exact absurd h Bool.false_ne_true
  | .comp x0 x1 x2 x3 x4, e, hb, h => noBo hb fun _ _ _ z => by
    subst z
    exact absurd h Bool.false_ne_true
  | .m1 x0 x1 x2, e, hb, h => noBo hb fun _ _ _ z => by
    subst z
    exact absurd h Bool.false_ne_true
  | .comp2 x0 x1 x2 x3 x4 x5, e, hb, h => noBo hb fun _ _ _ z => by
    subst z
    exact absurd h Bool.false_ne_true
  | .min3 x0 x1 x2, e, hb, h => noBo hb fun _ _ _ z => by
    subst z
    exact absurd h Bool.false_ne_true
  | .nset x0, e, hb, h => noBo hb fun _ _ _ z => by
    subst z
    exact absurd h Bool.false_ne_true
termination_by a _ _ _ => (sizeOf a, 1)
theorem sT {X : Cx} (c : Cok X T Φ) : ∀ (a : E) (e : Expr), chkE T a e X.env.scope = true → PT X e (tT X.K (evB (ev Φ a)))
  | .not a, e, h => by
    cases e with
    | UnaryOp o x pos =>
      simp only [chkE, Bool.and_eq_true, decide_eq_true_eq] at h
      obtain ⟨rfl, ha⟩ := h
      exact (pt_not (sT c a x ha)).imp fun σ H Q hh => rd_not hh
    | _ => exact absurd h Bool.false_ne_true
  | .and a b, e, h => by
    cases e with
    | BoolOp op vs pos => exact (sW c (.and a b) _ rfl h).pt
    | _ => exact absurd h Bool.false_ne_true
  | .or a b, e, h => by
    cases e with
    | BoolOp op vs pos => exact (sW c (.or a b) _ rfl h).pt
    | _ => exact absurd h Bool.false_ne_true
  | .cmp op a b, e, h => by
    cases e with
    | Compare l os rs pos =>
      match os, rs, h with
      | [o], [r], h =>
        simp only [chkE, Bool.and_eq_true, decide_eq_true_eq] at h
        obtain ⟨⟨⟨rfl, hn⟩, ha⟩, hb⟩ := h
        obtain ⟨r2, ho, hs⟩ := cmp_ok (X := X) (by have := c.un; omega) op
        exact (pt_cmpR ho (sE c a l ha) (sE c b r hb) (by cases r <;> first | rfl | exact absurd hn Bool.false_ne_true)).imp fun σ H Q hh => rd_test (fun Q' hh => rd_cmp hs hh) hh
      | [], _, h => exact absurd h Bool.false_ne_true
      | [_], [], h => exact absurd h Bool.false_ne_true
      | [_], _ :: _ :: _, h => exact absurd h Bool.false_ne_true
      | _ :: _ :: _, _, h => exact absurd h Bool.false_ne_true
    | _ => exact absurd h Bool.false_ne_true
  | .cmp2 op op' a b c', e, h => by
    cases e with
    | Compare l os rs pos =>
      match os, rs, h with
      | [o, o'], [m, r], h =>
        simp only [chkE, Bool.and_eq_true, decide_eq_true_eq] at h
        obtain ⟨⟨⟨⟨⟨rfl, rfl⟩, hn⟩, ha⟩, hb⟩, hc⟩ := h
        obtain ⟨r2, ho, hs⟩ := cmp_ok (X := X) (by have := c.un; omega) op
        obtain ⟨r2', ho', hs'⟩ := cmp_ok (X := X) (by have := c.un; omega) op'
        exact (pt_chain ho ho' (sE c a l ha) (sE c b m hb) (sE c c' r hc) (by cases r <;> first | rfl | exact absurd hn Bool.false_ne_true)).imp fun σ H Q hh => rd_test (fun Q' hh => rd_chain hs hs' hh) hh
      | [], _, h => exact absurd h Bool.false_ne_true
      | [_], _, h => exact absurd h Bool.false_ne_true
      | [_, _], [], h => exact absurd h Bool.false_ne_true
      | [_, _], [_], h => exact absurd h Bool.false_ne_true
      | [_, _], _ :: _ :: _ :: _, h => exact absurd h Bool.false_ne_true
      | _ :: _ :: _ :: _, _, h => exact absurd h Bool.false_ne_true
    | _ => exact absurd h Bool.false_ne_true
  | .ite t a b, e, h => by
    cases e with
    | IfExp u x y pos =>
      simp only [chkE, Bool.and_eq_true] at h
      exact (pt_ite (sT c t u h.1.1) (sT c a x h.1.2) (sT c b y h.2)).imp fun σ H Q hh => rd_iteB hh
    | _ => exact absurd h Bool.false_ne_true
  | .slot x0, e, h => (pt_val (sE c (.slot x0) e h) (plainTest_ok (plain_of h rfl) X.env)).imp fun σ H Q hh => rd_B hh
  | .lit x0, e, h => (pt_val (sE c (.lit x0) e h) (plainTest_ok (plain_of h rfl) X.env)).imp fun σ H Q hh => rd_B hh
  | .gc x0, e, h => (pt_val (sE c (.gc x0) e h) (plainTest_ok (plain_of h rfl) X.env)).imp fun σ H Q hh => rd_B hh
  | .bin x0 x1 x2, e, h => (pt_val (sE c (.bin x0 x1 x2) e h) (plainTest_ok (plain_of h rfl) X.env)).imp fun σ H Q hh => rd_B hh
  | .neg x0, e, h => (pt_val (sE c (.neg x0) e h) (plainTest_ok (plain_of h rfl) X.env)).imp fun σ H Q hh => rd_B hh
  | .tup x0, e, h => (pt_val (sE c (.tup x0) e h) (plainTest_ok (plain_of h rfl) X.env)).imp fun σ H Q hh => rd_B hh
  | .lst x0, e, h => (pt_val (sE c (.lst x0) e h) (plainTest_ok (plain_of h rfl) X.env)).imp fun σ H Q hh => rd_B hh
  | .ix x0 x1, e, h => (pt_val (sE c (.ix x0 x1) e h) (plainTest_ok (plain_of h rfl) X.env)).imp fun σ H Q hh => rd_B hh
  | .sl x0 x1 x2, e, h => (pt_val (sE c (.sl x0 x1 x2) e h) (plainTest_ok (plain_of h rfl) X.env)).imp fun σ H Q hh => rd_B hh
  | .f1 x0 x1, e, h => (pt_val (sE c (.f1 x0 x1) e h) (plainTest_ok (plain_of h rfl) X.env)).imp fun σ H Q hh => rd_B hh
  | .f2 x0 x1 x2, e, h => (pt_val (sE c (.f2 x0 x1 x2) e h) (plainTest_ok (plain_of h rfl) X.env)).imp fun σ H Q hh => rd_B hh
  | .isT x0 x1, e, h => (pt_val (sE c (.isT x0 x1) e h) (plainTest_ok (plain_of h rfl) X.env)).imp fun σ H Q hh => rd_B hh
  | .rng x0 x1 x2, e, h => (pt_val (sE c (.rng x0 x1 x2) e h) (plainTest_ok (plain_of h rfl) X.env)).imp fun σ H Q hh => rd_B hh
  | .call x0 x1, e, h => (pt_val (sE c (.call x0 x1) e h) (plainTest_ok (plain_of h rfl) X.env)).imp fun σ H Q hh => rd_B hh
  | .callK x0 x1 x2 x3, e, h => (pt_val (sE c (.callK x0 x1 x2 x3) e h) (plainTest_ok (plain_of h rfl) X.env)).imp fun σ H Q hh => rd_B hh
  | .comp x0 x1 x2 x3 x4, e, h => (pt_val (sE c (.comp x0 x1 x2 x3 x4) e h) (plainTest_ok (plain_of h rfl) X.env)).imp fun σ H Q hh => rd_B hh
  | .m1 x0 x1 x2, e, h => (pt_val (sE c (.m1 x0 x1 x2) e h) (plainTest_ok (plain_of h rfl) X.env)).imp fun σ H Q hh => rd_B hh
  | .comp2 x0 x1 x2 x3 x4 x5, e, h => (pt_val (sE c (.comp2 x0 x1 x2 x3 x4 x5) e h) (plainTest_ok (plain_of h rfl) X.env)).imp fun σ H Q hh => rd_B hh
  | .min3 x0 x1 x2, e, h => (pt_val (sE c (.min3 x0 x1 x2) e h) (plainTest_ok (plain_of h rfl) X.env)).imp fun σ H Q hh => rd_B hh
  | .nset x0, e, h => (pt_val (sE c (.nset x0) e h) (plainTest_ok (plain_of h rfl) X.env)).imp fun σ H Q hh => rd_B hh
termination_by a _ _ => (sizeOf a, 2)
theorem sEs {X : Cx} (c : Cok X T Φ) : ∀ (a : Es) (l : List Expr), chkEs T a l X.env.scope = true → PA X l (tEs X.K (evs Φ a))
  | .nil, l, h => by
    cases l with
    | nil => exact pa_nil.imp fun σ H Q hh => rd_nil hh
    | cons _ _ => exact absurd h Bool.false_ne_true
  | .cons a r, l, h => by
    cases l with
    | nil => exact absurd h Bool.false_ne_true
    | cons e es =>
      simp only [chkEs, Bool.and_eq_true] at h
      exact (pa_cons (sE c a e h.1.1) (sEs c r es h.2) (eval_star h.1.2 es X.env)).imp fun σ H Q hh => rd_cons hh
termination_by a _ _ => (sizeOf a, 0)
theorem sK {X : Cx} (c : Cok X T Φ) : ∀ (a : Es) (l : List Keyword), chkK T a l X.env.scope = true → PK X l (tEs X.K (evs Φ a))
  | .nil, l, h => by
    cases l with
    | nil => exact pk_nil.imp fun σ H Q hh => rd_nil hh
    | cons _ _ => exact absurd h Bool.false_ne_true
  | .cons a r, l, h => by
    cases l with
    | nil => exact absurd h Bool.false_ne_true
    | cons k ks =>
      obtain ⟨nm, e, kp⟩ := k
      cases nm with
      | none => exact absurd h Bool.false_ne_true
      | some nm =>
        simp only [chkK, Bool.and_eq_true] at h
        exact (pk_cons (sE c a e h.1) (sK c r ks h.2)).imp fun σ H Q hh => rd_cons hh
termination_by a _ _ => (sizeOf a, 0)
theorem sO {X : Cx} (c : Cok X T Φ) : ∀ (a : Oe) (e : Option Expr), chkOe T a e X.env.scope = true → PO X e (tOi X.K (evo Φ a))
  | .none, e, h => by
    cases e with
    | none => exact ⟨fun pins s σ H Q I ⟨O, s1, o, s', k, e, q⟩ => po_none.run pins s σ H Q I (by cases e; exact q O H (Go.refl k))⟩
    | some _ => exact absurd h Bool.false_ne_true
  | .some a, e, h => by
    cases e with
    | none => exact absurd h Bool.false_ne_true
    | some e => exact ⟨fun pins s σ H Q I hh => (po_some (sE c a e h)).run pins s σ H Q I (rd_oi hh)⟩
termination_by a _ _ => (sizeOf a, 0)
theorem sOE {X : Cx} (c : Cok X T Φ) : ∀ (a : Oe) (e : Option Expr), chkOe T a e X.env.scope = true → POE X Φ a e
  | .none, e, h => by
    cases e with
    | none => exact trivial
    | some _ => exact absurd h Bool.false_ne_true
  | .some a, e, h => by
    cases e with
    | none => exact absurd h Bool.false_ne_true
    | some e => exact ⟨chkE_star (a := a) h, sE c a e h⟩
termination_by a _ _ => (sizeOf a, 0)
theorem sOT {X : Cx} (c : Cok X T Φ) : ∀ (a : Oe) (e : Option Expr), chkOe T a e X.env.scope = true → POT X Φ a e
  | .none, e, h => by
    cases e with
    | none => exact trivial
    | some _ => exact absurd h Bool.false_ne_true
  | .some a, e, h => by
    cases e with
    | none => exact absurd h Bool.false_ne_true
    | some e => exact sT c a e h
termination_by a _ _ => (sizeOf a, 0)
theorem sA {X : Cx} (c : Cok X T Φ) : ∀ (a : As) (l : List Expr), chkA T a l X.env.scope = true → PA X l (tAs X.K (evA Φ a))
  | .nil, l, h => by
    cases l with
    | nil => exact pa_nil.imp fun σ H Q hh => rd_anil hh
    | cons _ _ => exact absurd h Bool.false_ne_true
  | .v a r, l, h => by
    cases l with
    | nil => exact absurd h Bool.false_ne_true
    | cons e es =>
      simp only [chkA, Bool.and_eq_true] at h
      exact (pa_cons (sE c a e h.1.1) (sA c r es h.2) (eval_star h.1.2 es X.env)).imp fun σ H Q hh => rd_av hh
  | .n a r, l, h => by
    cases l with
    | nil => exact absurd h Bool.false_ne_true
    | cons e es =>
      simp only [chkA, Bool.and_eq_true] at h
      exact (pa_cons (sE c a e h.1.1) (sA c r es h.2) (eval_star h.1.2 es X.env)).imp fun σ H Q hh => rd_an hh
  | .m i r, l, h => by
    cases l with
    | nil => exact absurd h Bool.false_ne_true
    | cons e es =>
      cases e with
      | Name x p =>
        simp only [chkA, Bool.and_eq_true, decide_eq_true_eq] at h
        obtain ⟨⟨⟨hN, hv⟩, hp⟩, hr⟩ := h
        obtain ⟨d1, d2, _⟩ := plainN_ok hp
        exact (pa_cons (pe_var (i := i) (by rw [c.nEq]; exact hN) (vis_ok hv) d1 d2) (sA c r es hr) rfl).imp fun σ H Q hh => rd_am hh
      | _ => exact absurd h Bool.false_ne_true
termination_by a _ _ => (sizeOf a, 0)
theorem sI {X : Cx} (c : Cok X T Φ) : ∀ (a : It') (tg e : Expr), chkI T a tg e X.env.scope = true → PI X tg e (tI X.K (evI Φ a))
  | .seq a, tg, e, h => pi_seq (sE c a e h)
  | .rng a b, tg, e, h => by
    simp only [chkI] at h
    split at h
    · rename_i y t u hv
      obtain ⟨p, q, rfl⟩ := rgVw_ok hv
      simp only [Bool.and_eq_true, decide_eq_true_eq] at h
      obtain ⟨⟨⟨rfl, hg⟩, ha⟩, hb⟩ := h
      exact ir_of c hg (sOE c a t ha) (sE c b u hb) (chkE_star hb)
    · cases h
  | .zip a b, tg, e, h => by
    simp only [chkI] at h
    split at h
    · rename_i y t u hv
      obtain ⟨p, q, rfl⟩ := c2V_ok hv
      simp only [Bool.and_eq_true, decide_eq_true_eq] at h
      obtain ⟨⟨⟨⟨ht, rfl⟩, hg⟩, ha⟩, hb⟩ := h
      cases tg with
      | Tuple l kk pos => exact (RZ.pi_zipA (gl_ok hg) (c.bt _ (by decide +kernel)) (pa_cons (sE c a t ha) (pa_cons (sE c b u hb) pa_nil (eval_star (chkE_star hb) [] X.env)) (eval_star (chkE_star ha) [u] X.env)) (eval_star (chkE_star ha) [u] X.env) (by rw [eval_star (chkE_star hb)]; rfl)).imp fun σ H Q hh => rd_zip hh
      | _ => cases ht
    · cases h
  | .enum a, tg, e, h => by
    simp only [chkI] at h
    split at h
    · rename_i y t hv
      obtain ⟨p, q, rfl⟩ := c1V_ok hv
      simp only [Bool.and_eq_true, decide_eq_true_eq] at h
      obtain ⟨⟨⟨ht, rfl⟩, hg⟩, ha⟩ := h
      cases tg with
      | Tuple l kk pos => exact (pi_enumT (gl_ok hg) (c.bt _ (by decide +kernel)) (pa_cons (sE c a t ha) pa_nil (eval_star (chkE_star ha) [] X.env)) (eval_star (chkE_star ha) [] X.env)).imp fun σ H Q hh => rd_enum hh
      | _ => cases ht
    · cases h
  | .rng3 a b d, tg, e, h => by
    simp only [chkI] at h
    split at h
    · rename_i y t u v hv
      obtain ⟨p, q, rfl⟩ := c3V_ok hv
      simp only [Bool.and_eq_true, decide_eq_true_eq] at h
      obtain ⟨⟨⟨⟨rfl, hg⟩, ha⟩, hb⟩, hd⟩ := h
      have n1 := chkE_star ha
      have n2 := chkE_star hb
      have n3 := chkE_star hd
      have pa := pa_cons (sE c a t ha) (pa_cons (sE c b u hb) (pa_cons (sE c d v hd) pa_nil (eval_star n3 [] X.env)) (eval_star n2 [v] X.env)) (eval_star n1 [u, v] X.env)
      exact (pi_range3 (gl_ok hg) (c.bt _ (by decide +kernel)) pa (eval_star n1 [u, v] X.env) (by rw [eval_star n2, eval_star n3]; rfl)).imp fun σ H Q hh => rd_ir3 hh
    · cases h
termination_by a _ _ _ => (sizeOf a, 0)
end
end
end Mi

set_option Elab.async false
set_option linter.all false
set_option maxRecDepth 100000
set_option maxHeartbeats 4000000
/-! Mi: the way of statements. -/
namespace Mi
open PySem L2 PyProof.Rows

/-- the way of statements; L: lists that nobody's slot holds at the start -/
structure Gs (L : Addr → Prop) (K : PySem.W.Frag) (O : Addr → Prop) (H : Hp) (σ : L2.St) (s : Sl) (O' : Addr → Prop) (H' : Hp) (σ' : L2.St) (s' : Sl) : Prop where
  ok : Ok K O' H' σ' s'
  up : ∀ a, O a → O' a ∨ ownAdF σ s a ∨ L a
  nw : ∀ a, O' a → O a ∨ H a = none
  fr : ∀ a o, H a = some o → ¬ ownAd σ s a → ¬ L a → H' a = some o
  th : ∀ a, H a ≠ none → H' a ≠ none
  own : ∀ a, ownAd σ' s' a → ownAd σ s a ∨ H a = none ∨ L a
  ownF : ∀ a, ownAdF σ' s' a → ownAdF σ s a ∨ H a = none ∨ L a
  par : ∀ (i : Nat) (xs : List D), s[i]? = some (.own true xs) → σ'[i]? = σ[i]? ∧ ∃ ys, s'[i]? = some (.own true ys)
abbrev No : Addr → Prop := fun _ => False
section
variable {L L2' : Addr → Prop} {K : PySem.W.Frag} {O O1 O2 : Addr → Prop} {H H1 H2 : Hp} {σ σ1 σ2 : L2.St} {s s1 s2 : Sl}
theorem ownAdF.ow {a : Addr} (h : ownAdF σ s a) : ownAd σ s a := by
  obtain ⟨i, xs, h1, h2⟩ := h
  exact ⟨i, false, xs, h1, h2⟩
theorem old_of {a : Addr} (th : ∀ a, H a ≠ none → H1 a ≠ none) (n : H1 a = none) : H a = none := by
  cases q : H a with
  | none => rfl
  | some o => exact absurd n (th a (by rw [q]; simp))
theorem Gs.refl (k : Ok K O H σ s) : Gs No K O H σ s O H σ s :=
  ⟨k, fun _ z => .inl z, fun _ z => .inl z, fun _ _ z _ _ => z, fun _ z => z, fun _ z => .inl z, fun _ z => .inl z, fun _ xs z => ⟨rfl, xs, z⟩⟩
theorem Gs.trans (k : Ok K O H σ s) (a : Gs L K O H σ s O1 H1 σ1 s1) (b : Gs L2' K O1 H1 σ1 s1 O2 H2 σ2 s2) : Gs (fun x => L x ∨ L2' x) K O H σ s O2 H2 σ2 s2 := by
  have ow : ∀ x, ownAd σ1 s1 x → ownAd σ s x ∨ H x = none ∨ L x := a.own
  refine ⟨b.ok, fun x z => ?_, fun x z => ?_, fun x o z n nl => ?_, fun x z => b.th x (a.th x z), fun x z => ?_, fun x z => ?_, fun i xs z => ?_⟩
  · rcases a.up x z with z1 | z1 | z1
    · rcases b.up x z1 with z2 | z2 | z2
      · exact .inl z2
      · rcases a.ownF x z2 with z3 | z3 | z3
        · exact .inr (.inl z3)
        · exact absurd z3 (k.dom x z)
        · exact .inr (.inr (.inl z3))
      · exact .inr (.inr (.inr z2))
    · exact .inr (.inl z1)
    · exact .inr (.inr (.inl z1))
  · rcases b.nw x z with z1 | z1
    · exact a.nw x z1
    · exact .inr (old_of a.th z1)
  · refine b.fr x o (a.fr x o z n fun z => nl (.inl z)) (fun z1 => ?_) fun z => nl (.inr z)
    rcases ow x z1 with z2 | z2 | z2
    · exact n z2
    · rw [z] at z2
      cases z2
    · exact nl (.inl z2)
  · rcases b.own x z with z1 | z1 | z1
    · rcases a.own x z1 with z2 | z2 | z2
      · exact .inl z2
      · exact .inr (.inl z2)
      · exact .inr (.inr (.inl z2))
    · exact .inr (.inl (old_of a.th z1))
    · exact .inr (.inr (.inr z1))
  · rcases b.ownF x z with z1 | z1 | z1
    · rcases a.ownF x z1 with z2 | z2 | z2
      · exact .inl z2
      · exact .inr (.inl z2)
      · exact .inr (.inr (.inl z2))
    · exact .inr (.inl (old_of a.th z1))
    · exact .inr (.inr (.inr z1))
  · obtain ⟨e1, ys, e2⟩ := a.par i xs z
    obtain ⟨e3, zs, e4⟩ := b.par i ys e2
    exact ⟨e3.trans e1, zs, e4⟩
/-- what is loose is new -/
theorem Gs.tight (k : Ok K O H σ s) (a : Gs L K O H σ s O1 H1 σ1 s1) (h : ∀ x, L x → H x = none) : Gs No K O H σ s O1 H1 σ1 s1 := by
  refine ⟨a.ok, fun x z => ?_, a.nw, fun x o z n _ => a.fr x o z n fun l => ?_, a.th, fun x z => ?_, fun x z => ?_, a.par⟩
  · rcases a.up x z with z1 | z1 | z1
    · exact .inl z1
    · exact .inr (.inl z1)
    · exact absurd (h x z1) (k.dom x z)
  · rw [h x l] at z
    cases z
  · rcases a.own x z with z1 | z1 | z1
    · exact .inl z1
    · exact .inr (.inl z1)
    · exact .inr (.inl (h x z1))
  · rcases a.ownF x z with z1 | z1 | z1
    · exact .inl z1
    · exact .inr (.inl z1)
    · exact .inr (.inl (h x z1))
theorem Gs.then (k : Ok K O H σ s) (a : Gs No K O H σ s O1 H1 σ1 s1) (b : Gs No K O1 H1 σ1 s1 O2 H2 σ2 s2) : Gs No K O H σ s O2 H2 σ2 s2 := (a.trans k b).tight k fun _ z => (z.elim id id).elim
theorem Gs.wide (a : Gs L K O H σ s O1 H1 σ1 s1) (h : ∀ x, L x → L2' x) : Gs L2' K O H σ s O1 H1 σ1 s1 :=
  ⟨a.ok, fun x z => (a.up x z).imp id (Or.imp id (h x)), a.nw, fun x o z n nl => a.fr x o z n fun l => nl (h x l), a.th, fun x z => (a.own x z).imp id (Or.imp id (h x)), fun x z => (a.ownF x z).imp id (Or.imp id (h x)), a.par⟩
theorem Shp.owF {s t : Sl} (a : Shp s t) (σ : L2.St) (b : Addr) : ownAdF σ t b → ownAdF σ s b := by
  rintro ⟨i, xs, h1, h2⟩
  obtain ⟨ys, e⟩ := a.back h1
  exact ⟨i, ys, e, h2⟩
theorem Gs.of_go (g : Go K O H σ s O1 H1 s1) : Gs No K O H σ s O1 H1 σ s1 :=
  ⟨g.ok, fun x z => .inl (g.up x z), g.nw, fun x o z n _ => g.fr x o z n, g.th, fun x z => .inl ((g.sh.ow σ x).mp z), fun x z => .inl (g.sh.owF σ x z), fun i xs z => by
    obtain ⟨ys, e⟩ := (g.sh.2 i).2.2 true xs z
    exact ⟨rfl, ys, e⟩⟩
/-! ### stores -/
theorem okSet_own {i : Nat} {xs : List D} (h : okSet i s = true) : s[i]? ≠ some (.own true xs) := by
  intro z
  unfold okSet at h
  rw [z] at h
  cases h
/-- the list that a result is -/
def newAd (v : V) (r : R) (a : Addr) : Prop := ∃ xs, r = .new xs ∧ v = .ref a
theorem Ok.setNew {i : Nat} {a : Addr} {vs : List V} {xs : List D} (k : Ok K O H σ s) (h1 : O a) (h2 : ¬ ownAd σ s a) (h3 : H a = some (.lst vs)) (h4 : DenAll K O H vs xs) (hi : i < s.length) :
    Ok K O H (σ.set i (some (.ref a))) (s.set i (.own false xs)) := by
  have hi' : i < σ.length := by rw [k.len]; exact hi
  refine ⟨by rw [List.length_set, List.length_set]; exact k.len, fun j e hj => ?_, fun j q ys hj => ?_, fun j j' q q' ys zs b hne hj hj' => ?_, k.dom⟩
  · by_cases ej : i = j
    · subst ej
      rw [List.getElem?_set_self hi] at hj
      cases hj
    · rw [List.getElem?_set_ne ej] at hj ⊢
      exact k.val j e hj
  · by_cases ej : i = j
    · subst ej
      rw [List.getElem?_set_self hi] at hj
      cases hj
      exact ⟨a, vs, List.getElem?_set_self hi', h1, h3, h4⟩
    · rw [List.getElem?_set_ne ej] at hj ⊢
      exact k.own j q ys hj
  · by_cases ej : i = j
    · subst ej
      rw [List.getElem?_set_ne hne] at hj' ⊢
      rw [List.getElem?_set_self hi']
      intro e e2
      cases e
      exact h2 ⟨j', q', zs, hj', e2⟩
    · by_cases ej' : i = j'
      · subst ej'
        rw [List.getElem?_set_ne ej] at hj ⊢
        rw [List.getElem?_set_self hi']
        intro e e2
        cases e2
        exact h2 ⟨j, q, ys, hj, e⟩
      · rw [List.getElem?_set_ne ej] at hj ⊢
        rw [List.getElem?_set_ne ej'] at hj' ⊢
        exact k.ne j j' q q' ys zs b hne hj hj'
theorem own_set {i : Nat} {x : Slot} {w : V} {a : Addr} (hi : i < s.length) (hl : σ.length = s.length) (h : ownAd (σ.set i (some w)) (s.set i x) a) : ownAd σ s a ∨ (w = .ref a ∧ ∃ p xs, x = .own p xs) := by
  obtain ⟨j, p, xs, h1, h2⟩ := h
  by_cases e : i = j
  · subst e
    rw [List.getElem?_set_self hi] at h1
    rw [List.getElem?_set_self (by rw [hl]; exact hi)] at h2
    cases h1
    cases h2
    exact .inr ⟨rfl, p, xs, rfl⟩
  · rw [List.getElem?_set_ne e] at h1 h2
    exact .inl ⟨j, p, xs, h1, h2⟩
theorem ownF_set {i : Nat} {x : Slot} {w : V} {a : Addr} (hi : i < s.length) (hl : σ.length = s.length) (h : ownAdF (σ.set i (some w)) (s.set i x) a) : ownAdF σ s a ∨ (w = .ref a ∧ ∃ xs, x = .own false xs) := by
  obtain ⟨j, xs, h1, h2⟩ := h
  by_cases e : i = j
  · subst e
    rw [List.getElem?_set_self hi] at h1
    rw [List.getElem?_set_self (by rw [hl]; exact hi)] at h2
    cases h1
    cases h2
    exact .inr ⟨rfl, xs, rfl⟩
  · rw [List.getElem?_set_ne e] at h1 h2
    exact .inl ⟨j, xs, h1, h2⟩
/-- name = value -/
theorem set_go {i : Nat} {v : V} {r : R} (k : Ok K O H σ s) (h : RAt K O H σ s v r) (e : setR i r s = some s1) : Gs (newAd v r) K O H σ s O H (σ.set i (some v)) s1 := by
  unfold setR at e
  split at e
  · rename_i ho
    have hi := okSet_lt ho
    have par : ∀ (x : Slot) (j : Nat) (xs : List D), s[j]? = some (.own true xs) → (σ.set i (some v))[j]? = σ[j]? ∧ ∃ ys, (s.set i x)[j]? = some (.own true ys) := fun x j xs z => by
      have ne : i ≠ j := fun q => by
        subst q
        exact okSet_own ho z
      rw [List.getElem?_set_ne ne, List.getElem?_set_ne ne]
      exact ⟨rfl, xs, z⟩
    cases r with
    | val d =>
      cases e
      refine ⟨k.setVal h hi, fun _ z => .inl z, fun _ z => .inl z, fun _ _ z _ _ => z, fun _ z => z, fun a z => ?_, fun a z => ?_, par _⟩
      · rcases own_set hi k.len z with z | ⟨_, p, xs, z⟩
        · exact .inl z
        · cases z
      · rcases ownF_set hi k.len z with z | ⟨_, xs, z⟩
        · exact .inl z
        · cases z
    | new xs =>
      cases e
      obtain ⟨a, vs, rfl, h1, h2, h3, h4⟩ := h
      refine ⟨k.setNew h1 h2 h3 h4 hi, fun _ z => .inl z, fun _ z => .inl z, fun _ _ z _ _ => z, fun _ z => z, fun b z => ?_, fun b z => ?_, par _⟩
      · rcases own_set hi k.len z with z | ⟨z, _⟩
        · exact .inl z
        · cases z
          exact .inr (.inr ⟨xs, rfl, rfl⟩)
      · rcases ownF_set hi k.len z with z | ⟨z, _⟩
        · exact .inl z
        · cases z
          exact .inr (.inr ⟨xs, rfl, rfl⟩)
    | bor j => cases e
  · cases e
/-- a list of a slot is changed -/
theorem Ok.pokeOwn {i : Nat} {p : Bool} {a : Addr} {ws : List V} {xs ys : List D} (k : Ok K O H σ s) (hs : s[i]? = some (.own p xs)) (ha : σ[i]? = some (some (.ref a))) (hd : DenAll K O H ws ys) : Ok K O (L2.upd H a (.lst ws)) σ (s.set i (.own p ys)) := by
  have hi := (List.getElem?_eq_some_iff.mp hs).1
  obtain ⟨b, vs, e, ho, hl, _⟩ := k.own i p xs hs
  rw [ha] at e
  cases e
  refine ⟨by rw [List.length_set]; exact k.len, fun j d hj => ?_, fun j q zs hj => ?_, fun j j' q q' zs zs' b hne hj hj' => ?_, fun b hb => ?_⟩
  · by_cases ej : i = j
    · subst ej
      rw [List.getElem?_set_self hi] at hj
      cases hj
    · rw [List.getElem?_set_ne ej] at hj
      obtain ⟨v, e, h⟩ := k.val j d hj
      exact ⟨v, e, h.poke ho hl⟩
  · by_cases ej : i = j
    · subst ej
      rw [List.getElem?_set_self hi] at hj
      cases hj
      exact ⟨a, ws, ha, ho, upd_same, hd.poke ho hl⟩
    · rw [List.getElem?_set_ne ej] at hj
      obtain ⟨b, us, e, h1, h2, h3⟩ := k.own j q zs hj
      have ne : b ≠ a := fun z => by
        subst z
        exact k.ne i j p q xs zs b ej hs hj ha e
      exact ⟨b, us, e, h1, by rw [upd_ne ne]; exact h2, h3.poke ho hl⟩
  · have get : ∀ (j : Nat) (q : Bool) (zs : List D), (s.set i (.own p ys))[j]? = some (.own q zs) → ∃ zs', s[j]? = some (.own q zs') := fun j q zs hj => by
      by_cases ej : i = j
      · subst ej
        rw [List.getElem?_set_self hi] at hj
        cases hj
        exact ⟨xs, hs⟩
      · rw [List.getElem?_set_ne ej] at hj
        exact ⟨zs, hj⟩
    obtain ⟨_, e1⟩ := get j q zs hj
    obtain ⟨_, e2⟩ := get j' q' zs' hj'
    exact k.ne j j' q q' _ _ b hne e1 e2
  · unfold L2.upd
    split
    · simp
    · exact k.dom b hb
theorem poke_go {i : Nat} {p : Bool} {a : Addr} {ws : List V} {xs ys : List D} (k : Ok K O H σ s) (hs : s[i]? = some (.own p xs)) (ha : σ[i]? = some (some (.ref a))) (hd : DenAll K O H ws ys) :
    Go K O H σ s O (L2.upd H a (.lst ws)) (s.set i (.own p ys)) := by
  have hi := (List.getElem?_eq_some_iff.mp hs).1
  refine ⟨k.pokeOwn hs ha hd, fun _ z => z, fun _ z => .inl z, fun b o z n => ?_, fun b z => ?_, ⟨(List.length_set ..).symm, fun j => ?_⟩⟩
  · rw [upd_ne (fun q => n ⟨i, p, xs, hs, by rw [q]; exact ha⟩)]
    exact z
  · unfold L2.upd
    split
    · simp
    · exact z
  · by_cases ej : i = j
    · subst ej
      rw [hs, List.getElem?_set_self hi]
      exact ⟨(fun z => nomatch z), (fun d z => nomatch z), fun q zs z => by
        cases z
        exact ⟨ys, rfl⟩⟩
    · rw [List.getElem?_set_ne ej]
      exact ⟨id, fun _ => id, fun q zs z => ⟨zs, z⟩⟩
/-- a list of a slot is locked -/
theorem frz_go {i : Nat} {xs : List D} (k : Ok K O H σ s) (hs : s[i]? = some (.own false xs)) : ∃ O', Gs No K O H σ s O' H σ (s.set i (.val (.list xs))) := by
  have hi := (List.getElem?_eq_some_iff.mp hs).1
  obtain ⟨a, vs, ha, ho, hl, hd⟩ := k.own i false xs hs
  have k1 : Ok K O H σ (s.set i .emp) := by
    have away : ∀ (j : Nat) (x : Slot), (s.set i .emp)[j]? = some x → x ≠ .emp → s[j]? = some x := fun j x h n => by
      by_cases ej : i = j
      · subst ej
        rw [List.getElem?_set_self hi] at h
        cases h
        exact absurd rfl n
      · rw [List.getElem?_set_ne ej] at h
        exact h
    exact ⟨by rw [List.length_set]; exact k.len, fun j d h => k.val j d (away j _ h nofun), fun j q ys h => k.own j q ys (away j _ h nofun), fun j j' q q' ys zs b ne h h' => k.ne j j' q q' ys zs b ne (away j _ h nofun) (away j' _ h' nofun), k.dom⟩
  have na : ¬ ownAd σ (s.set i .emp) a := by
    rintro ⟨j, q, ys, h1, h2⟩
    by_cases ej : i = j
    · subst ej
      rw [List.getElem?_set_self hi] at h1
      cases h1
    · rw [List.getElem?_set_ne ej] at h1
      exact k.ne i j false q xs ys a ej hs h1 ha h2
  have k2 := k1.less na
  have dn : Den K (fun b => O b ∧ b ≠ a) H (.ref a) (.list xs) := .lst hl (fun z => z.2 rfl) (hd.fewer fun _ z => z.1)
  have k3 : Ok K (fun b => O b ∧ b ≠ a) H σ (s.set i (.val (.list xs))) := by
    have := k2.setVal (i := i) dn (by rw [List.length_set]; exact hi)
    rw [List.set_set] at this
    have es : σ.set i (some (.ref a)) = σ := by
      apply List.ext_getElem?
      intro j
      by_cases ej : i = j
      · subst ej
        rw [List.getElem?_set_self (by rw [k.len]; exact hi), ha]
      · rw [List.getElem?_set_ne ej]
    rw [es] at this
    exact this
  have back : ∀ (j : Nat) (q : Bool) (ys : List D), (s.set i (.val (.list xs)))[j]? = some (.own q ys) → s[j]? = some (.own q ys) := fun j q ys h => by
    by_cases ej : i = j
    · subst ej
      rw [List.getElem?_set_self hi] at h
      cases h
    · rw [List.getElem?_set_ne ej] at h
      exact h
  refine ⟨_, k3, fun b z => ?_, fun b z => .inl z.1, fun _ _ z _ _ => z, fun _ z => z, fun b z => ?_, fun b z => ?_, fun j ys z => ⟨rfl, ys, ?_⟩⟩
  · by_cases q : b = a
    · subst q
      exact .inr (.inl ⟨i, xs, hs, ha⟩)
    · exact .inl ⟨z, q⟩
  · obtain ⟨j, q, ys, h1, h2⟩ := z
    exact .inl ⟨j, q, ys, back j q ys h1, h2⟩
  · obtain ⟨j, ys, h1, h2⟩ := z
    exact .inl ⟨j, ys, back j false ys h1, h2⟩
  · have ej : i ≠ j := fun q => by
      subst q
      rw [hs] at z
      cases z
    rw [List.getElem?_set_ne ej]
    exact z
end
end Mi

set_option Elab.async false
set_option linter.all false
set_option maxRecDepth 100000
set_option maxHeartbeats 4000000
/-! Mi: targets. -/
namespace Mi
open PySem L2 PyProof.Rows

/-- the new lists among values -/
def newAds : List V → List R → Addr → Prop
  | v :: vs, r :: rs, a => newAd v r a ∨ newAds vs rs a
  | _, _, _ => False
inductive RAts (K : PySem.W.Frag) (O : Addr → Prop) (H : Hp) (σ : L2.St) (s : Sl) : List V → List R → Prop
  | nil : RAts K O H σ s [] []
  | cons {v : V} {r : R} {vs : List V} {rs : List R} : RAt K O H σ s v r → (∀ i, r ≠ .bor i) → (∀ a, newAd v r a → ¬ newAds vs rs a) → RAts K O H σ s vs rs → RAts K O H σ s (v :: vs) (r :: rs)
section
variable {K : PySem.W.Frag} {O O1 O2 : Addr → Prop} {H H1 H2 : Hp} {σ σ1 : L2.St} {s s1 s2 : Sl} {vs : List V} {rs : List R} {Φ : Phi}
theorem RAts.len (h : RAts K O H σ s vs rs) : vs.length = rs.length := by
  induction h with
  | nil => rfl
  | cons _ _ _ _ ih => exact congrArg Nat.succ ih
theorem RAts.imp (h : RAts K O H σ s vs rs) (i : ∀ v r, RAt K O H σ s v r → (∀ a, newAd v r a → newAds vs rs a) → (∀ i, r ≠ .bor i) → RAt K O1 H1 σ1 s1 v r) : RAts K O1 H1 σ1 s1 vs rs := by
  induction h with
  | nil => exact .nil
  | cons a b c d ih => exact .cons (i _ _ a (fun _ z => .inl z) b) b c (ih fun v r z y nb => i v r z (fun a w => .inr (y a w)) nb)
theorem RAts.go (g : Go K O H σ s O1 H1 s1) (k : Ok K O H σ s) (h : RAts K O H σ s vs rs) : RAts K O1 H1 σ s1 vs rs := h.imp fun v r z _ _ => g.rat k z
theorem RAts.vals {K : PySem.W.Frag} {O : Addr → Prop} {H : Hp} {vs : List V} {ds : List D} (h : DenAll K O H vs ds) : RAts K O H σ s vs (ds.map .val) ∧ ∀ a, ¬ newAds vs (ds.map .val) a := by
  induction ds generalizing vs with
  | nil =>
    cases h
    exact ⟨.nil, fun _ z => z⟩
  | cons d ds ih =>
    cases h with
    | cons a b =>
      obtain ⟨h1, h2⟩ := ih b
      exact ⟨.cons a nofun (fun x ⟨xs, e, _⟩ => nomatch e) h1, fun x z => z.elim (fun ⟨xs, e, _⟩ => nomatch e) (h2 x)⟩
/-- the values of several expressions -/
def tRs (K : PySem.W.Frag) (c : Sl → Option (List R × Sl)) : TA := fun σ H Q =>
  ∃ O s rs s', Ok K O H σ s ∧ c s = some (rs, s') ∧ ∀ O' vs H', Go K O H σ s O' H' s' → RAts K O' H' σ s' vs rs → (∀ a, newAds vs rs a → H a = none) → Q vs H'
theorem rd_rnil {Q : List V → Hp → Prop} (h : tRs K (fun s => some ([], s)) σ H Q) : tNil σ H Q := by
  obtain ⟨O, s, ds, s', k, e, q⟩ := h
  cases e
  exact q O [] H (Go.refl k) .nil fun _ z => z.elim
theorem rd_rcons {ca : Sl → Option (R × Sl)} {cs : Sl → Option (List R × Sl)} {Q : List V → Hp → Prop} (h : tRs K (fun s => (ca s).bind fun (r, s1) => match r with
    | .bor _ => none
    | r => (cs s1).map fun (rs, s2) => (r :: rs, s2)) σ H Q) : tCons (tE K ca) (tRs K cs) σ H Q := by
  obtain ⟨O, s, rs, s', k, e, q⟩ := h
  obtain ⟨⟨r, s1⟩, ea, e1⟩ := bnd e
  have nb : ∀ i, r ≠ .bor i := fun i z => by
    subst z
    cases e1
  have e2 : (cs s1).map (fun (rs, s2) => (r :: rs, s2)) = some (rs, s') := by
    cases r <;> first | exact e1 | exact absurd rfl (nb _)
  obtain ⟨⟨rs', s2⟩, es, e3⟩ := mpd e2
  cases e3
  refine ⟨O, s, r, s1, k, ea, fun O1 v1 H1 g1 r1 f1 => ⟨O1, s1, rs', _, g1.ok, es, fun O2 vs H2 g2 rr fr => ?_⟩⟩
  have fr1 : ∀ a, newAd v1 r a → H a = none := fun a ⟨xs, e1, e2⟩ => f1 xs a e1 e2
  refine q O2 (v1 :: vs) H2 (g1.trans g2) (.cons (g2.rat g1.ok r1) nb (fun a z z2 => ?_) rr) fun a z => z.elim (fr1 a) fun z => g1.old a (fr a z)
  have n1 := fr a z2
  obtain ⟨xs, e4, e5⟩ := z
  subst e4 e5
  obtain ⟨b, ws, e6, h1, h2, h3, h4⟩ := r1
  cases e6
  rw [h3] at n1
  cases n1
/-- one target -/
def tP (K : PySem.W.Frag) (Φ : Phi) (p : Pt) : TG := fun v σ H Q => ∃ O s r s', Ok K O H σ s ∧ RAt K O H σ s v r ∧ putP Φ p r s = some s' ∧ ∀ O' σ' H', Gs (newAd v r) K O H σ s O' H' σ' s' →
  (∀ v2 r2, RAt K O H σ s v2 r2 → (∀ i, r2 ≠ .bor i) → (∀ a, newAd v r a → ¬ newAd v2 r2 a) → RAt K O' H' σ' s' v2 r2) → Q σ' H'
def tPs (K : PySem.W.Frag) (Φ : Phi) (ps : List Pt) : TGs := fun vs σ H Q => ∃ O s rs s', Ok K O H σ s ∧ RAts K O H σ s vs rs ∧ putPs Φ ps rs s = some s' ∧ ∀ O' σ' H', Gs (newAds vs rs) K O H σ s O' H' σ' s' → Q σ' H'
theorem rd_pnil {Q : L2.St → Hp → Prop} (h : tPs K Φ [] vs σ H Q) : gNil vs σ H Q := by
  obtain ⟨O, s, rs, s', k, ra, e, q⟩ := h
  cases rs with
  | nil =>
    cases ra
    cases e
    exact ⟨rfl, q O σ H ((Gs.refl k).wide fun _ z => z.elim)⟩
  | cons _ _ => cases e
theorem rd_pcons {p : Pt} {ps : List Pt} {Q : L2.St → Hp → Prop} (h : tPs K Φ (p :: ps) vs σ H Q) : gCons (tP K Φ p) (tPs K Φ ps) vs σ H Q := by
  obtain ⟨O, s, rs, s', k, ra, e, q⟩ := h
  cases rs with
  | nil => cases e
  | cons r rs =>
    cases ra with
    | cons a b c d =>
      obtain ⟨s1, e1, e2⟩ := bnd e
      refine ⟨_, _, rfl, O, s, r, s1, k, a, e1, fun O1 σ1 H1 g1 f1 => ⟨O1, s1, rs, s', g1.ok, ?_, e2, fun O2 σ2 H2 g2 => q O2 σ2 H2 (g1.trans k g2)⟩⟩
      exact d.imp fun v2 r2 z y nb => f1 v2 r2 z nb fun x z1 z2 => c x z1 (y x z2)
/-- a name -/
theorem rd_pname {i : Nat} {v : V} {Q : L2.St → Hp → Prop} (h : tP K Φ (.name i) v σ H Q) : gName i v σ H Q := by
  obtain ⟨O, s, r, s', k, ra, e, q⟩ := h
  have g := set_go k ra e
  refine q O _ H g fun v2 r2 z nb ds => ?_
  cases r2 with
  | val d => exact z
  | bor j => exact absurd rfl (nb j)
  | new xs =>
    obtain ⟨a, ws, e1, h1, h2, h3, h4⟩ := z
    refine ⟨a, ws, e1, h1, fun z => ?_, h3, h4⟩
    have e : setR i r s = some s' := e
    unfold setR at e
    split at e
    · rename_i ho
      have hi := okSet_lt ho
      cases r with
      | val d =>
        cases e
        rcases own_set hi k.len z with z | ⟨_, p, xs, z⟩
        · exact h2 z
        · cases z
      | new ys =>
        cases e
        rcases own_set hi k.len z with z | ⟨z, _⟩
        · exact h2 z
        · exact ds a ⟨ys, rfl, z⟩ ⟨xs, rfl, e1⟩
      | bor j => cases e
    · cases e
theorem isOwn_iff {i : Nat} (h : isOwn s i = true) : ∃ p xs, s[i]? = some (.own p xs) := by
  unfold isOwn at h
  split at h
  · exact ⟨_, _, by assumption⟩
  · cases h
/-- an item of a list of a slot -/
theorem rd_psub {i : Nat} {ex : E} {v : V} {Q : L2.St → Hp → Prop} (h : tP K Φ (.sub i ex) v σ H Q) : gSub (tVar i) (tE K (ev Φ ex)) rSetL v σ H Q := by
  obtain ⟨O, s, r, s', k, ra, e, q⟩ := h
  have e : (if isOwn s i = true then r.sto.bind fun d => (ev Φ ex s).bind fun (k, s1) => (k.get s1).bind fun k => subR i k d s1 else none) = some s' := e
  by_cases ho : isOwn s i = true
  case neg =>
    rw [if_neg ho] at e
    cases e
  rw [if_pos ho] at e
  obtain ⟨d, ed, e1⟩ := bnd e
  obtain ⟨⟨rk, s1⟩, ek, e2⟩ := bnd e1
  obtain ⟨kd, eg, e3⟩ := bnd e2
  unfold subR at e3
  split at e3
  · rename_i p xs ki hs1
    obtain ⟨j, ej, e4⟩ := mpd e3
    subst e4
    have hx : ∃ w, σ[i]? = some (some w) := by
      obtain ⟨p0, zs, hi⟩ := isOwn_iff ho
      obtain ⟨a, ws, ea, _⟩ := k.own i p0 zs hi
      exact ⟨_, ea⟩
    obtain ⟨w, hw⟩ := hx
    refine ⟨w, hw, O, s, rk, s1, k, ek, fun O1 kv H1 g1 rk1 f1 => ?_⟩
    obtain ⟨a, ws, ea, h1, h2, h3⟩ := g1.ok.own i p xs hs1
    have ra1 := g1.rat k ra
    obtain ⟨O5, k5, l5, m5, d5⟩ := ra1.keep g1.ok ed
    have hw2 : w = .ref a := by
      rw [hw] at ea
      cases ea
      rfl
    subst hw2
    have hk : kv = .int ki := (rk1.top g1.ok eg).int
    refine ⟨a, ws, ki, j, rfl, hk, h2, by rw [h3.length]; exact ej, ?_⟩
    have O5a : ∀ b, O1 b → O5 b ∨ newAd v r b := fun b z => (m5 b z).imp id fun ⟨ys, e1, e2⟩ => ⟨ys, e1, e2⟩
    have g5 : Gs (newAd v r) K O1 H1 σ s1 O5 H1 σ s1 := ⟨k5, fun b z => (O5a b z).imp id .inr, fun b z => .inl (l5 b z), fun _ _ z _ _ => z, fun _ z => z, fun _ z => .inl z, fun _ z => .inl z, fun _ ys z => ⟨rfl, ys, z⟩⟩
    have da5 : DenAll K O5 H1 ws xs := h3.fewer l5
    have gp := poke_go k5 hs1 hw (da5.set d5 j)
    refine q O5 σ _ ((((Gs.of_go g1).trans k g5).trans k (Gs.of_go gp)).wide fun x z => ?_) fun v2 r2 z nb ds => ?_
    · rcases z with (z | z) | z
      · exact z.elim
      · exact z
      · exact z.elim
    · have z1 := g1.rat k z
      refine gp.rat k5 ?_
      cases r2 with
      | val d2 => exact Den.fewer z1 l5
      | bor j2 => exact absurd rfl (nb j2)
      | new ys =>
        obtain ⟨b, us, e1, y1, y2, y3, y4⟩ := z1
        refine ⟨b, us, e1, ?_, y2, y3, y4.fewer l5⟩
        rcases O5a b y1 with y | y
        · exact y
        · exact absurd ⟨ys, rfl, e1⟩ (ds b y)
  · cases e3
end
end Mi

set_option Elab.async false
set_option linter.all false
set_option maxRecDepth 100000
set_option maxHeartbeats 4000000
/-! Mi: the text's statements against the tree. -/
namespace Mi
open PySem L2 PyProof.Rows

def asgV : Stmt → Option (Expr × Expr)
  | .Assign [t] v _ => some (t, v)
  | _ => none
theorem asgV_ok {st : Stmt} {t v : Expr} (h : asgV st = some (t, v)) : ∃ p, st = .Assign [t] v p := by
  unfold asgV at h
  split at h
  · cases h
    exact ⟨_, rfl⟩
  · cases h
def tupV : Expr → Option (List Expr)
  | .Tuple l _ _ => some l
  | _ => none
theorem tupV_ok {e : Expr} {l : List Expr} (h : tupV e = some l) : ∃ k p, e = .Tuple l k p := by
  unfold tupV at h
  split at h
  · cases h
    exact ⟨_, _, rfl⟩
  · cases h
/-- o.m(e, ..), o a name, on one line -/
def mV : Stmt → Option (Str × Str × List Expr)
  | .Expr (.Call (.Attribute (.Name x _) m ap) es [] cp) _ => if (ap.endLine == cp.line) = true then some (x, m, es) else none
  | _ => none
theorem mV_ok {st : Stmt} {x m : Str} {es : List Expr} (h : mV st = some (x, m, es)) : ∃ p ap cp p2, st = .Expr (.Call (.Attribute (.Name x p) m ap) es [] cp) p2 ∧ (ap.endLine == cp.line) = true := by
  unfold mV at h
  split at h
  · split at h
    · cases h
      exact ⟨_, _, _, _, rfl, by assumption⟩
    · cases h
  · cases h
def exV : Stmt → Option Expr
  | .Expr (.Call f a k p) _ => some (.Call f a k p)
  | _ => none
theorem exV_ok {st : Stmt} {e : Expr} (h : exV st = some e) : ∃ f a k p q, e = .Call f a k p ∧ st = .Expr e q := by
  unfold exV at h
  split at h
  · cases h
    exact ⟨_, _, _, _, _, rfl, rfl⟩
  · cases h
/-! ### which stores are turned about -/
def isNm : Expr → Option (Str × Pos)
  | .Name x p => some (x, p)
  | _ => none
/-- name = [..] stored by the block itself -/
def swLc (sc : Scope) (t v : Expr) : Bool := match t, v with
  | .Name y py, .ListComp _ _ s p => decide (sc.names.lookup y = some .local) && (py.line == p.line) && !(s.names.any fun z => z.1 == y && (z.2 == .local || z.2 == .cell))
  | _, _ => false
def lineOf (ts : List Expr) : Nat := (ts.head?.map (·.pos.line)).getD 0
def locNm (sc : Scope) (l : Nat) (e : Expr) : Option Str := match e with
  | .Name y p => if (sc.names.lookup y == some .local && p.line == l) = true then some y else none
  | _ => none
def spGen (sc : Scope) (ts vs : List Expr) : Bool :=
  !(ts.length == 2 || ts.length == 3) || vs.length != ts.length || (ts.filterMap (locNm sc (lineOf ts))).length != ts.length || vs.all (foldedForSure 8)
def spSw (sc : Scope) (ts vs : List Expr) : Bool :=
  (ts.length == 2 || ts.length == 3) && vs.length == ts.length && vs.all notStar && (ts.filterMap (locNm sc (lineOf ts))).length == ts.length && (ts.filterMap (locNm sc (lineOf ts))).eraseDups.length == (ts.filterMap (locNm sc (lineOf ts))).length
    && !(vs.all (foldedForSure 8)) && !(vs.all (constantsAlone 8))
section
variable {env : PySem.Env}
theorem bk_of (hk : env.scope.kind = .function) : env.blockKind = .function := by
  unfold Env.blockKind
  rw [hk]
  rfl
theorem nm_eq (l : Nat) : ∀ ts : List Expr, ts.filterMap (fun | .Name id pos => if env.kindOf id == some .local && pos.line == l then some id else none | _ => none) = ts.filterMap (locNm env.scope l)
  | [] => rfl
  | t :: ts => by
    rw [List.filterMap_cons, List.filterMap_cons, nm_eq l ts]
    cases t <;> rfl
theorem sp_none {ts vs : List Expr} {k k2 : Nat} {p p2 : Pos} (h : spGen env.scope ts vs = true) : swappedStores [.Tuple ts k p] (.Tuple vs k2 p2) env = pure none := by
  unfold swappedStores
  simp only
  split
  · rfl
  · rename_i h1
    split
    · rfl
    · generalize hN : List.filterMap _ ts = names
      have hN' : names = ts.filterMap (locNm env.scope (lineOf ts)) := hN.symm.trans (nm_eq _ ts)
      split
      · rfl
      · rename_i h3
        split
        · rfl
        · rename_i h4
          exfalso
          simp only [spGen, lineOf, Bool.or_eq_true] at h
          simp only [Bool.or_eq_true, not_or] at h1 h3
          rw [hN'] at h3
          rcases h with ((h | h) | h) | h
          · exact h1.1.1 h
          · exact h1.1.2 h
          · exact h3.1 h
          · exact h4 h
theorem any_star {vs : List Expr} (h : vs.all notStar = true) : (vs.any fun | .Starred .. => true | _ => false) = false := by
  induction vs with
  | nil => rfl
  | cons v vs ih =>
    simp only [List.all_cons, Bool.and_eq_true] at h
    rw [List.any_cons, ih h.2]
    cases v <;> first | rfl | cases h.1
theorem sp_some {ts vs : List Expr} {k k2 : Nat} {p p2 : Pos} (hk : env.scope.kind = .function) (h : spSw env.scope ts vs = true) : swappedStores [.Tuple ts k p] (.Tuple vs k2 p2) env = pure (some (ts.filterMap (locNm env.scope (lineOf ts)))) := by
  simp only [spSw, Bool.and_eq_true, Bool.not_eq_true'] at h
  obtain ⟨⟨⟨⟨⟨⟨h1, h2⟩, h3⟩, h4⟩, h5⟩, h6⟩, h7⟩ := h
  unfold swappedStores
  have hb := bk_of hk
  simp only
  generalize hN : List.filterMap _ ts = names
  have hN' : names = ts.filterMap (locNm env.scope (lineOf ts)) := hN.symm.trans (nm_eq _ ts)
  rw [← hN'] at h4 h5 ⊢
  have e2 : vs.length = ts.length := eq_of_beq h2
  have e4 : names.length = ts.length := eq_of_beq h4
  have e5 : names.eraseDups.length = names.length := eq_of_beq h5
  rw [if_neg (by rw [hb, h1, e2]; simp)]
  generalize hs : List.any vs _ = sb
  have hs' : sb = false := hs.symm.trans (any_star h3)
  rw [if_neg (by rw [hs']; simp), if_neg (by rw [e5, e4]; simp), if_neg (by rw [h6]; simp), if_neg (by rw [h7]; simp)]
end
section
variable (T : Stc)
def chkP (p : Pt) (e : Expr) (sc : Scope) (fx : Str → Bool) : Bool := match p with
  | .name i => match e with
    | .Name x _ => decide (T.N[i]? = some x) && (decide (sc.names.lookup x = some .local) || (decide (sc.names.lookup x = some .cell) && fx x))
    | _ => false
  | .sub i ix => match e with
    | .Subscript (.Name x _) b _ => decide (T.N[i]? = some x) && visB sc x && plainN x && chkE T ix b sc
    | _ => false
def chkPs : List Pt → List Expr → Scope → (Str → Bool) → Bool
  | [], l, _, _ => l.isEmpty
  | p :: ps, l, sc, fx => match l with
    | e :: es => chkP T p e sc fx && chkPs ps es sc fx
    | [] => false
def chkRs : List E → List Expr → Scope → Bool
  | [], l, _ => l.isEmpty
  | a :: r, l, sc => match l with
    | e :: es => chkE T a e sc && notStar e && chkRs r es sc
    | [] => false
def noComp : Expr → Bool
  | .ListComp .. => false
  | .SetComp .. => false
  | .DictComp .. => false
  | _ => true
def par2 (ps : List Pt) (ts vs : List Expr) (sc : Scope) : Bool := match ps, ts, vs with
  | [.name i, .name j], [.Name x _, .Name y _], [_, _] => decide (i ≠ j) && decide (T.N[i]? = some x) && decide (T.N[j]? = some y) && decide (sc.names.lookup x = some .local) && decide (sc.names.lookup y = some .local) && spSw sc ts vs && decide (ts.filterMap (locNm sc (lineOf ts)) = [x, y])
  | _, _, _ => false
def par3 (ps : List Pt) (ts vs : List Expr) (sc : Scope) : Bool := match ps, ts, vs with
  | [.name i, .name j, .name l], [.Name x _, .Name y _, .Name z _], [_, _, _] => decide (i ≠ j) && decide (i ≠ l) && decide (j ≠ l) && decide (T.N[i]? = some x) && decide (T.N[j]? = some y) && decide (T.N[l]? = some z) && decide (sc.names.lookup x = some .local) && decide (sc.names.lookup y = some .local) && decide (sc.names.lookup z = some .local) && spSw sc ts vs && decide (ts.filterMap (locNm sc (lineOf ts)) = [x, y, z])
  | _, _, _ => false
/-- name = [..], the name a plain local -/
def chkLc (p : Pt) (e : E) (t v : Expr) (sc : Scope) : Bool := match p, t with
  | .name i, .Name x _ => decide (T.N[i]? = some x) && decide (sc.names.lookup x = some .local) && chkE T e v sc
  | _, _ => false
mutual
def chkS : S → Stmt → Scope → (Str → Bool) → Bool
  | .pass, st, sc, fx => match st with
    | .Pass _ => true
    | _ => false
  | .asg p e, st, sc, fx => match asgV st with
    | some (t, v) => if swLc sc t v = true then chkLc T p e t v sc else chkP T p t sc fx && chkE T e v sc
    | none => false
  | .unp ps e, st, sc, fx => match asgV st with
    | some (t, v) => (match tupV t with
      | some ts => chkPs T ps ts sc fx && chkE T e v sc && !(isTup v)
      | none => false)
    | none => false
  | .par ps es, st, sc, fx => match asgV st with
    | some (t, v) => (match tupV t, tupV v with
      | some ts, some vs => chkRs T es vs sc && ((spGen sc ts vs && chkPs T ps ts sc fx) || par2 T ps ts vs sc || par3 T ps ts vs sc)
      | _, _ => false)
    | none => false
  | .app i e, st, sc, fx => match mV st with
    | some (x, m, es) => decide (m = "append") && decide (T.N[i]? = some x) && visB sc x && plainN x && chkRs T [e] es sc
    | none => false
  | .insr i a e, st, sc, fx => match mV st with
    | some (x, m, es) => decide (m = "insert") && decide (T.N[i]? = some x) && visB sc x && plainN x && chkRs T [a, e] es sc
    | none => false
  | .expr e, st, sc, fx => match exV st with
    | some x => chkE T e x sc
    | none => false
  | .ife c a b, st, sc, fx => match st with
    | .If t x y _ => chkE T c t sc && chkB a x sc fx && chkB b y sc fx
    | _ => false
  | .for_ tg it b, st, sc, fx => match st with
    | .For t i body [] _ => chkI T it t i sc && noSet i && chkT T tg t sc fx && chkB b body sc fx
    | _ => false
  | .ret e, st, sc, fx => match st with
    | .Return (some x) _ => chkE T e x sc
    | _ => false
  | .retN, st, sc, fx => match st with
    | .Return none _ => true
    | _ => false
  | .never, st, sc, fx => true
def chkB : Bk → List Stmt → Scope → (Str → Bool) → Bool
  | .nil, l, sc, fx => l.isEmpty
  | .cons s b, l, sc, fx => match l with
    | st :: rest => chkS s st sc fx && chkB b rest sc fx
    | [] => false
  | .frz i b, l, sc, fx => chkB b l sc fx
end
end
end Mi

set_option Elab.async false
set_option linter.all false
set_option maxRecDepth 100000
set_option maxHeartbeats 4000000
/-! Mi: every statement of the text does what its tree says. -/
namespace Mi
open PySem L2 PyProof.Rows

/-- what a def hands out, seen from a place within -/
def RetS (K : PySem.W.Frag) (O : Addr → Prop) (H : Hp) (σ : L2.St) (s : Sl) (O' : Addr → Prop) (H' : Hp) (v : V) : R → Prop
  | .val d => Den K O' H' v d
  | .new xs => ∃ a ws, v = .ref a ∧ (ownAdF σ s a ∨ H a = none) ∧ O' a ∧ H' a = some (.lst ws) ∧ DenAll K O' H' ws xs
  | .bor _ => False
def EndOk (K : PySem.W.Frag) (D : Ends) (O : Addr → Prop) (H : Hp) (σ : L2.St) (s : Sl) : Fl → Sl → Prop
  | .nx, s' => ∀ O' H' σ', Gs No K O H σ s O' H' σ' s' → D.nx σ' H'
  | .brk, s' => ∀ O' H' σ', Gs No K O H σ s O' H' σ' s' → D.bk σ' H'
  | .ret r, s' => ∀ O' H' σ' v, Gs No K O H σ s O' H' σ' s' → RetS K O H σ s O' H' v r → D.rt v H'
def tS (K : PySem.W.Frag) (c : Sl → Option (Fl × Sl)) : TS := fun D σ H => ∃ O s fl s', Ok K O H σ s ∧ c s = some (fl, s') ∧ EndOk K D O H σ s fl s'
section
variable {K : PySem.W.Frag} {O O1 O2 : Addr → Prop} {H H1 H2 : Hp} {σ σ1 : L2.St} {s s1 s2 s' : Sl} {D : Ends} {fl : Fl} {Φ : Phi} {v : V} {r : R}
theorem RetS.behind (k : Ok K O H σ s) (g : Gs No K O H σ s O1 H1 σ1 s1) (h : RetS K O1 H1 σ1 s1 O2 H2 v r) : RetS K O H σ s O2 H2 v r := by
  cases r with
  | val d => exact h
  | bor i => exact h
  | new xs =>
    obtain ⟨a, ws, e, h1, h2⟩ := h
    refine ⟨a, ws, e, ?_, h2⟩
    rcases h1 with z | z
    · rcases g.ownF a z with z | z | z
      · exact .inl z
      · exact .inr z
      · exact z.elim
    · exact .inr (old_of g.th z)
theorem EndOk.behind (k : Ok K O H σ s) (h : EndOk K D O H σ s fl s') (g : Gs No K O H σ s O1 H1 σ1 s1) : EndOk K D O1 H1 σ1 s1 fl s' := by
  cases fl with
  | nx => exact fun O' H' σ' g' => h O' H' σ' (g.then k g')
  | brk => exact fun O' H' σ' g' => h O' H' σ' (g.then k g')
  | ret r => exact fun O' H' σ' v g' rr => h O' H' σ' v (g.then k g') (rr.behind k g)
theorem rd_next (h : tS K (fun s => some (.nx, s)) D σ H) : tNext D σ H := by
  obtain ⟨O, s, fl, s', k, e, q⟩ := h
  cases e
  exact q O H σ (Gs.refl k)
theorem rd_never (h : tS K (fun _ => none) D σ H) : tNever D σ H := by
  obtain ⟨O, s, fl, s', k, e, q⟩ := h
  cases e
theorem rd_seq {cx cb : Sl → Option (Fl × Sl)} (h : tS K (fun s => (cx s).bind fun (fl, s1) => match fl with
    | .nx => cb s1
    | fl => some (fl, s1)) D σ H) : tSeq (tS K cx) (tS K cb) D σ H := by
  obtain ⟨O, s, fl, s', k, e, q⟩ := h
  obtain ⟨⟨f1, s1⟩, ex, e1⟩ := bnd e
  cases f1 with
  | nx => exact ⟨O, s, .nx, s1, k, ex, fun O1 H1 σ1 g1 => ⟨O1, s1, fl, s', g1.ok, e1, q.behind k g1⟩⟩
  | brk =>
    cases e1
    exact ⟨O, s, .brk, _, k, ex, q⟩
  | ret r =>
    cases e1
    exact ⟨O, s, .ret r, _, k, ex, q⟩
theorem rd_frz {i : Nat} {cb : Sl → Option (Fl × Sl)} (h : tS K (fun s => match s[i]? with
    | some (.own false xs) => cb (s.set i (.val (.list xs)))
    | some (.val _) => cb s
    | _ => none) D σ H) : tS K cb D σ H := by
  obtain ⟨O, s, fl, s', k, e, q⟩ := h
  simp only at e
  split at e
  · rename_i xs hs
    obtain ⟨O', g⟩ := frz_go k hs
    exact ⟨O', _, fl, s', g.ok, e, q.behind k g⟩
  · exact ⟨O, s, fl, s', k, e, q⟩
  · cases e
theorem new_old {Oa : Addr → Prop} {Ha : Hp} (g1 : Go K O H σ s O1 H1 s1) (f1 : ∀ xs a, r = .new xs → v = .ref a → H a = none) : ∀ x, newAd v r x → H x = none := fun x ⟨xs, e1, e2⟩ => f1 xs x e1 e2
theorem rd_asg {p : Pt} {ca : Sl → Option (R × Sl)} (h : tS K (fun s => (ca s).bind fun (r, s1) => (putP Φ p r s1).map fun s2 => (.nx, s2)) D σ H) : tAsg (tE K ca) (tP K Φ p) D σ H := by
  obtain ⟨O, s, fl, s', k, e, q⟩ := h
  obtain ⟨⟨r, s1⟩, ea, e1⟩ := bnd e
  obtain ⟨s2, ep, e2⟩ := mpd e1
  cases e2
  exact ⟨O, s, r, s1, k, ea, fun O1 v1 H1 g1 r1 f1 => ⟨O1, s1, r, _, g1.ok, r1, ep, fun O2 σ2 H2 g2 _ => q O2 H2 σ2 (((Gs.of_go g1).trans k g2).tight k fun x z => z.elim (fun z => z.elim) fun ⟨xs, e1, e2⟩ => f1 xs x e1 e2)⟩⟩
theorem rd_unp {ps : List Pt} {n : Nat} (hn : ps.length = n) {ca : Sl → Option (R × Sl)} (h : tS K (fun s => (ca s).bind fun (r, s1) => match r with
    | .val (.tuple ds) => (putPs Φ ps (ds.map .val) s1).map fun s2 => (.nx, s2)
    | _ => none) D σ H) : tAsg (tE K ca) (gTup K n (tPs K Φ ps)) D σ H := by
  obtain ⟨O, s, fl, s', k, e, q⟩ := h
  obtain ⟨⟨r, s1⟩, ea, e1⟩ := bnd e
  simp only at e1
  split at e1
  · rename_i ds
    obtain ⟨s2, ep, e2⟩ := mpd e1
    cases e2
    refine ⟨O, s, _, s1, k, ea, fun O1 v1 H1 g1 r1 f1 => ?_⟩
    obtain ⟨a, vs, ev, h1, h2⟩ := flat_tup r1 nofun rfl
    have hl : ∀ (ps : List Pt) (rs : List R) (s s' : Sl), putPs Φ ps rs s = some s' → rs.length = ps.length := by
      intro ps
      induction ps with
      | nil =>
        intro rs s s' e
        cases rs with
        | nil => rfl
        | cons _ _ => cases e
      | cons p ps ih =>
        intro rs s s' e
        cases rs with
        | nil => cases e
        | cons r rs =>
          obtain ⟨s1, _, e2⟩ := bnd e
          exact congrArg Nat.succ (ih rs _ _ e2)
    obtain ⟨y1, y2⟩ := RAts.vals (σ := σ) (s := s1) h2
    refine ⟨a, vs, ev, h1, by rw [h2.length, ← hn, ← hl _ _ _ _ ep, List.length_map], O1, s1, _, _, g1.ok, y1, ep, fun O2 σ2 H2 g2 => q O2 H2 σ2 (((Gs.of_go g1).trans k g2).tight k fun x z => z.elim (fun z => z.elim) fun z => absurd z (y2 x))⟩
  · cases e1
theorem putPs_len {Φ : Phi} : ∀ (ps : List Pt) (rs : List R) (s s' : Sl), putPs Φ ps rs s = some s' → rs.length = ps.length := by
  intro ps
  induction ps with
  | nil =>
    intro rs s s' e
    cases rs with
    | nil => rfl
    | cons _ _ => cases e
  | cons p ps ih =>
    intro rs s s' e
    cases rs with
    | nil => cases e
    | cons r rs =>
      obtain ⟨s1, _, e2⟩ := bnd e
      exact congrArg Nat.succ (ih rs _ _ e2)
theorem evRs_len {Φ : Phi} : ∀ (es : List E) (s s' : Sl) (rs : List R), evRs Φ es s = some (rs, s') → rs.length = es.length
  | [], s, s', rs, e => by
    cases e
    rfl
  | a :: es, s, s', rs, e => by
    obtain ⟨⟨r, s1⟩, ea, e1⟩ := bnd e
    have nb : ∀ i, r ≠ .bor i := fun i z => by
      subst z
      cases e1
    have e2 : (evRs Φ es s1).map (fun (rs, s2) => (r :: rs, s2)) = some (rs, s') := by
      cases r <;> first | exact e1 | exact absurd rfl (nb _)
    obtain ⟨⟨rs', s2⟩, es', e3⟩ := mpd e2
    cases e3
    exact congrArg Nat.succ (evRs_len es _ _ _ es')
section
variable {ps : List Pt} {es : List E}
theorem par_mk (h : tS K (fun s => if es.length ≤ sizeLine then (evRs Φ es s).bind fun (rs, s1) => (putPs Φ ps rs s1).map fun s2 => (.nx, s2) else none) D σ H) :
    es.length ≤ sizeLine ∧ tRs K (evRs Φ es) σ H fun vs H1 => ∃ O s O1 s1 rs s', Ok K O H σ s ∧ Go K O H σ s O1 H1 s1 ∧ RAts K O1 H1 σ s1 vs rs ∧ rs.length = es.length ∧ putPs Φ ps rs s1 = some s' ∧ ∀ O2 H2 σ2, Gs (newAds vs rs) K O1 H1 σ s1 O2 H2 σ2 s' → D.nx σ2 H2 := by
  obtain ⟨O, s, fl, s', k, e, q⟩ := h
  simp only at e
  split at e
  · rename_i hz
    obtain ⟨⟨rs, s1⟩, ea, e1⟩ := bnd e
    obtain ⟨s2, ep, e2⟩ := mpd e1
    cases e2
    exact ⟨hz, O, s, rs, s1, k, ea, fun O1 vs H1 g1 ra fr => ⟨O, s, O1, s1, rs, _, k, g1, ra, evRs_len _ _ _ _ ea, ep, fun O2 H2 σ2 g2 => q O2 H2 σ2 (((Gs.of_go g1).trans k g2).tight k fun x z => z.elim (fun z => z.elim) (fr x))⟩⟩
  · cases e
theorem tRs_imp {c : Sl → Option (List R × Sl)} {Q Q' : List V → Hp → Prop} (h : tRs K c σ H Q) (i : ∀ vs H1, Q vs H1 → Q' vs H1) : tRs K c σ H Q' := by
  obtain ⟨O, s, rs, s', k, e, q⟩ := h
  exact ⟨O, s, rs, s', k, e, fun O1 vs H1 g ra fr => i _ _ (q O1 vs H1 g ra fr)⟩
theorem rd_par {n : Nat} (hn : ps.length = n) (h : tS K (fun s => if es.length ≤ sizeLine then (evRs Φ es s).bind fun (rs, s1) => (putPs Φ ps rs s1).map fun s2 => (.nx, s2) else none) D σ H) :
    tAsg (tTup (tRs K (evRs Φ es))) (gTup K n (tPs K Φ ps)) D σ H := by
  obtain ⟨hz, h⟩ := par_mk h
  refine tRs_imp h fun vs H1 ⟨O, s, O1, s1, rs, s', k, g1, ra, hl, ep, q⟩ => ⟨by rw [ra.len, hl]; exact hz, fun p np => ?_⟩
  have gu := Go.upd (o := .tup vs) g1.ok np
  exact ⟨p, vs, rfl, SqT.of upd_same, by rw [ra.len, putPs_len _ _ _ _ ep, hn], O1, s1, rs, s', gu.ok, ra.go gu g1.ok, ep, fun O2 σ2 H2 g2 => q O2 H2 σ2 (((Gs.of_go gu).trans g1.ok g2).wide fun x z => z.elim (fun z => z.elim) id)⟩
theorem names_go {i : Nat} {vs : List V} {rs : List R} {Q : L2.St → Hp → Prop} (h : tPs K Φ (.name i :: ps) (v :: vs) σ H Q) : tPs K Φ ps vs (σ.set i (some v)) H Q := by
  obtain ⟨v', r', e, h⟩ := rd_pcons h
  cases e
  exact rd_pname h
theorem tPs_of {vs : List V} {rs : List R} (k : Ok K O1 H1 σ s1) (ra : RAts K O1 H1 σ s1 vs rs) (ep : putPs Φ ps rs s1 = some s') (q : ∀ O2 H2 σ2, Gs (newAds vs rs) K O1 H1 σ s1 O2 H2 σ2 s' → D.nx σ2 H2) : tPs K Φ ps vs σ H1 D.nx :=
  ⟨O1, s1, rs, s', k, ra, ep, fun O2 σ2 H2 g => q O2 H2 σ2 g⟩
theorem rd_par2 {i j : Nat} {a b : E} (h : tS K (fun s => if [a, b].length ≤ sizeLine then (evRs Φ [a, b] s).bind fun (rs, s1) => (putPs Φ [.name i, .name j] rs s1).map fun s2 => (.nx, s2) else none) D σ H) : tPar i j (tRs K (evRs Φ [a, b])) D σ H := by
  obtain ⟨hz, h⟩ := par_mk h
  refine tRs_imp h fun vs H1 ⟨O, s, O1, s1, rs, s', k, g1, ra, hl, ep, q⟩ => ?_
  have hv : vs.length = 2 := ra.len.trans hl
  match vs, hv with
  | [v, w], _ =>
    have h1 := names_go (rs := rs) (names_go (rs := rs) (tPs_of g1.ok ra ep q))
    exact ⟨v, w, rfl, (rd_pnil h1).2⟩
theorem rd_par3 {i j l : Nat} {a b c : E} (h : tS K (fun s => if [a, b, c].length ≤ sizeLine then (evRs Φ [a, b, c] s).bind fun (rs, s1) => (putPs Φ [.name i, .name j, .name l] rs s1).map fun s2 => (.nx, s2) else none) D σ H) : tPar3 i j l (tRs K (evRs Φ [a, b, c])) D σ H := by
  obtain ⟨hz, h⟩ := par_mk h
  refine tRs_imp h fun vs H1 ⟨O, s, O1, s1, rs, s', k, g1, ra, hl, ep, q⟩ => ?_
  have hv : vs.length = 3 := ra.len.trans hl
  match vs, hv with
  | [v, w, u], _ =>
    have h1 := names_go (rs := rs) (names_go (rs := rs) (names_go (rs := rs) (tPs_of g1.ok ra ep q)))
    exact ⟨v, w, u, rfl, (rd_pnil h1).2⟩
end
variable {ca cb : Sl → Option (R × Sl)}
theorem rd_app {i : Nat} (h : tS K (fun s => if isOwn s i = true then (ca s).bind fun (r, s1) => r.sto.bind fun d => match s1[i]? with
    | some (.own p xs) => if xs.length < sizeLine then some (.nx, s1.set i (.own p (xs ++ [d]))) else none
    | _ => none else none) D σ H) : tDrop (tBM K "list" rAppend (tVar i) (tCons (tE K ca) tNil)) D σ H := by
  obtain ⟨O, s, fl, s', k, e, q⟩ := h
  simp only at e
  split at e
  · rename_i ho
    obtain ⟨p0, zs, hi⟩ := isOwn_iff ho
    obtain ⟨⟨r, s1⟩, ea, e1⟩ := bnd e
    obtain ⟨d, ed, e2⟩ := bnd e1
    simp only at e2
    split at e2
    · rename_i p xs hs1
      split at e2
      · rename_i hz
        cases e2
        obtain ⟨a, us, hw, _, hl, _⟩ := k.own i p0 zs hi
        refine ⟨.ref a, hw, .inl ⟨rfl, _, SqL.of hl⟩, O, s, r, s1, k, ea, fun O1 v1 H1 g1 r1 f1 => ?_⟩
        obtain ⟨b, ws, eb, h1, h2, h3⟩ := g1.ok.own i p xs hs1
        have : b = a := by
          rw [hw] at eb
          cases eb
          rfl
        subst this
        obtain ⟨O5, k5, l5, m5, d5⟩ := r1.keep g1.ok ed
        have g5 : Gs (newAd v1 r) K O1 H1 σ s1 O5 H1 σ s1 := ⟨k5, fun b z => (m5 b z).imp id fun ⟨ys, e1, e2⟩ => .inr ⟨ys, e1, e2⟩, fun b z => .inl (l5 b z), fun _ _ z _ _ => z, fun _ z => z, fun _ z => .inl z, fun _ z => .inl z, fun _ ys z => ⟨rfl, ys, z⟩⟩
        have gp := poke_go k5 hs1 hw ((h3.fewer l5).append (.cons d5 .nil))
        refine ⟨b, ws, v1, rfl, rfl, h2, by rw [h3.length]; exact hz, q O5 _ σ ?_⟩
        refine ((((Gs.of_go g1).trans k g5).trans k (Gs.of_go gp)).tight k fun x z => ?_)
        rcases z with (z | z) | z
        · exact z.elim
        · obtain ⟨ys, e1, e2⟩ := z
          exact f1 ys x e1 e2
        · exact z.elim
      · cases e2
    · cases e2
  · cases e
def rInsert : V → List V → Hp → VK → Prop := fun x vs H Q => ∃ (l : Addr) (xs : List V) (i : Int) (y : V), x = .ref l ∧ vs = [.int i, y] ∧ H l = some (.lst xs) ∧ xs.length < sizeLine ∧ 0 ≤ i ∧ i < 2 ^ 63 ∧ Q .non (upd H l (.lst (xs.take i.toNat ++ [y] ++ xs.drop i.toNat)))
theorem sizeLine_small : (sizeLine : Int) < 2 ^ 63 := by decide
theorem rd_insr {i : Nat} (h : tS K (fun s => if isOwn s i = true then (ca s).bind fun (ra, s0) => (cb s0).bind fun (r, s1) => r.sto.bind fun d => match s1[i]?, ra with
    | some (.own p xs), .val (.int k) => if xs.length < sizeLine ∧ 0 ≤ k ∧ k ≤ xs.length then some (.nx, s1.set i (.own p (xs.take k.toNat ++ [d] ++ xs.drop k.toNat))) else none
    | _, _ => none else none) D σ H) : tDrop (tBM K "list" rInsert (tVar i) (tCons (tE K ca) (tCons (tE K cb) tNil))) D σ H := by
  obtain ⟨O, s, fl, s', k, e, q⟩ := h
  simp only at e
  split at e
  · rename_i ho
    obtain ⟨p0, zs, hi⟩ := isOwn_iff ho
    obtain ⟨⟨ra, s0⟩, ea, e0⟩ := bnd e
    obtain ⟨⟨r, s1⟩, eb, e1⟩ := bnd e0
    obtain ⟨d, ed, e2⟩ := bnd e1
    simp only at e2
    split at e2
    · rename_i p xs n hs1
      split at e2
      · rename_i hz
        cases e2
        obtain ⟨a, us, hw, _, hl, _⟩ := k.own i p0 zs hi
        refine ⟨.ref a, hw, .inl ⟨rfl, _, SqL.of hl⟩, O, s, _, s0, k, ea, fun O0 v0 H0 g0 r0 f0 => ?_⟩
        obtain ⟨n', ev0⟩ : ∃ n' : Int, v0 = .int n := by
          cases r0
          exact ⟨n, rfl⟩
        subst ev0
        refine ⟨O0, s0, r, s1, g0.ok, eb, fun O1 v1 H1 g1 r1 f1 => ?_⟩
        obtain ⟨b, ws, eb', h1, h2, h3⟩ := g1.ok.own i p xs hs1
        have : b = a := by
          rw [hw] at eb'
          cases eb'
          rfl
        subst this
        obtain ⟨O5, k5, l5, m5, d5⟩ := r1.keep g1.ok ed
        have g5 : Gs (newAd v1 r) K O1 H1 σ s1 O5 H1 σ s1 := ⟨k5, fun b z => (m5 b z).imp id fun ⟨ys, e1, e2⟩ => .inr ⟨ys, e1, e2⟩, fun b z => .inl (l5 b z), fun _ _ z _ _ => z, fun _ z => z, fun _ z => .inl z, fun _ z => .inl z, fun _ ys z => ⟨rfl, ys, z⟩⟩
        have gp := poke_go k5 hs1 hw ((((h3.fewer l5).take n.toNat).append (.cons d5 .nil)).append ((h3.fewer l5).drop n.toNat))
        refine ⟨b, ws, n, v1, rfl, rfl, h2, by rw [h3.length]; exact hz.1, hz.2.1, by have := sizeLine_small; omega, q O5 _ σ ?_⟩
        refine (((((Gs.of_go g0).trans k (Gs.of_go g1))).trans k (g5.trans g1.ok (Gs.of_go gp))).tight k fun x z => ?_)
        rcases z with (z | z) | (z | z)
        · exact z.elim
        · exact z.elim
        · obtain ⟨ys, e1, e2⟩ := z
          exact old_of g0.th (f1 ys x e1 e2)
        · exact z.elim
      · cases e2
    · cases e2
  · cases e
theorem rd_expr (h : tS K (fun s => (ca s).map fun (_, s1) => (.nx, s1)) D σ H) : tDrop (tE K ca) D σ H := by
  obtain ⟨O, s, fl, s', k, e, q⟩ := h
  obtain ⟨⟨r, s1⟩, ea, e1⟩ := mpd e
  cases e1
  exact ⟨O, s, r, _, k, ea, fun O1 v1 H1 g1 r1 f1 => q O1 H1 σ (Gs.of_go g1)⟩
theorem rd_if {cx cy : Sl → Option (Fl × Sl)} (h : tS K (fun s => (ca s).bind fun (r, s1) => (toB r).bind fun k => if k = true then cx s1 else cy s1) D σ H) : tIfS (tT K (evB ca)) (tS K cx) (tS K cy) D σ H := by
  obtain ⟨O, s, fl, s', k, e, q⟩ := h
  obtain ⟨⟨r, s1⟩, ea, e1⟩ := bnd e
  obtain ⟨b, eb, e2⟩ := bnd e1
  refine ⟨O, s, b, s1, k, by show (ca s).bind _ = _; rw [ea]; show (toB r).map _ = _; rw [eb]; rfl, fun O1 H1 g1 => ?_⟩
  cases b with
  | true => exact ⟨O1, s1, fl, s', g1.ok, e2, q.behind k (Gs.of_go g1)⟩
  | false => exact ⟨O1, s1, fl, s', g1.ok, e2, q.behind k (Gs.of_go g1)⟩
theorem rd_retN (h : tS K (fun s => some (.ret (.val .none), s)) D σ H) : tRetN D σ H := by
  obtain ⟨O, s, fl, s', k, e, q⟩ := h
  cases e
  exact q O H σ .non (Gs.refl k) .non
theorem rd_ret (h : tS K (fun s => (ca s).bind fun (r, s1) => (retR r s1).map fun r => (.ret r, s1)) D σ H) : tRet (tE K ca) D σ H := by
  obtain ⟨O, s, fl, s', k, e, q⟩ := h
  obtain ⟨⟨r, s1⟩, ea, e1⟩ := bnd e
  obtain ⟨r', er, e2⟩ := mpd e1
  cases e2
  refine ⟨O, s, r, _, k, ea, fun O1 v1 H1 g1 r1 f1 => q O1 H1 σ v1 (Gs.of_go g1) ?_⟩
  cases r with
  | val d =>
    cases er
    exact r1
  | new xs =>
    cases er
    obtain ⟨a, ws, e1, h1, h2, h3, h4⟩ := r1
    exact ⟨a, ws, e1, .inr (f1 xs a rfl e1), h1, h3, h4⟩
  | bor i =>
    unfold retR at er
    simp only at er
    split at er
    · rename_i xs hs
      cases er
      obtain ⟨a, ws, ha, h1, h2, h3⟩ := g1.ok.own i false xs hs
      obtain ⟨h4, _⟩ := r1
      rw [ha] at h4
      cases h4
      exact ⟨a, ws, rfl, .inl (g1.sh.owF σ a ⟨i, xs, hs, ha⟩), h1, h2, h3⟩
    · cases er
/-! ### for -/
mutual
theorem putT_par : ∀ (tg : Tg) (d : Mi.D) (s s' : Sl), putT tg d s = some s' → ∀ (i : Nat) (xs : List Mi.D), s[i]? = some (.own true xs) → i ∉ tg.ix
  | .name j, d, s, s', e, i, xs, h => by
    unfold putT at e
    split at e
    · rename_i ho
      intro z
      have : i = j := List.mem_singleton.mp z
      subst this
      exact okSet_own ho h
    · cases e
  | .tup l, .tuple ds, s, s', e, i, xs, h => putTs_par l ds s s' e i xs h
  | .tup l, .none, s, s', e, i, xs, h => by cases e
  | .tup l, .bool _, s, s', e, i, xs, h => by cases e
  | .tup l, .int _, s, s', e, i, xs, h => by cases e
  | .tup l, .str _, s, s', e, i, xs, h => by cases e
  | .tup l, .list _, s, s', e, i, xs, h => by cases e
  | .tup l, .dict _, s, s', e, i, xs, h => by cases e
theorem putTs_par : ∀ (tg : Tgs) (ds : List Mi.D) (s s' : Sl), putTs tg ds s = some s' → ∀ (i : Nat) (xs : List Mi.D), s[i]? = some (.own true xs) → i ∉ tg.ix
  | .nil, [], s, s', e, i, xs, h => fun z => by cases z
  | .nil, _ :: _, s, s', e, i, xs, h => by cases e
  | .cons a b, [], s, s', e, i, xs, h => by cases e
  | .cons a b, d :: ds, s, s', e, i, xs, h => by
    obtain ⟨s1, e1, e2⟩ := bnd e
    have n1 := putT_par a d s s1 e1 i xs h
    have h1 : s1[i]? = some (.own true xs) := by
      rw [(putT_ok a d s s1 e1).2.1 i n1]
      exact h
    have n2 := putTs_par b ds s1 s' e2 i xs h1
    intro z
    rcases List.mem_append.mp z with z | z
    · exact n1 z
    · exact n2 z
end
theorem put_gs {tg : Tg} {d : Mi.D} (k : Ok K O H σ s) (e : putT tg d s = some s1) (k1 : Ok K O H σ1 s1) (sb : SameBut tg.ix σ σ1) : Gs No K O H σ s O H σ1 s1 := by
  have po := putT_ok tg d s s1 e
  refine ⟨k1, fun _ z => .inl z, fun _ z => .inl z, fun _ _ z _ _ => z, fun _ z => z, fun a z => .inl (po.ow sb z), fun a z => ?_, fun i xs z => ?_⟩
  · obtain ⟨i, xs, h1, h2⟩ := z
    have hi : i ∉ tg.ix := fun z => by
      obtain ⟨d, e⟩ := po.2.2 i z
      rw [e] at h1
      cases h1
    exact .inl ⟨i, xs, by rw [← po.2.1 i hi]; exact h1, by rw [← sb.2 i hi]; exact h2⟩
  · have hi := putT_par tg d s s1 e i xs z
    exact ⟨sb.2 i hi, xs, by rw [po.2.1 i hi]; exact z⟩
theorem rd_for {cI : Sl → Option (List Mi.D × Sl)} {tg : Tg} {body : Sl → Option (Fl × Sl)} (h : tS K (fun s => (cI s).bind fun (ds, s1) => forL (fun d s => putT tg d s) body ds s1) D σ H) : tFor (tI K cI) (tG K tg) (tS K body) D σ H := by
  obtain ⟨O, s, fl, s', k, e, q⟩ := h
  obtain ⟨⟨ds, s1⟩, eI, e1⟩ := bnd e
  refine ⟨O, s, ds, s1, k, eI, fun O1 H1 J g1 w => ?_⟩
  obtain ⟨G, Y, wk, hG, hY⟩ := w (fun _ => False) (fun _ z => z.elim)
  have q1 := q.behind k (Gs.of_go g1)
  refine for_it wk (fun i σ2 H2 => ∃ O2 s2, Gs No K O1 H1 σ s1 O2 H2 σ2 s2 ∧ forL (fun d s => putT tg d s) body (ds.drop i) s2 = some (fl, s')) ⟨O1, s1, Gs.refl g1.ok, by simpa using e1⟩ ?_ ?_ ?_
  · rintro i σ2 H2 _ ⟨O2, s2, g2, _⟩
    exact hG H2 fun a o z n _ => g2.fr a o z n id
  · rintro i x σ2 H2 H3 hi ⟨O2, s2, g2, ef⟩ y
    obtain ⟨d, ed, tx, dx⟩ := hY i H2 x H3 O2 hi (fun a o z n _ => g2.fr a o z n id) g2.nw g2.ok.dom y
    have edr : ds.drop i = d :: ds.drop (i + 1) := by
      rw [List.drop_eq_getElem_cons hi]
      congr 1
      rw [List.getElem?_eq_getElem hi] at ed
      exact Option.some.inj ed
    rw [edr] at ef
    obtain ⟨s3, ep, ef1⟩ := bnd ef
    obtain ⟨⟨f1, s4⟩, eb, ef2⟩ := bnd ef1
    have gx := Gs.of_go (tx.go g2.ok)
    refine ⟨O2, s2, d, s3, gx.ok, dx, ep, fun σ3 k3 sb => ?_⟩
    have g3 : Gs No K O1 H1 σ s1 O2 H3 σ3 s3 := (g2.then g1.ok gx).then g1.ok (put_gs gx.ok ep k3 sb)
    cases f1 with
    | nx => exact ⟨O2, s3, .nx, s4, k3, eb, fun O4 H4 σ4 g4 => ⟨O4, s4, g3.then g1.ok g4, ef2⟩⟩
    | brk =>
      cases ef2
      exact ⟨O2, s3, .brk, _, k3, eb, fun O4 H4 σ4 g4 => q1 O4 H4 σ4 (g3.then g1.ok g4)⟩
    | ret r =>
      cases ef2
      exact ⟨O2, s3, .ret r, _, k3, eb, fun O4 H4 σ4 v g4 rr => q1 O4 H4 σ4 v (g3.then g1.ok g4) (rr.behind g1.ok g3)⟩
  · rintro σ2 H2 ⟨O2, s2, g2, ef⟩
    rw [List.drop_length] at ef
    cases ef
    exact q1 O2 H2 σ2 g2
end
end Mi

set_option Elab.async false
set_option linter.all false
set_option maxRecDepth 100000
set_option maxHeartbeats 4000000
/-! Mi: every statement of the text does what its tree says (the theorem). -/
namespace Mi
open PySem L2 PyProof.Rows

section
variable {X : Cx} {T : Stc} {Φ : Phi}
theorem sP (c : Cok X T Φ) {p : Pt} {e : Expr} (h : chkP T p e X.env.scope X.fn = true) : PG X e (tP X.K Φ p) := by
  cases p with
  | name i =>
    cases e with
    | Name x pos =>
      simp only [chkP, Bool.and_eq_true, Bool.or_eq_true, decide_eq_true_eq] at h
      have hl : Loc X.env.scope x := by
        rcases h.2 with z | z
        · exact .inl z
        · exact .inr z.1
      exact (pg_name (i := i) c.nd (by rw [c.nEq]; exact h.1) hl (by
        rcases h.2 with z | z
        · exact .inr z
        · exact .inl z.2)).imp fun v σ H Q hh => rd_pname hh
    | _ => cases h
  | sub i ix =>
    cases e with
    | Subscript o b pos =>
      cases o with
      | Name x p2 =>
        simp only [chkP, Bool.and_eq_true, decide_eq_true_eq] at h
        obtain ⟨⟨⟨hN, hv⟩, hp⟩, hx⟩ := h
        obtain ⟨d1, d2, _⟩ := plainN_ok hp
        exact (pg_sub (pe_var (i := i) (by rw [c.nEq]; exact hN) (vis_ok hv) d1 d2) (sE c ix b hx) set_list (fun v => by cases b <;> first | rfl | (cases ix <;> exact absurd hx Bool.false_ne_true))).imp fun v σ H Q hh => rd_psub hh
      | _ => cases h
    | _ => cases h
theorem chkP_star {p : Pt} {e : Expr} {sc : Scope} {fx : Str → Bool} (h : chkP T p e sc fx = true) : notStar e = true := by
  cases p <;> cases e <;> first | rfl | cases h
theorem sPs (c : Cok X T Φ) : ∀ (ps : List Pt) (es : List Expr), chkPs T ps es X.env.scope X.fn = true → PGs X es (tPs X.K Φ ps) ∧ ps.length = es.length ∧ (assignEach es X.env).length = es.length ∧ (assignEach es X.env).findIdx? (·.1) = none
  | [], es, h => by
    cases es with
    | nil => exact ⟨pgs_nil.imp fun v σ H Q hh => rd_pnil hh, rfl, rfl, rfl⟩
    | cons _ _ => cases h
  | p :: ps, es, h => by
    cases es with
    | nil => cases h
    | cons e es =>
      simp only [chkPs, Bool.and_eq_true] at h
      obtain ⟨h1, h2, h3, h4⟩ := sPs c ps es h.2
      have ns := chkP_star h.1
      refine ⟨(pgs_cons (sP c h.1) h1 (by rw [assign_star ns]; rfl)).imp fun v σ H Q hh => rd_pcons hh, congrArg Nat.succ h2, ?_, ?_⟩
      · rw [assign_star ns]
        exact congrArg Nat.succ h3
      · rw [assign_star ns, List.findIdx?_cons]
        simp [h4]
theorem sRs (c : Cok X T Φ) : ∀ (as : List E) (es : List Expr), chkRs T as es X.env.scope = true → PA X es (tRs X.K (evRs Φ as))
  | [], es, h => by
    cases es with
    | nil => exact pa_nil.imp fun σ H Q hh => rd_rnil hh
    | cons _ _ => cases h
  | a :: as, es, h => by
    cases es with
    | nil => cases h
    | cons e es =>
      simp only [chkRs, Bool.and_eq_true] at h
      exact (pa_cons (sE c a e h.1.1) (sRs c as es h.2) (eval_star h.1.2 es X.env)).imp fun σ H Q hh => rd_rcons hh
def noSD : Expr → Bool
  | .SetComp .. => false
  | .DictComp .. => false
  | _ => true
theorem chkE_noSD {a : E} {e : Expr} {sc : Scope} (h : chkE T a e sc = true) : noSD e = true := by
  cases e <;> first | rfl | (cases a <;> exact absurd h Bool.false_ne_true)
theorem sw_false {env : PySem.Env} {t v : Expr} (hk : env.scope.kind = .function) (h : swLc env.scope t v = false) (n : noSD v = true) (l : Nat) : swapsWith v (some t) l env = pure false := by
  cases v with
  | SetComp => cases n
  | DictComp => cases n
  | ListComp elt gs s p =>
    cases t with
    | Name y py =>
      have hb := bk_of hk
      unfold swapsWith
      simp only [hb, Expr.pos]
      have h : (decide (env.scope.names.lookup y = some .local) && (py.line == p.line) && !(s.names.any fun z => z.1 == y && (z.2 == .local || z.2 == .cell))) = false := h
      have e : (env.kindOf y == some .local) = decide (env.scope.names.lookup y = some .local) := by
        show (env.scope.names.lookup y == some NameKind.local) = _
        cases q : env.scope.names.lookup y with
        | none => rfl
        | some k => cases k <;> rfl
      rw [e]
      show (pure (true && decide (env.scope.names.lookup y = some .local) && (py.line == p.line) && !(s.names.any fun z => z.1 == y && (z.2 == .local || z.2 == .cell))) : Sem Bool) = pure false
      rw [Bool.true_and, h]
    | _ => rfl
  | _ => rfl
theorem tE_imp {K : PySem.W.Frag} {ca : Sl → Option (R × Sl)} {σ : L2.St} {H : Hp} {Q Q' : VK} (h : tE K ca σ H Q) (i : ∀ x H1, Q x H1 → Q' x H1) : tE K ca σ H Q' := by
  obtain ⟨O, s, r, s', k, e, q⟩ := h
  exact ⟨O, s, r, s', k, e, fun O1 v H1 g ra f => i _ _ (q O1 v H1 g ra f)⟩
theorem s_lc (c : Cok X T Φ) (hk : X.env.scope.kind = .function) {p : Pt} {a : E} {t v : Expr} {pos : Pos} (hs : swLc X.env.scope t v = true) (h : chkLc T p a t v X.env.scope = true) : PS X (.Assign [t] v pos) (tS X.K (st Φ (.asg p a))) := by
  cases p with
  | sub _ _ => cases h
  | name i =>
    cases t with
    | Name x px =>
      simp only [chkLc, Bool.and_eq_true, decide_eq_true_eq] at h
      obtain ⟨⟨hN, hl⟩, h⟩ := h
      cases v with
      | ListComp elt gs scope pl =>
        cases a with
        | comp own tg it co el =>
          simp only [chkE] at h
          split at h
          · rename_i elt' t' i' ifs' scope' hv
            obtain ⟨q, e⟩ := lcV_ok hv
            cases e
            split at h
            · rename_i o ho
              have ho := ifV_ok ho
              subst ho
              simp only [Bool.and_eq_true] at h
              obtain ⟨⟨⟨⟨⟨⟨hb, hi⟩, hn⟩, ht⟩, hc⟩, he⟩, hx⟩ := h
              simp only [swLc, Bool.and_eq_true, Bool.not_eq_true'] at hs
              have hix : ∀ i ∈ tg.ix, i ∈ own.map (·.2) := fun i z => List.contains_iff_mem.mp (List.all_eq_true.mp hx i z)
              refine (ps_setLc (i := i) (tt := tT X.K (fun s => evo' Φ co s)) (te := tE X.K (fun s => ev Φ el s)) (g := tG X.K tg) c.calm c.nd (by rw [c.nEq]; exact hN) hl (sw_true hk hl hs.1.2 hs.2) (sI c it t' i' hi) (blkOk_by (by rw [c.nEq]; exact hb)) (fun s H C cl fp => sTg (c.blk s H scope _ fp) tg t' ht)
                (fun s H C cl fp => pts_of (sOT (c.blk s H scope _ fp) co o hc)) (fun s H C cl fp => sE (c.blk s H scope _ fp) el elt he) (noSet_ok hn X.env)).imp fun D σ H hh => ?_
              exact tLc_of hix σ H _ (tE_imp (rd_asg hh) fun x H1 z => rd_pname z)
            · simp at h
          · cases h
        | comp2 own tg it tg1 it1 el =>
          simp only [chkE] at h
          split at h
          · rename_i elt' t' i' t1 i1 scope' hv
            obtain ⟨q, e⟩ := lc2V_ok hv
            cases e
            simp only [Bool.and_eq_true] at h
            obtain ⟨⟨⟨⟨⟨⟨⟨⟨⟨⟨hb, hi⟩, hn⟩, ht⟩, hi1⟩, hn1⟩, ht1⟩, he⟩, hx⟩, hx1⟩, hd⟩ := h
            simp only [swLc, Bool.and_eq_true, Bool.not_eq_true'] at hs
            have hix : ∀ i ∈ tg.ix, i ∈ own.map (·.2) := fun i z => List.contains_iff_mem.mp (List.all_eq_true.mp hx i z)
            have hix1 : ∀ i ∈ tg1.ix, i ∈ own.map (·.2) := fun i z => List.contains_iff_mem.mp (List.all_eq_true.mp hx1 i z)
            have hdj : ∀ i ∈ tg1.ix, i ∉ tg.ix := fun i z y => by
              have := List.all_eq_true.mp hd i z
              rw [List.contains_iff_mem.mpr y] at this
              exact Bool.false_ne_true this
            refine (ps_setLc2 (i := i) (tt := tT X.K fun s => some (true, s)) (tt1 := tT X.K fun s => some (true, s)) (te := tE X.K (fun s => ev Φ el s)) (g := tG X.K tg) (g1 := tG X.K tg1) (wi1 := tI X.K (fun s => evI Φ it1 s)) (vs1 := tg1.ix) c.calm c.nd (by rw [c.nEq]; exact hN) hl (sw_true hk hl hs.1.2 hs.2) (sI c it t' i' hi) (blkOk_by (by rw [c.nEq]; exact hb)) hix1
              (fun s H C cl fp => sTg (c.blk s H scope _ fp) tg t' ht) (fun s H C cl fp => pts_nil.imp fun σ H Q hh => rd_yes hh) (fun s H C cl fp => sI (c.blk s H scope _ fp) it1 t1 i1 hi1) (fun s H C cl fp => sTg (c.blk s H scope _ fp) tg1 t1 ht1) (fun s H C cl fp => pts_nil.imp fun σ H Q hh => rd_yes hh)
              (fun s H C cl fp => sE (c.blk s H scope _ fp) el elt he) (noSet_ok hn X.env) (fun env x => noSet_ok hn1 env x)).imp fun D σ H hh => ?_
            exact tLc2_of hix hix1 hdj σ H _ (tE_imp (rd_asg hh) fun x H1 z => rd_pname z)
          · cases h
        | _ => cases h
      | _ => cases hs
    | _ => cases hs
def isNS : Expr → Bool
  | .Name .. => true
  | .Subscript .. => true
  | _ => false
theorem sp_false {env : PySem.Env} {t v : Expr} (h : isNS t = true) : swappedStores [t] v env = pure none := by
  cases t <;> first | cases h; done | rfl
mutual
theorem sS (c : Cok X T Φ) (hk : X.env.scope.kind = .function) (hp : PassesOwn (model X.prog X.w) X.A X.env X.xe) : ∀ (a : S) (stm : Stmt), chkS T a stm X.env.scope X.fn = true → PS X stm (tS X.K (st Φ a))
  | .pass, stm, h => by
    cases stm with
    | Pass p => exact ps_pass.imp fun D σ H hh => rd_next hh
    | _ => cases h
  | .asg p a, stm, h => by
    simp only [chkS] at h
    split at h
    · rename_i t v hv
      obtain ⟨pos, rfl⟩ := asgV_ok hv
      split at h
      · rename_i hs
        exact s_lc c hk hs h
      · rename_i hs
        simp only [Bool.and_eq_true] at h
        have ns := chkP_star h.1
        refine (ps_asg (sE c a v h.2) (sP c h.1) (sw_false hk (by simpa using hs) (chkE_noSD h.2) _) (sp_false ?_) (by rw [assign_star ns]; rfl)).imp fun D σ H hh => rd_asg hh
        have h1 := h.1
        cases p <;> cases t <;> first | rfl | cases h1
    · cases h
  | .unp ps a, stm, h => by
    simp only [chkS] at h
    split at h
    · rename_i t v hv
      obtain ⟨pos, rfl⟩ := asgV_ok hv
      split at h
      · rename_i ts ht
        obtain ⟨k, p, rfl⟩ := tupV_ok ht
        simp only [Bool.and_eq_true, Bool.not_eq_true'] at h
        obtain ⟨h1, h2, h3, h4⟩ := sPs c ps ts h.1.1
        refine (ps_asg (sE c a v h.1.2) (pg_tup (n := ts.length) c.calm h1 h3 h4) (sw_false (t := .Tuple ts k p) hk (by cases v <;> rfl) (chkE_noSD h.1.2) pos.line) ?_ rfl).imp fun D σ H hh => rd_unp h2 hh
        have h5 := h.2
        cases v <;> first | rfl | cases h5
      · cases h
    · cases h
  | .par ps as, stm, h => by
    simp only [chkS] at h
    split at h
    · rename_i t v hv
      obtain ⟨pos, rfl⟩ := asgV_ok hv
      split at h
      · rename_i ts vs ht hv2
        obtain ⟨k, p, rfl⟩ := tupV_ok ht
        obtain ⟨k2, p2, rfl⟩ := tupV_ok hv2
        simp only [Bool.and_eq_true, Bool.or_eq_true] at h
        obtain ⟨hR, h⟩ := h
        have pa := sRs c as vs hR
        rcases h with (⟨hg, hP⟩ | h2) | h3
        · obtain ⟨h1, h2, h3, h4⟩ := sPs c ps ts hP
          exact (ps_asg (pe_tup pa) (pg_tup (n := ts.length) c.calm h1 h3 h4) rfl (sp_none hg) rfl).imp fun D σ H hh => rd_par h2 hh
        · unfold par2 at h2
          split at h2
          · rename_i i j x px y py a b
            simp only [Bool.and_eq_true, decide_eq_true_eq] at h2
            obtain ⟨⟨⟨⟨⟨⟨hij, hi⟩, hj⟩, lx⟩, ly⟩, hs⟩, hf⟩ := h2
            have hw := sp_some (k := k) (k2 := k2) (p := p) (p2 := p2) hk hs
            rw [hf] at hw
            match as, hR with
            | [e1, e2], hR => exact (ps_par c.calm c.nd (by rw [c.nEq]; exact hi) (by rw [c.nEq]; exact hj) hij lx ly pa hw rfl).imp fun D σ H hh => rd_par2 hh
            | [], hR => cases hR
            | [_], hR => simp [chkRs] at hR
            | _ :: _ :: _ :: _, hR => simp [chkRs] at hR
          · cases h2
        · unfold par3 at h3
          split at h3
          · rename_i i j l x px y py z pz a b c'
            simp only [Bool.and_eq_true, decide_eq_true_eq] at h3
            obtain ⟨⟨⟨⟨⟨⟨⟨⟨⟨⟨hij, hil⟩, hjl⟩, hi⟩, hj⟩, hl⟩, lx⟩, ly⟩, lz⟩, hs⟩, hf⟩ := h3
            have hw := sp_some (k := k) (k2 := k2) (p := p) (p2 := p2) hk hs
            rw [hf] at hw
            match as, hR with
            | [e1, e2, e3], hR => exact (ps_par3 c.calm c.nd (by rw [c.nEq]; exact hi) (by rw [c.nEq]; exact hj) (by rw [c.nEq]; exact hl) hij hil hjl lx ly lz pa hw rfl).imp fun D σ H hh => rd_par3 hh
            | [], hR => cases hR
            | [_], hR => simp [chkRs] at hR
            | [_, _], hR => simp [chkRs] at hR
            | _ :: _ :: _ :: _ :: _, hR => simp [chkRs] at hR
          · cases h3
      · cases h
    · cases h
  | .app i a, stm, h => by
    simp only [chkS] at h
    split at h
    · rename_i x m es hv
      obtain ⟨p, ap, cp, p2, rfl, hl⟩ := mV_ok hv
      simp only [Bool.and_eq_true, decide_eq_true_eq] at h
      obtain ⟨⟨⟨⟨rfl, hN⟩, hvis⟩, hpl⟩, hR⟩ := h
      obtain ⟨d1, d2, _⟩ := plainN_ok hpl
      match es, hR with
      | [e], hR =>
        simp only [chkRs, Bool.and_eq_true] at hR
        have ns := hR.1.2
        exact (ps_expr (pe_bm PySem.F.plainAttrs_list PySem.F.slot_list_append PySem.F.type_list_append mt_append (pe_var (i := i) (by rw [c.nEq]; exact hN) (vis_ok hvis) d1 d2) (pa_cons (sE c a e hR.1.1) pa_nil (eval_star ns [] X.env)) rfl (by rw [eval_star ns]; rfl) hl (eval_star ns [] X.env) rfl) rfl).imp fun D σ H hh => rd_app hh
      | [], hR => cases hR
      | _ :: _ :: _, hR => simp [chkRs] at hR
    · cases h
  | .insr i a b, stm, h => by
    simp only [chkS] at h
    split at h
    · rename_i x m es hv
      obtain ⟨p, ap, cp, p2, rfl, hl⟩ := mV_ok hv
      simp only [Bool.and_eq_true, decide_eq_true_eq] at h
      obtain ⟨⟨⟨⟨rfl, hN⟩, hvis⟩, hpl⟩, hR⟩ := h
      obtain ⟨d1, d2, _⟩ := plainN_ok hpl
      match es, hR with
      | [e, f], hR =>
        simp only [chkRs, Bool.and_eq_true] at hR
        have ns := hR.1.2
        have ns2 := hR.2.1.2
        exact (ps_expr (pe_bm PySem.F.plainAttrs_list PySem.F.slot_list_insert PySem.F.type_list_insert mt_insert (pe_var (i := i) (by rw [c.nEq]; exact hN) (vis_ok hvis) d1 d2) (pa_cons (sE c a e hR.1.1) (pa_cons (sE c b f hR.2.1.1) pa_nil (eval_star ns2 [] X.env)) (eval_star ns [f] X.env)) rfl (by rw [eval_star ns, eval_star ns2]; rfl) hl (eval_star ns [f] X.env) (by rw [eval_star ns2]; rfl)) rfl).imp fun D σ H hh => rd_insr hh
      | [], hR => cases hR
      | [_], hR => simp [chkRs] at hR
      | _ :: _ :: _ :: _, hR => simp [chkRs] at hR
    · cases h
  | .expr a, stm, h => by
    simp only [chkS] at h
    split at h
    · rename_i e hv
      obtain ⟨f, as, k, p, q, rfl, rfl⟩ := exV_ok hv
      exact (ps_expr (sE c a _ h) rfl).imp fun D σ H hh => rd_expr hh
    · cases h
  | .ife t a b, stm, h => by
    cases stm with
    | If u x y pos =>
      simp only [chkS, Bool.and_eq_true] at h
      exact (ps_if (sT c t u h.1.1) (sB c hk hp a x h.1.2) (sB c hk hp b y h.2)).imp fun D σ H hh => rd_if hh
    | _ => cases h
  | .for_ tg it b, stm, h => by
    cases stm with
    | For t i body oe pos =>
      cases oe with
      | nil =>
        simp only [chkS, Bool.and_eq_true] at h
        exact (ps_for hp c.calm (sI c it t i h.1.1.1) (sTg c tg t h.1.2) (sB c hk hp b body h.2) (noSet_ok h.1.1.2 X.env)).imp fun D σ H hh => rd_for hh
      | cons _ _ => cases h
    | _ => cases h
  | .ret a, stm, h => by
    cases stm with
    | Return x pos =>
      cases x with
      | some x => exact (ps_ret (sE c a x h)).imp fun D σ H hh => rd_ret hh
      | none => cases h
    | _ => cases h
  | .retN, stm, h => by
    cases stm with
    | Return x pos =>
      cases x with
      | some x => cases h
      | none => exact ps_retN.imp fun D σ H hh => rd_retN hh
    | _ => cases h
  | .never, stm, h => ps_never.imp fun D σ H hh => rd_never hh
theorem sB (c : Cok X T Φ) (hk : X.env.scope.kind = .function) (hp : PassesOwn (model X.prog X.w) X.A X.env X.xe) : ∀ (a : Bk) (l : List Stmt), chkB T a l X.env.scope X.fn = true → PSs X l (tS X.K (bk Φ a))
  | .nil, l, h => by
    cases l with
    | nil => exact pss_nil.imp fun D σ H hh => rd_next hh
    | cons _ _ => cases h
  | .cons a b, l, h => by
    cases l with
    | nil => cases h
    | cons x rest =>
      simp only [chkB, Bool.and_eq_true] at h
      exact (pss_cons (sS c hk hp a x h.1) (sB c hk hp b rest h.2)).imp fun D σ H hh => rd_seq hh
  | .frz i b, l, h => (sB c hk hp b l h).imp fun D σ H hh => rd_frz hh
end
end
end Mi

set_option Elab.async false
set_option linter.all false
set_option maxRecDepth 100000
set_option maxHeartbeats 4000000
/-! Mi: defs; the law's own def and its head. -/
namespace Mi
open PySem L2 PyProof.Rows PySem.Spec

/-! ### the slots at a def's entry -/
section
variable {K : PySem.W.Frag} {O O' : Addr → Prop} {H H' : Hp} {vs : List V} {as : List Arg}
def sl0 (n : Nat) (as : List Arg) : Sl := as.map Arg.slot ++ List.replicate (n - as.length) .emp
theorem AAll.get (h : AAll K O H vs as) : ∀ (i : Nat), (∀ d, as[i]? = some (.val d) → ∃ v, vs[i]? = some v ∧ Den K O H v d) ∧
    ∀ xs, as[i]? = some (.own xs) → ∃ a ws, vs[i]? = some (.ref a) ∧ O a ∧ H a = some (.lst ws) ∧ DenAll K O H ws xs := by
  induction h with
  | nil => exact fun i => ⟨fun d e => by simp at e, fun d e => by simp at e⟩
  | val a b ih =>
    intro i
    cases i with
    | zero => exact ⟨fun d e => by simp at e; subst e; exact ⟨_, rfl, a⟩, fun d e => by simp at e⟩
    | succ i => simpa using ih i
  | own a b c d ih =>
    intro i
    cases i with
    | zero => exact ⟨fun d e => by simp at e, fun xs e => by simp at e; subst e; exact ⟨_, _, rfl, a, b, c⟩⟩
    | succ i => simpa using ih i
theorem ads_mem : ∀ {vs : List V} {as : List Arg} {i : Nat} {a : Addr} {xs : List D}, vs[i]? = some (.ref a) → as[i]? = some (.own xs) → a ∈ adsOf vs as
  | [], _, _, _, _, h, _ => by simp at h
  | _ :: _, [], _, _, _, _, h => by simp at h
  | v :: vs, x :: as, 0, a, xs, h1, h2 => by
    simp at h1 h2
    subst h1 h2
    exact List.mem_cons_self
  | v :: vs, x :: as, i + 1, a, xs, h1, h2 => by
    have ih := ads_mem (vs := vs) (as := as) (i := i) (by simpa using h1) (by simpa using h2)
    unfold adsOf
    split
    · rename_i e1 e2
      cases e1
      cases e2
      exact List.mem_cons_of_mem _ ih
    · rename_i e1 e2
      cases e1
      cases e2
      exact ih
    · rename_i z
      exact (z v vs x as rfl rfl).elim
theorem ads_two : ∀ {vs : List V} {as : List Arg} {i j : Nat} {a b : Addr} {xs ys : List D}, i < j → vs[i]? = some (.ref a) → as[i]? = some (.own xs) → vs[j]? = some (.ref b) → as[j]? = some (.own ys) → 2 ≤ (adsOf vs as).length
  | [], _, _, _, _, _, _, _, _, h, _, _, _ => by simp at h
  | _ :: _, [], _, _, _, _, _, _, _, _, h, _, _ => by simp at h
  | v :: vs, x :: as, 0, 0, a, b, xs, ys, hij, h1, h2, h3, h4 => by omega
  | v :: vs, x :: as, 0, j + 1, a, b, xs, ys, hij, h1, h2, h3, h4 => by
    simp at h1 h2
    subst h1 h2
    have := ads_mem (vs := vs) (as := as) (i := j) (by simpa using h3) (by simpa using h4)
    show 2 ≤ (adsOf vs as).length + 1
    have := List.length_pos_of_mem this
    omega
  | v :: vs, x :: as, i + 1, 0, a, b, xs, ys, hij, h1, h2, h3, h4 => by omega
  | v :: vs, x :: as, i + 1, j + 1, a, b, xs, ys, hij, h1, h2, h3, h4 => by
    have ih := ads_two (vs := vs) (as := as) (i := i) (j := j) (by omega) (by simpa using h1) (by simpa using h2) (by simpa using h3) (by simpa using h4)
    unfold adsOf
    split
    · rename_i e1 e2
      cases e1
      cases e2
      simp only [List.length_cons]
      omega
    · rename_i e1 e2
      cases e1
      cases e2
      exact ih
    · rename_i z
      exact (z v vs x as rfl rfl).elim
theorem sl0_get {n i : Nat} {x : Slot} (h : (sl0 n as)[i]? = some x) (ne : x ≠ .emp) : ∃ a, as[i]? = some a ∧ x = a.slot := by
  unfold sl0 at h
  by_cases hi : i < as.length
  · rw [List.getElem?_append_left (by simpa using hi), List.getElem?_map] at h
    cases e : as[i]? with
    | none =>
      rw [e] at h
      cases h
    | some a =>
      rw [e] at h
      cases h
      exact ⟨a, rfl, rfl⟩
  · rw [List.getElem?_append_right (by simpa using hi), List.getElem?_replicate] at h
    split at h
    · cases h
      exact absurd rfl ne
    · cases h
theorem start_get {N : List Str} {i : Nat} {v : V} (h : vs[i]? = some v) : (L2.start N vs)[i]? = some (some v) := by
  unfold L2.start
  have hi := (List.getElem?_eq_some_iff.mp h).1
  rw [List.getElem?_append_left (by simpa using hi), List.getElem?_map, h]
  rfl
theorem slot_val {a : Arg} {d : D} (h : Slot.val d = a.slot) : a = .val d := by
  cases a <;> cases h
  rfl
theorem slot_own {a : Arg} {p : Bool} {xs : List D} (h : Slot.own p xs = a.slot) : a = .own xs ∧ p = true := by
  cases a <;> cases h
  exact ⟨rfl, rfl⟩
theorem ok0 {N : List Str} (h : AAll K O H vs as) (h1 : (adsOf vs as).length ≤ 1) (dom : ∀ a, O a → H a ≠ none) (hl : as.length ≤ N.length) : Ok K O H (L2.start N vs) (sl0 N.length as) := by
  have hv := h.len
  refine ⟨?_, fun i d e => ?_, fun i p xs e => ?_, fun i j p q xs ys a ne e1 e2 f1 f2 => ?_, dom⟩
  · unfold L2.start sl0
    rw [List.length_append, List.length_append, List.length_map, List.length_map, List.length_replicate, List.length_replicate, hv]
  · obtain ⟨a, e1, e2⟩ := sl0_get e nofun
    have := slot_val e2
    subst this
    obtain ⟨v, e3, e4⟩ := (h.get i).1 d e1
    exact ⟨v, start_get e3, e4⟩
  · obtain ⟨a, e1, e2⟩ := sl0_get e nofun
    obtain ⟨this, rfl⟩ := slot_own e2
    subst this
    obtain ⟨b, ws, e3, e4⟩ := (h.get i).2 xs e1
    exact ⟨b, ws, start_get e3, e4⟩
  · obtain ⟨a1, g1, g2⟩ := sl0_get e1 nofun
    obtain ⟨this, rfl⟩ := slot_own g2
    subst this
    obtain ⟨a2, g3, g4⟩ := sl0_get e2 nofun
    obtain ⟨this, rfl⟩ := slot_own g4
    subst this
    obtain ⟨b1, _, k1, _⟩ := (h.get i).2 _ g1
    obtain ⟨b2, _, k2, _⟩ := (h.get j).2 _ g3
    have : 2 ≤ (adsOf vs as).length := by
      by_cases hij : i < j
      · exact ads_two hij k1 g1 k2 g3
      · exact ads_two (by omega : j < i) k2 g3 k1 g1
    omega
theorem own0 {N : List Str} {a : Addr} (h : AAll K O H vs as) (z : ownAd (L2.start N vs) (sl0 N.length as) a) : a ∈ adsOf vs as := by
  obtain ⟨i, p, xs, e1, e2⟩ := z
  obtain ⟨x, g1, g2⟩ := sl0_get e1 nofun
  obtain ⟨this, rfl⟩ := slot_own g2
  subst this
  obtain ⟨b, _, k1, _⟩ := (h.get i).2 _ g1
  rw [start_get k1] at e2
  cases e2
  exact ads_mem k1 g1
theorem ownF0 {n : Nat} {σ : L2.St} {a : Addr} (z : ownAdF σ (sl0 n as) a) : False := by
  obtain ⟨i, xs, e1, e2⟩ := z
  obtain ⟨x, g1, g2⟩ := sl0_get e1 nofun
  obtain ⟨_, z⟩ := slot_own g2
  cases z
/-- the lent lists at the end -/
theorem outs_ok : ∀ {vs : List V} {as : List Arg} {s' : Sl} {os : List (List D)}, AAll K O H vs as → outsOf as s' = some os →
    (∀ (i : Nat) (a : Addr) (xs ys : List D), as[i]? = some (.own xs) → vs[i]? = some (.ref a) → s'[i]? = some (.own true ys) → O' a ∧ ∃ ws, H' a = some (.lst ws) ∧ DenAll K O' H' ws ys) → OAll K O' H' vs as os
  | _, _, s', os, .nil, e, _ => by
    cases e
    trivial
  | _, _, s', os, .val (d := d) (as := as) a b, e, f => by
    cases s' with
    | nil => cases e
    | cons x s' =>
      unfold OAll
      exact outs_ok b e fun i a xs ys h1 h2 h3 => f (i + 1) a xs ys (by simpa using h1) (by simpa using h2) (by simpa using h3)
  | _, _, s', os, .own (as := as) a b c d, e, f => by
    cases s' with
    | nil => cases e
    | cons x s' =>
      cases x with
      | own p ys =>
        cases p with
        | true =>
          obtain ⟨os', e1, e2⟩ := mpd e
          subst e2
          exact ⟨f 0 _ _ ys rfl rfl rfl, outs_ok d e1 fun i a xs ys h1 h2 h3 => f (i + 1) a xs ys (by simpa using h1) (by simpa using h2) (by simpa using h3)⟩
        | false => cases e
      | _ => cases e
/-- the body's reading gives the def's promise -/
theorem body_sp {Φ : Phi} {N : List Str} {b : Bk} {Q : VK} (h : spOf K (runFn Φ N.length b) vs H Q) : tS K (bk Φ b) { nx := fun _ H' => Q .non H', rt := Q } (L2.start N vs) H := by
  obtain ⟨O, as, r, os, dom, ha, h1, e, q⟩ := h
  unfold runFn at e
  split at e
  · rename_i hl
    obtain ⟨⟨fl, s'⟩, eb, e1⟩ := bnd e
    have k0 : Ok K O H (L2.start N vs) (sl0 N.length as) := ok0 ha h1 dom hl
    -- what every end tells
    have fin : ∀ (O' : Addr → Prop) (H' : Hp) (σ' : L2.St) (v : V), outsOf as s' = some os → Gs No K O H (L2.start N vs) (sl0 N.length as) O' H' σ' s' → RetAt K O' H H' v r → Q v H' := fun O' H' σ' v eo g rr => by
      refine q O' v H' (fun a z => ?_) g.nw (fun a o z n => g.fr a o z (fun z => n (own0 ha z)) id) g.th g.ok.dom ?_ rr
      · rcases g.up a z with z | z | z
        · exact z
        · exact (ownF0 z).elim
        · exact z.elim
      · refine outs_ok ha eo fun i a xs ys g1 g2 g3 => ?_
        have hs : (sl0 N.length as)[i]? = some (.own true xs) := by
          unfold sl0
          rw [List.getElem?_append_left (by simpa using (List.getElem?_eq_some_iff.mp g1).1), List.getElem?_map, g1]
          rfl
        obtain ⟨e3, zs, e4⟩ := g.par i xs hs
        rw [g3] at e4
        cases e4
        obtain ⟨c, ws, f1, f2, f3, f4⟩ := g.ok.own i true ys g3
        rw [e3, start_get g2] at f1
        cases f1
        exact ⟨f2, ws, f3, f4⟩
    refine ⟨O, _, fl, s', k0, eb, ?_⟩
    cases fl with
    | nx =>
      obtain ⟨os', eo, e2⟩ := mpd e1
      cases e2
      exact fun O' H' σ' g => fin O' H' σ' .non eo g .non
    | brk => cases e1
    | ret r' =>
      obtain ⟨os', eo, e2⟩ := mpd e1
      cases e2
      refine fun O' H' σ' v g rr => fin O' H' σ' v eo g ?_
      cases r with
      | val d => exact rr
      | bor i => exact rr
      | new xs =>
        obtain ⟨a, ws, g1, g2, g3⟩ := rr
        refine ⟨a, ws, g1, ?_, g3⟩
        rcases g2 with z | z
        · exact (ownF0 z).elim
        · exact z
  · cases e
end
/-! ### a def -/
theorem fnG_of {P : Program} {wd : World} {K : PySem.W.Frag} {mg : Str → Option Value} {base : Heap} {k : Nat} {fa : Addr} {nm ql : Str} {pms : Arguments} {bd : List Stmt} {sco : Scope} {dV kV dc pm cdv ct oc : Value} {an od : Option Addr}
    {osl : Array (Option Value)} {N ps : List Str} {m : FnSem} (lk : K.lookup fa = some ⟨oc, od, .func (PySem.W.fnOf nm ql pms bd sco dV kV dc pm an cdv ct), osl⟩) (cod : PySem.W.codeIn K cdv ql = true) (FS : FnScope N ps sco)
    (body : ∀ (Ar : Around) (ou : List PySem.Env) (sh : Shared) (Hx : Hp) (ws : List V) (Qx : VK), Room k (Ar.deeper (envOfC ql sco sh.heap.objs.size fa cdv)) → Ar.guards = some [] → spOf K m ws Hx Qx →
      ∃ t, PSs (cxOf CX0 P wd K mg base N ql sco fa cdv Ar ou sh Hx E0) bd t ∧ t { nx := fun _ H2 => Qx .non H2, rt := Qx } (L2.start N ws) Hx) :
    FnG P wd K mg base (k + 1) fa (PySem.W.fnOf nm ql pms bd sco dV kV dc pm an cdv ct) ps m := by
  refine ⟨fun Ar ou sh Hx ags uv ws Qx room grd env0 bnds rel len spec => ?_⟩
  have inH : K.In sh.heap := env0.mod.kin.keeps fun p x z => (env0.bs p x z).1
  have noL : sh.heap.NoLimit := env0.mod.nolimit.keeps fun p x z => (env0.bs p x z).1
  have kinds : ∀ y ∈ ps.zip uv, sco.names.lookup y.1 = some .local ∨ (sco.names.lookup y.1 = some .cell ∧ ((cellsFrom (sh.heap.objs.size + 1) sco.names []).lookup y.1).isSome = true) := fun ⟨nn, vv⟩ hy =>
    (FS.par nn (List.of_mem_zip hy).1).imp id fun z => ⟨z, PySem.W.cellsFrom_some _ _ _ (.inl z)⟩
  refine codeAny_call_function room.depth (inH _ _ lk) rfl FS.co FS.gen rfl (PySem.W.codeRec_of inH cod) (bnds _ _ _ _ ?_)
  refine wpAny_newFunctionEnv_cells FS.kind kinds fun ev eqe s2 inc => ?_
  subst eqe
  refine ⟨noL.keeps inc.toInCall.keep, codeAny_func ?_⟩
  obtain ⟨t, pt, qt⟩ := body Ar ou sh Hx ws Qx (room.deeper _) grd spec
  have inv0 : Inv (cxOf CX0 P wd K mg base N ql sco fa cdv Ar ou sh Hx E0) [] (L2.start N ws) Hx s2 := inv_start FS room.hd env0 len rel inc
  refine wpAny_mono (pt.run [] s2 (L2.start N ws) Hx _ inv0 qt) (fun fl s3 hs => ?_) fun e s3 hs => hs
  have fin : ∀ {σ2 : L2.St} {H2 : Hp} {v : V} {u : Value}, Inv (cxOf CX0 P wd K mg base N ql sco fa cdv Ar ou sh Hx E0) [] σ2 H2 s3 → L2.RelV v u → Qx v H2 → CE ou P wd Hx sh Qx u s3 :=
    fun {σ2 H2 v u} J rv q => ⟨v, H2, J.os, J.bare, J.base, J.hok, rv, q⟩
  match fl, hs with
  | .ret u, ⟨v, _, _, J, rv, q⟩ => exact fin J rv q
  | .next, ⟨_, _, J, q⟩ => exact fin (v := V.non) (u := Value.none) J rfl q
  | .brk, ⟨_, _, _, q⟩ => exact False.elim q
  | .cont, ⟨_, _, _, q⟩ => exact False.elim q
theorem fn_mi {P : Program} {wd : World} {K : PySem.W.Frag} {mg : Str → Option Value} {base : Heap} {k : Nat} {nm ql : Str} {sm : Stmt} {fa : Addr} {fd : FuncData} {T : Stc} {Φ : Phi} {ps : List Str} {b : Bk} (F : Fun K nm ql sm fa fd) (FS : FnScope T.N ps (defScope sm))
    (hb : chkB T b (defBody sm) (defScope sm) (fun _ => true) = true)
    (cok : ∀ (cdv : Value) (Ar : Around) (ou : List PySem.Env) (sh : Shared) (Hx : Hp), Room k (Ar.deeper (envOfC ql (defScope sm) sh.heap.objs.size fa cdv)) → Ar.guards = some [] → Cok (cxOf CX0 P wd K mg base T.N ql (defScope sm) fa cdv Ar ou sh Hx E0).nox T Φ) :
    FnG P wd K mg base (k + 1) fa fd ps (runFn Φ T.N.length b) := by
  obtain ⟨oc, od, kV, doc, pm, an, cdv, ct, osl, rfl, lk, hcd⟩ := F.ex
  refine fnG_of lk hcd FS fun Ar ou sh Hx ws Qx room grd spec => ?_
  exact ⟨_, (sB (cok cdv Ar ou sh Hx room grd) FS.kind PassesOwn.never b (defBody sm) hb).nox, body_sp spec⟩
end Mi

set_option Elab.async false
set_option linter.all false
set_option maxRecDepth 100000
set_option maxHeartbeats 4000000
/-! Mi: the law's own def and its head. -/
namespace Mi
open PySem L2 PyProof.Rows PySem.Spec

/-- the law, run by the tree at the script's numbers, tells True -/
def LawHolds (m : FnSem) (n : Nat) : Prop := ∀ ns : List Int, ns.length ≤ n → m [.val (scr (ns.map PyData.int))] = some (.val (.bool true), [])
theorem law_sp {K : PySem.W.Frag} {m : FnSem} {n : Nat} (h : LawHolds m n) {H : Hp} {a : Addr} {ns : List Int} (hl : ns.length ≤ n) (hs : Scr K H a (ns.map V.int)) : spOf K m [.ref a] H (fun v _ => v = .bl true) := by
  refine ⟨fun _ => False, [.val (scr (ns.map PyData.int))], .val (.bool true), [], fun _ z => z.elim, .val (.scr hs (DenAll.of_map (fun i => .int i) ns)) .nil, Nat.zero_le _, h ns hl, fun O' v H' _ _ _ _ _ _ r => ?_⟩
  cases r
  rfl
theorem lawG {P : Program} {wd : World} {K : PySem.W.Frag} {mg mb : Str → Option Value} {k : Nat} {fa sa : Addr} {fd : FuncData} {x : Str} {m : FnSem} {n : Nat} {sh : Shared} {uv : List Value} {ns : List Int}
    (inH : K.In sh.heap) (gN : sh.heap.Ns mainGlobals mg) (bN : sh.heap.Ns builtinsNs mb) (bB : ∀ y : Str, y ≠ "__name__" → mb y = bootBuiltins y) (noL : sh.heap.NoLimit) (noG : sh.gens = #[])
    (at_ : sh.heap.get? sa = some { cls := .type "list", data := .seq uv.toArray }) (are : IntsAre uv ns) (few : ns.length ≤ n) (n63 : n ≤ sizeLine) (room : Room k callerA)
    (F : ∀ base : Heap, K.In base → base.Ns mainGlobals mg → FnG P wd K mg base k fa fd [x] m) (bnd : ∀ (s : Shared) (u : Value), BindsTo s fd ⟨[u], []⟩ [(x, u)]) (holds : LawHolds m n) :
    codeAny (model P wd) callerA (.call (.ref fa) ⟨[.ref sa], []⟩) (fun r s2 => r = .ok (.ret (.bool true)) ∧ OldK sh.heap s2.heap ∧ s2.os = sh.os ∧ AllBare s2.gens) sh := by
  have few' := Nat.le_trans few n63
  have vals := vals_ints are
  have lenU := are.length
  have key : ∀ Hx : Hp, Only Hx → Scr K Hx sa (ns.map V.int) → HOk P wd Hx sh.heap → (∀ p, Hx p ≠ none → p = sa) → (Hx sa ≠ none → K.lookup sa = none) →
      codeAny (model P wd) callerA (.call (.ref fa) ⟨[.ref sa], []⟩) (fun r s2 => r = .ok (.ret (.bool true)) ∧ OldK sh.heap s2.heap ∧ s2.os = sh.os ∧ AllBare s2.gens) sh := by
    intro Hx only scrx hok solo notK
    have here : ∀ {p : Addr} {z : Obj}, sh.heap.get? p = some z → Hx p = none → (hidT sh.heap Hx).get? p = some z := fun z1 z2 => hidT_get z1 z2
    have free : ∀ {p : Addr} {z : Obj} {es : Array DictEntry} {ep : Nat}, sh.heap.get? p = some z → z.data = .dict es ep → Hx p = none := fun {p z es ep} z1 z2 => by
      by_cases q : Hx p = none
      · exact q
      · have := solo p q
        subst this
        rw [at_] at z1
        cases z1
        have : Data.seq uv.toArray _ = Data.dict es ep := z2
        cases this
    have nss : ∀ {p : Addr} {f : Str → Option Value}, sh.heap.Ns p f → (hidT sh.heap Hx).Ns p f := fun {p f} ⟨z, es, ep, z1, z2, z3⟩ => ⟨z, es, ep, here z1 (free z1 z2), z2, z3⟩
    have inB : K.In (hidT sh.heap Hx) := fun p z z1 => here (inH p z z1) (by
      by_cases q : Hx p = none
      · exact q
      · have := solo p q
        subst this
        rw [notK q] at z1
        cases z1)
    have mod : Mod K mg (hidT sh.heap Hx) := ⟨inB, nss gN, ⟨mb, nss bN, bB⟩, let ⟨mc, z1, z2⟩ := noL; ⟨mc, nss z1, z2⟩⟩
    have env0 : Env0 P wd K mg (hidT sh.heap Hx) callerA [] sh Hx := ⟨rfl, mod, fun p z z1 => of_hidT z1, Nat.le_of_eq (hidT_size _ _), trivial, fun p hp => absurd (show p ∈ ([] : List Addr) from hp) (by simp), hok, .of_eq noG⟩
    refine codeAny_mono ((F _ inB (nss gN)).run callerA [] sh Hx ⟨[.ref sa], []⟩ [.ref sa] [.ref sa] _ room rfl env0 (bnd sh (.ref sa)) (.cons rfl .nil) rfl (law_sp holds few scrx)) fun r s2 hr => ?_
    match r, hr with
    | .error e, hr => exact False.elim hr
    | .ok .next, hr => exact False.elim hr
    | .ok .brk, hr => exact False.elim hr
    | .ok .cont, hr => exact False.elim hr
    | .ok (.ret u), ⟨v, H2, os, bare, un, hok2, rel, q⟩ =>
      have q : v = .bl true := q
      subst q
      obtain rfl : u = Value.bool true := rel
      refine ⟨rfl, OldK.of_keep fun p z z1 => ?_, os, bare⟩
      cases q : Hx p with
      | none => exact un.keep p z z1 q (by intro y; exact absurd (show p ∈ ([] : List Addr) from y) (by simp)) (by simp)
      | some y =>
        rcases only p with z2 | ⟨ob, xs, z2⟩
        · rw [q] at z2
          cases z2
        · have z3 := un.frzs p ob _ z2
          obtain ⟨g1, _⟩ := hok p _ z2
          obtain ⟨g2, _⟩ := hok2 p _ z3
          rw [z1] at g1
          cases g1
          exact g2
  cases hk : K.lookup sa with
  | some o =>
    have e := inH sa o hk
    rw [at_] at e
    cases e
    exact key (fun _ => none) (fun _ => .inl rfl) (.inr fun _ => .inr ⟨_, uv.toArray, _, hk, rfl, rfl, rfl, by rw [List.size_toArray, lenU]; exact few', by simpa using vals⟩) (fun p y z => by have z : (none : Option HO) = some y := z; cases z) (fun p z => absurd rfl z) fun z => absurd rfl z
  | none =>
    refine key (fun p => if p = sa then some (.frz { cls := .type "list", data := .seq uv.toArray } (.lst (ns.map V.int))) else none) (fun p => ?_) (.inl ⟨_, if_pos rfl⟩) (fun p y z => ?_) (fun p z => ?_) fun _ => hk
    · by_cases hp : p = sa
      · exact .inr ⟨_, _, if_pos hp⟩
      · exact .inl (if_neg hp)
    · by_cases hp : p = sa
      · have z' := (if_pos hp).symm.trans z
        cases z'
        subst hp
        exact ⟨at_, by rw [List.length_map]; exact few', uv, _, vals, at_⟩
      · have z' := (if_neg hp).symm.trans z
        cases z'
    · by_cases hp : p = sa
      · exact hp
      · exact absurd (if_neg hp) z
/-- the goal that the head leaves -/
theorem walkG {l : PySem.W.OpenLaw} {n k : Nat} {q : Program} {loose : List Str} {XP : (Str → Option Value) → Heap → Prop} {YP : World → Heap → Prop} {d : DefRec} {K : Params → PySem.W.Frag} {x : Str} {m : FnSem}
    (most : l.most = some n) (n63 : n ≤ sizeLine) (nod : d.params.defaults = []) (room : Room k callerA) (inY : ∀ (wd : World) (h : Heap), YP wd h → (K wd.params).In h)
    (F : ∀ (wd : World) (mg : Str → Option Value) (fa : Addr) (h : Heap), (K wd.params).In h → h.Ns mainGlobals mg → mg d.name = some (.ref fa) →
      ∃ fd : FuncData, (∀ (s : Shared) (u : Value), BindsTo s fd ⟨[u], []⟩ [(x, u)]) ∧ ∀ base : Heap, (K wd.params).In base → base.Ns mainGlobals mg → FnG l.prog wd (K wd.params) mg base k fa fd [x] m)
    (holds : LawHolds m n) : PySem.W.WalkO q loose XP YP l.row.toRowW d [] (fun f vs => PySem.call f vs) := by
  refine Att.attach_call most nod fun wd s0 sh mg mb fa o pm cd doc sa uv ns G Y _ _ _ hmg obj are few noG => ?_
  have inH := inY wd _ Y
  obtain ⟨fd, bnd, hF⟩ := F wd mg fa _ inH G.T.g hmg
  exact lawG inH G.T.g G.T.b G.T.builtins G.T.nolimit noG obj are few n63 room hF bnd holds
end Mi

set_option Elab.async false
set_option linter.all false
set_option maxRecDepth 100000
set_option maxHeartbeats 4000000
/-! Mi: defs by defs. -/
namespace Mi
open PySem L2 PyProof.Rows PySem.Spec

/-- a def that may be called: its promise, its name, its parameters, its calls by keywords -/
def CalG (P : Program) (wd : World) (K : PySem.W.Frag) (mg : Str → Option Value) (base : Heap) (lv : Nat) (kp : List (Nat × Nat × List Str × List Nat)) (k : Nat) (x : Str) (n : Nat) (m : FnSem) : Prop :=
  ∃ (lc : Nat) (_ : lc ≤ lv) (f : Addr) (fd : FuncData) (ps : List Str), FnG P wd K mg base lc f fd ps m ∧ mg x = some (.ref f) ∧ PySem.W.keepIn K (.ref f) = true ∧ Binds K fd ps [] ∧ ps.length = n ∧
    ∀ q ks kw, (k, q, ks, kw) ∈ kp → (q + kw.length = n ∧ ∀ (s : Shared) (us ws : List Value), us.length = q → ws.length = ks.length → BindsTo s fd ⟨us, ks.zip ws⟩ (ps.zip (us ++ kw.map fun i => ws.getD i .none)))
/-- a constant of the module -/
def GcG (K : PySem.W.Frag) (mg : Str → Option Value) (x : Str) (d : D) : Prop := ∃ u v, mg x = some u ∧ L2.RelV v u ∧ ∀ O H, Den K O H v d
theorem bl_of {mg : Str → Option Value} (z0 : mg "len" = none) (z1 : mg "abs" = none) (z2 : mg "int" = none) (z3 : mg "str" = none) (z4 : mg "repr" = none) (z5 : mg "tuple" = none) (z6 : mg "list" = none) (z7 : mg "sorted" = none) (z8 : mg "sum" = none) (z9 : mg "any" = none) (z10 : mg "all" = none) (z11 : mg "max" = none) (z12 : mg "min" = none) (z13 : mg "ord" = none) (z14 : mg "divmod" = none) (z15 : mg "range" = none) (z16 : mg "zip" = none) (z17 : mg "enumerate" = none) (z18 : mg "isinstance" = none) (z19 : mg "bool" = none) (z20 : mg "dict" = none) (z21 : mg "set" = none) :
    ∀ x ∈ bnames, mg x = none := by
  intro x h
  simp only [bnames, List.mem_cons, List.mem_nil_iff, or_false] at h
  rcases h with h | h | h | h | h | h | h | h | h | h | h | h | h | h | h | h | h | h | h | h | h | h <;> subst h <;> assumption
section
variable {P : Program} {wd : World} {K : PySem.W.Frag} {mg : Str → Option Value} {base : Heap} {lv : Nat} {T : Stc} {Φ : Phi} {ql : Str} {sco : Scope} {fa : Addr} {cdv : Value} {Ar : Around} {ou : List PySem.Env} {sh : Shared} {Hx : Hp}
theorem cok_of {N : List Str} (eN : N = T.N) (e2 : (true : Bool) = true) (nd : N.Nodup) (room : Room lv (Ar.deeper (envOfC ql sco sh.heap.objs.size fa cdv))) (grd : Ar.guards = some []) (bl : ∀ x ∈ bnames, mg x = none)
    (fn : ∀ k x n, T.fs[k]? = some (x, n) → CalG P wd K mg base lv T.kp k x n (Φ.fn k)) (gc : ∀ j x, T.gs[j]? = some x → GcG K mg x (Φ.gc j)) :
    Cok (cxOf CX0 P wd K mg base N ql sco fa cdv Ar ou sh Hx E0).nox T Φ := by
  refine ⟨eN, rfl, nd, ?_, ?_, bl, fun k x n e => ?_, gc⟩
  · show (Ar.deeper _).guards = some []
    exact grd
  · have := room.un
    show (Ar.deeper _).units + 100 < cLine
    omega
  · obtain ⟨lc, hl, f, fd, ps, F, rest⟩ := fn k x n e
    exact ⟨lc, f, fd, ps, F, room.mono hl, rest⟩
theorem cal_at {fs : List (Str × Nat)} {k : Nat} {x y : Str} {n n' : Nat} {kp : List (Nat × Nat × List Str × List Nat)} {m : FnSem} (e : fs[k]? = some (x, n)) (h : CalG P wd K mg base lv kp k y n' m) (h2 : fs[k]? = some (y, n') := by rfl) : CalG P wd K mg base lv kp k x n m := by
  rw [e] at h2
  cases h2
  exact h
theorem gc_at {gs : List Str} {j : Nat} {x y : Str} {d : D} (e : gs[j]? = some x) (h : GcG K mg y d) (h2 : gs[j]? = some y := by rfl) : GcG K mg x d := by
  rw [e] at h2
  cases h2
  exact h
end
end Mi

set_option Elab.async false
set_option linter.all false
set_option maxRecDepth 100000
/-! Mi: the tree's own rules, for the mathematics. -/
namespace Mi
open PySem

section
variable {Φ : Phi} {s s1 s2 s3 : Sl} {a b c e i : E} {r r' : R} {x : S} {k : Bk} {o : Option (Fl × Sl)}
theorem ev_slot {j : Nat} : ev Φ (.slot j) s = match s[j]? with
    | some (.val d) => some (.val d, s)
    | some (.own _ _) => some (.bor j, s)
    | _ => none := rfl
theorem ev_lit {l : Lit} : ev Φ (.lit l) s = some (.val l.d, s) := rfl
theorem ev_gc {j : Nat} : ev Φ (.gc j) s = some (.val (Φ.gc j), s) := rfl
theorem ev_bin {op : BOp} : ev Φ (.bin op a b) s = (ev Φ a s).bind fun (ra, s1) => (ev Φ b s1).bind fun (rb, s2) => (ra.get s2).bind fun x => (rb.get s2).bind fun y => (binD op x y).map fun r => (r, s2) := rfl
theorem ev_neg : ev Φ (.neg a) s = (ev Φ a s).bind fun (ra, s1) => match ra with
    | .val (.int i) => some (.val (.int (-i)), s1)
    | _ => none := rfl
theorem ev_not : ev Φ (.not a) s = (ev Φ a s).bind fun (ra, s1) => (toB ra).map fun b => (.val (.bool !b), s1) := rfl
theorem ev_and : ev Φ (.and a b) s = (ev Φ a s).bind fun (ra, s1) => (toB ra).bind fun c => if c = true then (ev Φ b s1).bind fun (rb, s2) => (toB rb).map fun c => (.val (.bool c), s2) else some (.val (.bool false), s1) := rfl
theorem ev_or : ev Φ (.or a b) s = (ev Φ a s).bind fun (ra, s1) => (toB ra).bind fun c => if c = true then some (.val (.bool true), s1) else (ev Φ b s1).bind fun (rb, s2) => (toB rb).map fun c => (.val (.bool c), s2) := rfl
theorem ev_cmp {op : COp} : ev Φ (.cmp op a b) s = (ev Φ a s).bind fun (ra, s1) => (ev Φ b s1).bind fun (rb, s2) => (ra.get s2).bind fun x => (rb.get s2).bind fun y => (cmpD op x y).map fun r => (.val (.bool r), s2) := rfl
theorem ev_cmp2 {op op' : COp} : ev Φ (.cmp2 op op' a b c) s = (ev Φ a s).bind fun (ra, s1) => (ev Φ b s1).bind fun (rb, s2) => (ra.get s2).bind fun x => (rb.get s2).bind fun y => (cmpD op x y).bind fun k =>
      if k = true then (ev Φ c s2).bind fun (rc, s3) => (rb.get s3).bind fun y => (rc.get s3).bind fun z => (cmpD op' y z).map fun k' => (.val (.bool k'), s3) else some (.val (.bool false), s2) := rfl
theorem ev_ite : ev Φ (.ite c a b) s = (ev Φ c s).bind fun (rc, s1) => (toB rc).bind fun k => if k = true then ev Φ a s1 else ev Φ b s1 := rfl
theorem ev_tup {es : Es} : ev Φ (.tup es) s = (evs Φ es s).bind fun (ds, s1) => if ds.length ≤ sizeLine then some (.val (.tuple ds), s1) else none := rfl
theorem ev_lst {es : Es} : ev Φ (.lst es) s = (evs Φ es s).bind fun (ds, s1) => if ds.length ≤ sizeLine then some (.new ds, s1) else none := rfl
theorem ev_ix : ev Φ (.ix a i) s = (ev Φ a s).bind fun (ra, s1) => (ev Φ i s1).bind fun (rb, s2) => (ra.get s2).bind fun x => (rb.get s2).bind fun y => (ixD x y).map fun d => (.val d, s2) := rfl
theorem ev_sl {lo hi : Oe} : ev Φ (.sl a lo hi) s = (ev Φ a s).bind fun (ra, s1) => (evo Φ lo s1).bind fun (l, s2) => (evo Φ hi s2).bind fun (h, s3) => (ra.get s3).bind fun x => (slD x l h).map fun r => (r, s3) := rfl
theorem ev_f1 {f : F1} : ev Φ (.f1 f a) s = (ev Φ a s).bind fun (ra, s1) => (ra.get s1).bind fun x => (f1D f x).map fun r => (r, s1) := rfl
theorem ev_f2 {f : F2} : ev Φ (.f2 f a b) s = (ev Φ a s).bind fun (ra, s1) => (ev Φ b s1).bind fun (rb, s2) => (ra.get s2).bind fun x => (rb.get s2).bind fun y => (f2D f x y).map fun r => (r, s2) := rfl
theorem ev_isT {t : Ty} : ev Φ (.isT t a) s = (ev Φ a s).bind fun (ra, s1) => (ra.get s1).bind fun x => (isTD t x).map fun k => (.val (.bool k), s1) := rfl
theorem ev_call {k : Nat} {as : As} : ev Φ (.call k as) s = (evA Φ as s).bind fun (ps, s1) => callD (Φ.fn k) ps s1 := rfl
theorem ev_callK {k : Nat} {as : As} {kw : List Nat} {ks : Es} : ev Φ (.callK k as kw ks) s = (evA Φ as s).bind fun (ps, s1) => (evs Φ ks s1).bind fun (ds, s2) => callD (fun as => Φ.fn k (as ++ (kw.map fun i => ds.getD i .none).map .val)) ps s2 := rfl
theorem mulD_r {i j : Int} (h1 : -(2 ^ 64) < j) (h2 : j < 2 ^ 64) : mulD (.int i) (.int j) = some (.val (.int (i * j))) := if_pos (.inr ⟨h1, h2⟩)
theorem mulD_l {i j : Int} (h1 : -(2 ^ 64) < i) (h2 : i < 2 ^ 64) : mulD (.int i) (.int j) = some (.val (.int (i * j))) := if_pos (.inl ⟨h1, h2⟩)
/-! ### blocks -/
theorem bk_asg {p : Pt} (h : ev Φ e s = some (r, s1)) (h2 : putP Φ p r s1 = some s2) (h3 : bk Φ k s2 = o) : bk Φ (.cons (.asg p e) k) s = o := by
  show ((ev Φ e s).bind _).bind _ = o
  rw [h]
  show (((putP Φ p r s1).map _).bind _) = o
  rw [h2]
  exact h3
theorem bk_unp {ps : List Pt} {ds : List D} (h : ev Φ e s = some (.val (.tuple ds), s1)) (h2 : putPs Φ ps (ds.map .val) s1 = some s2) (h3 : bk Φ k s2 = o) : bk Φ (.cons (.unp ps e) k) s = o := by
  show ((ev Φ e s).bind _).bind _ = o
  rw [h]
  show (((putPs Φ ps _ s1).map _).bind _) = o
  rw [h2]
  exact h3
theorem bk_par {ps : List Pt} {es : List E} {rs : List R} (hl : es.length ≤ sizeLine) (h : evRs Φ es s = some (rs, s1)) (h2 : putPs Φ ps rs s1 = some s2) (h3 : bk Φ k s2 = o) : bk Φ (.cons (.par ps es) k) s = o := by
  show (if es.length ≤ sizeLine then _ else none : Option (Fl × Sl)).bind _ = o
  rw [if_pos hl, h]
  show (((putPs Φ ps _ s1).map _).bind _) = o
  rw [h2]
  exact h3
theorem bk_ret (h : ev Φ e s = some (r, s1)) (h2 : retR r s1 = some r') : bk Φ (.cons (.ret e) k) s = some (.ret r', s1) := by
  show ((ev Φ e s).bind _).bind _ = _
  rw [h]
  show (((retR r s1).map _).bind _) = _
  rw [h2]
  rfl
theorem bk_expr (h : ev Φ e s = some (r, s1)) (h3 : bk Φ k s1 = o) : bk Φ (.cons (.expr e) k) s = o := by
  show ((ev Φ e s).map _).bind _ = o
  rw [h]
  exact h3
theorem bk_app {j : Nat} {p : Bool} {xs : List D} {d : D} (h0 : isOwn s j = true) (h : ev Φ e s = some (r, s1)) (h1 : r.sto = some d) (h2 : s1[j]? = some (.own p xs)) (hl : xs.length < sizeLine) (h3 : bk Φ k (s1.set j (.own p (xs ++ [d]))) = o) : bk Φ (.cons (.app j e) k) s = o := by
  show (if isOwn s j = true then _ else none : Option (Fl × Sl)).bind _ = o
  rw [if_pos h0, h]
  show ((r.sto.bind _).bind _) = o
  rw [h1]
  show ((match s1[j]? with | some (.own p xs) => _ | _ => _ : Option (Fl × Sl)).bind _) = o
  rw [h2]
  show ((if xs.length < sizeLine then _ else none : Option (Fl × Sl)).bind _) = o
  rw [if_pos hl]
  exact h3
theorem bk_if {t : Bool} {x y : Bk} (h : ev Φ c s = some (.val (.bool t), s1)) (h3 : (if t = true then bk Φ x s1 else bk Φ y s1).bind (fun (fl, s1) => match fl with
    | .nx => bk Φ k s1
    | fl => some (fl, s1)) = o) : bk Φ (.cons (.ife c x y) k) s = o := by
  show ((ev Φ c s).bind _).bind _ = o
  rw [h]
  exact h3
theorem bk_for {tg : Tg} {it : It'} {x : Bk} {ds : List D} {fl : Fl} (h : evI Φ it s = some (ds, s1)) (h2 : forL (fun d s => putT tg d s) (fun s => bk Φ x s) ds s1 = some (fl, s2)) (h3 : ((some (fl, s2)).bind fun (fl, s1) => match fl with
    | .nx => bk Φ k s1
    | fl => some (fl, s1)) = o) : bk Φ (.cons (.for_ tg it x) k) s = o := by
  show ((evI Φ it s).bind _).bind _ = o
  rw [h]
  show (forL _ _ ds s1).bind _ = o
  rw [h2]
  exact h3
theorem bk_frz {j : Nat} {xs : List D} (h : s[j]? = some (.own false xs)) (h3 : bk Φ k (s.set j (.val (.list xs))) = o) : bk Φ (.frz j k) s = o := by
  show (match s[j]? with | some (.own false xs) => _ | some (.val _) => _ | _ => _) = o
  rw [h]
  exact h3
theorem bk_frzV {j : Nat} {d : D} (h : s[j]? = some (.val d)) (h3 : bk Φ k s = o) : bk Φ (.frz j k) s = o := by
  show (match s[j]? with | some (.own false xs) => _ | some (.val _) => _ | _ => _) = o
  rw [h]
  exact h3
theorem run_ok {n : Nat} {as : List Arg} {fl : Fl} {b : Bk} {os : List (List D)} (hl : as.length ≤ n) (h : bk Φ b (as.map Arg.slot ++ List.replicate (n - as.length) .emp) = some (fl, s1)) (h2 : outsOf as s1 = some os) (h3 : (match fl with | .nx => some (R.val .none) | .ret r => some r | .brk => none) = some r) : runFn Φ n b as = some (r, os) := by
  unfold runFn
  rw [if_pos hl, h]
  cases fl with
  | nx =>
    cases h3
    show (outsOf as s1).map _ = _
    rw [h2]
    rfl
  | ret r' =>
    cases h3
    show (outsOf as s1).map _ = _
    rw [h2]
    rfl
  | brk => cases h3
/-! ### comprehensions -/
theorem compL_map {vs : List Nat} {f : D → Sl → Option (Option D × Sl)} (g : D → Option D) : ∀ (ds acc : List D), (∀ d ∈ ds, ∃ s', f d s = some (g d, s') ∧ wipeS s' vs = s) → acc.length + ds.length ≤ sizeLine → compL vs f ds acc s = some (acc ++ ds.filterMap g, s)
  | [], acc, _, _ => by simp [compL]
  | d :: ds, acc, h, hl => by
    obtain ⟨s', e1, e2⟩ := h d List.mem_cons_self
    have hl' : acc.length + (ds.length + 1) ≤ sizeLine := hl
    unfold compL
    rw [e1]
    cases q : g d with
    | none =>
      show compL vs f ds acc (wipeS s' vs) = _
      rw [e2, compL_map g ds acc (fun d hd => h d (List.mem_cons_of_mem _ hd)) (by omega), List.filterMap_cons_none q]
    | some x =>
      have h1 : acc.length < sizeLine := by omega
      show (if acc.length < sizeLine then compL vs f ds (acc ++ [x]) (wipeS s' vs) else none) = _
      rw [if_pos h1, e2, compL_map g ds (acc ++ [x]) (fun d hd => h d (List.mem_cons_of_mem _ hd)) (by rw [List.length_append, List.length_singleton]; omega), List.filterMap_cons_some q, List.append_assoc]
      rfl
theorem ev_comp2 {own : List (Str × Nat)} {tg tg1 : Tg} {it it1 : It'} : ev Φ (.comp2 own tg it tg1 it1 e) s = (evI Φ it s).bind fun (ds, s1) => comp2D (own.map (·.2)) tg1.ix (fun d s => putT tg d s) (fun s => evI Φ it1 s) (compF tg1 (fun s => some (true, s)) (fun s => ev Φ e s)) ds s1 := rfl
theorem ev_min3 : ev Φ (.min3 a b c) s = (ev Φ a s).bind fun (ra, s1) => (ev Φ b s1).bind fun (rb, s2) => (ev Φ c s2).bind fun (rc, s3) => match ra, rb, rc with
    | .val (.int i), .val (.int j), .val (.int k) => some (.val (.int (min3I i j k)), s3)
    | _, _, _ => none := rfl
theorem ev_nset : ev Φ (.nset a) s = (ev Φ a s).bind fun (ra, s1) => (ra.get s1).bind fun x => (nsetD x).map fun r => (r, s1) := rfl
theorem rest_wipe (s : Sl) (vs : List Nat) : restS s (wipeS s vs) vs = s := by
  apply List.ext_getElem?
  intro i
  by_cases hi : i < s.length
  · rw [restS_get s _ (wipeS_len s vs).symm vs i (by rw [wipeS_len]; exact hi)]
    split
    · rfl
    · rename_i n
      rw [wipeS_get vs s i hi, if_neg n]
  · rw [List.getElem?_eq_none (by rw [restS_len, wipeS_len]; omega), List.getElem?_eq_none (by omega)]
theorem wiped_id {own : List Nat} (h : own.all (isEmp s) = true) : wipeS s own = s := wipeS_id fun i hi => isEmp_iff (List.all_eq_true.mp h i hi)
/-- names that hold something stand aside -/
theorem ev_compV {own : List (Str × Nat)} {tg : Tg} {it : It'} {co : Oe} {ds : List D} (g : D → Option D) (hI : evI Φ it s = some (ds, s1)) (hE : (own.map (·.2)).all (isFree s1) = true) (h : ∀ d ∈ ds, ∃ s', compF tg (fun s => evo' Φ co s) (fun s => ev Φ e s) d (wipeS s1 (own.map (·.2))) = some (g d, s') ∧ wipeS s' (own.map (·.2)) = wipeS s1 (own.map (·.2))) (hl : ds.length ≤ sizeLine) :
    ev Φ (.comp own tg it co e) s = some (.new (ds.filterMap g), s1) := by
  show (evI Φ it s).bind _ = _
  rw [hI]
  show compD _ _ ds s1 = _
  unfold compD
  rw [if_pos hE, compL_map g ds [] h (by simpa using hl)]
  show some (R.new ([] ++ _), restS s1 _ _) = _
  rw [rest_wipe]
  rfl
theorem ev_comp {own : List (Str × Nat)} {tg : Tg} {it : It'} {co : Oe} {ds : List D} (g : D → Option D) (hI : evI Φ it s = some (ds, s1)) (hE : (own.map (·.2)).all (isEmp s1) = true) (h : ∀ d ∈ ds, ∃ s', compF tg (fun s => evo' Φ co s) (fun s => ev Φ e s) d s1 = some (g d, s') ∧ wipeS s' (own.map (·.2)) = s1) (hl : ds.length ≤ sizeLine) :
    ev Φ (.comp own tg it co e) s = some (.new (ds.filterMap g), s1) := by
  have w := wiped_id hE
  refine ev_compV g hI (List.all_eq_true.mpr fun i hi => ?_) (by rw [w]; exact h) hl
  have := isEmp_iff (List.all_eq_true.mp hE i hi)
  unfold isFree
  rw [this]
theorem evI_seq {ds : List D} (h : ev Φ a s = some (.val (.tuple ds), s1)) : evI Φ (.seq a) s = some (ds, s1) := by
  show (ev Φ a s).bind _ = _
  rw [h]
  rfl
theorem evI_seqN {ds : List D} (h : ev Φ a s = some (.new ds, s1)) : evI Φ (.seq a) s = some (ds, s1) := by
  show (ev Φ a s).bind _ = _
  rw [h]
  rfl
theorem evI_enumT {ds : List D} (h : ev Φ a s = some (.val (.tuple ds), s1)) : evI Φ (.enum a) s = some (((rgD 0 ds.length).zip ds).map fun (p : D × D) => .tuple [p.1, p.2], s1) := by
  show (ev Φ a s).bind _ = _
  rw [h]
  rfl
theorem evI_rng3 {i j k : Int} (h0 : ev Φ a s = some (.val (.int i), s1)) (h1 : ev Φ b s1 = some (.val (.int j), s2)) (h2 : ev Φ c s2 = some (.val (.int k), s3)) (a1 : -(2 ^ 60) ≤ i) (a2 : i < 2 ^ 60) (a3 : -(2 ^ 60) ≤ j) (a4 : j < 2 ^ 60) (a5 : 0 < k) (a6 : k < 1073741824) :
    evI Φ (.rng3 a b c) s = some (rg3D i k (rg3N i j k), s3) := by
  show (ev Φ a s).bind _ = _
  rw [h0]
  show (ev Φ b s1).bind _ = _
  rw [h1]
  show (ev Φ c s2).bind _ = _
  rw [h2]
  exact if_pos ⟨a1, a2, a3, a4, a5, a6⟩
/-- two for -/
theorem comp2L_map {vs vs1 : List Nat} {put : D → Sl → Option Sl} {cI : Sl → Option (List D × Sl)} {f : D → Sl → Option (Option D × Sl)} (g : D → List D) {s : Sl} : ∀ (ds acc : List D), (∀ d ∈ ds, ∃ sp sq es, put d s = some sp ∧ cI sp = some (es, sq) ∧ (∀ e ∈ es, ∃ s', f e sq = some (some e, s') ∧ wipeS s' vs1 = sq) ∧ g d = es ∧ wipeS sq vs = s) → acc.length + (ds.flatMap g).length ≤ sizeLine → comp2L vs vs1 put cI f ds acc s = some (acc ++ ds.flatMap g, s)
  | [], acc, _, _ => by simp [comp2L]
  | d :: ds, acc, h, hl => by
    obtain ⟨sp, sq, es, e1, e2, e3, e4, e5⟩ := h d List.mem_cons_self
    subst e4
    rw [List.flatMap_cons, List.length_append] at hl
    have e6 := compL_map (vs := vs1) (f := f) (s := sq) (fun d => some d) (g d) acc e3 (by omega)
    rw [List.filterMap_some] at e6
    show (put d s).bind _ = _
    rw [e1]
    show (cI sp).bind _ = _
    rw [e2]
    show (compL vs1 f (g d) acc sq).bind _ = _
    rw [e6]
    show comp2L vs vs1 put cI f ds (acc ++ g d) (wipeS sq vs) = _
    rw [e5, comp2L_map g ds (acc ++ g d) (fun d hd => h d (List.mem_cons_of_mem _ hd)) (by rw [List.length_append]; omega), List.flatMap_cons, List.append_assoc]
theorem evI_rng0 {j : Int} (h : ev Φ b s = some (.val (.int j), s1)) (h1 : 0 ≤ j) (h2 : j < 2 ^ 62) : evI Φ (.rng .none b) s = some (rgD 0 j.toNat, s1) := by
  show (ev Φ b s).bind _ = _
  rw [h]
  show (if _ then some (rgD 0 (j - 0).toNat, s1) else none) = _
  rw [if_pos (by show -(2 ^ 62) ≤ (0 : Int) ∧ (0 : Int) < 2 ^ 62 ∧ -(2 ^ 62) ≤ j ∧ j < 2 ^ 62; omega), Int.sub_zero]
theorem evI_rng {lo j : Int} (h0 : ev Φ a s = some (.val (.int lo), s1)) (h : ev Φ b s1 = some (.val (.int j), s2)) (h1 : -(2 ^ 62) ≤ lo) (h2 : lo < 2 ^ 62) (h3 : -(2 ^ 62) ≤ j) (h4 : j < 2 ^ 62) : evI Φ (.rng (.some a) b) s = some (rgD lo (j - lo).toNat, s2) := by
  show ((ev Φ a s).bind _).bind _ = _
  rw [h0]
  show (ev Φ b s1).bind _ = _
  rw [h]
  show (if _ then some (rgD lo (j - lo).toNat, s2) else none) = _
  rw [if_pos ⟨h1, h2, h3, h4⟩]
/-! ### for: state by state -/
theorem forL_inv {put : D → Sl → Option Sl} {body : Sl → Option (Fl × Sl)} (ds : List D) (I : Nat → Sl → Prop) (h : ∀ i d s, ds[i]? = some d → I i s → ∃ s1 s2, put d s = some s1 ∧ body s1 = some (.nx, s2) ∧ I (i + 1) s2) : ∀ (n : Nat) (s : Sl), n ≤ ds.length → I n s → ∃ s', forL put body (ds.drop n) s = some (.nx, s') ∧ I ds.length s' := by
  intro n s hn hi
  induction hk : ds.length - n generalizing n s with
  | zero =>
    have : n = ds.length := by omega
    subst this
    rw [List.drop_length]
    exact ⟨s, rfl, hi⟩
  | succ k ih =>
    have hlt : n < ds.length := by omega
    rw [List.drop_eq_getElem_cons hlt]
    obtain ⟨s1, s2, e1, e2, e3⟩ := h n ds[n] s (List.getElem?_eq_getElem hlt) hi
    obtain ⟨s', f1, f2⟩ := ih (n + 1) s2 (by omega) e3 (by omega)
    refine ⟨s', ?_, f2⟩
    show (put ds[n] s).bind _ = _
    rw [e1]
    show (body s1).bind _ = _
    rw [e2]
    exact f1
end
theorem sl_le {n : Nat} (h : n ≤ 2000) : n ≤ sizeLine := Nat.le_trans h (by decide)
theorem intsL_map {α : Type} (f : α → Int) : ∀ l : List α, intsL (l.map fun a => .int (f a)) = some (l.map f)
  | [] => rfl
  | a :: l => by
    show (intsL _).map _ = _
    rw [intsL_map f l]
    rfl
theorem boolsL_map {α : Type} (f : α → Bool) : ∀ l : List α, boolsL (l.map fun a => .bool (f a)) = some (l.map f)
  | [] => rfl
  | a :: l => by
    show (boolsL _).map _ = _
    rw [boolsL_map f l]
    rfl
end Mi

set_option Elab.async false
set_option linter.all false
set_option maxRecDepth 100000
set_option maxHeartbeats 4000000
namespace L23
open PySem PySem.Spec PyProof.Rows L2 Mi
/-! ### the text (printed by gen.py) -/
def topS (i : Nat) : Stmt := PySem.Challenge.pw_lettermend_k23_whole_histories_of_disks.main.body.getD i (.Pass ⟨0, 0, 0, 0⟩)
abbrev s_law_draw : Stmt := topS 50
def b_law_draw : Bk := (.cons (.ife (.cmp .gt (.ix (.slot 0) (.lit (.int 0))) (.lit (.int 0))) (.cons (.unp [.sub 0 (.lit (.int 0)), .name 3] (.f2 .divmod (.ix (.slot 0) (.lit (.int 0))) (.slot 1)))
  (.cons (.ret (.slot 3))
  (.nil))) (.nil))
  (.cons (.asg (.sub 0 (.lit (.int 2))) (.bin .add (.ix (.slot 0) (.lit (.int 2))) (.lit (.int 1))))
  (.cons (.asg (.name 2) (.bin .mod (.f1 .int (.bin .add (.bin .mul (.ix (.slot 0) (.lit (.int 1))) (.lit (.int 48017))) (.bin .mul (.lit (.int 12347)) (.ix (.slot 0) (.lit (.int 2)))))) (.lit (.int 2147483249))))
  (.cons (.asg (.sub 0 (.lit (.int 1))) (.bin .mod (.f1 .int (.bin .add (.bin .mul (.slot 2) (.bin .add (.bin .mod (.f1 .int (.slot 2)) (.lit (.int 5003))) (.lit (.int 40009)))) (.ix (.slot 0) (.lit (.int 2))))) (.lit (.int 2147483249))))
  (.cons (.ret (.bin .mod (.f1 .int (.bin .fdiv (.ix (.slot 0) (.lit (.int 1))) (.lit (.int 811)))) (.slot 1)))
  (.nil))))))
def t_law_draw : Stc := ⟨["_law_well_here", "_law_limit", "_law_seed", "_law_figure"], [], [], []⟩
abbrev s_law_unlike : Stmt := topS 52
def b_law_unlike : Bk := (.cons (.par [.name 4, .name 5] [(.f1 .list (.slot 1)), (.lst .nil)])
  (.cons (.for_ (.name 3) (.rng .none (.slot 2)) (.cons (.asg (.name 6) (.call 0 (.m 0 (.v (.f1 .len (.slot 4)) (.nil)))))
  (.cons (.app 5 (.ix (.slot 4) (.slot 6)))
  (.cons (.asg (.name 4) (.bin .add (.sl (.slot 4) .none (.some (.slot 6))) (.sl (.slot 4) (.some (.bin .add (.slot 6) (.lit (.int 1)))) .none)))
  (.nil)))))
  (.cons (.ret (.slot 5))
  (.nil))))
def t_law_unlike : Stc := ⟨["_law_well_here", "_law_some", "_law_often", "_law_turn", "_law_left", "_law_found", "_law_at"], [("_law_draw", 2)], [], []⟩
abbrev s_law_any_of : Stmt := topS 51
def b_law_any_of : Bk := (.cons (.ret (.ix (.slot 1) (.call 0 (.m 0 (.v (.f1 .len (.slot 1)) (.nil))))))
  (.nil))
def t_law_any_of : Stc := ⟨["_law_well_here", "_law_some"], [("_law_draw", 2)], [], []⟩
abbrev s_law_numbers : Stmt := topS 57
def b_law_numbers : Bk := (.cons (.par [.name 3, .name 4] [(.lst .nil), (.call 0 (.m 0 (.v (.tup (.cons (.lit (.int 1)) (.cons (.lit (.int 1)) (.cons (.lit (.int 1)) (.cons (.lit (.int 1)) (.cons (.bin .pow (.lit (.int 10)) (.lit (.int 9))) (.cons (.bin .pow (.lit (.int 10)) (.lit (.int 60))) (.nil)))))))) (.nil))))])
  (.cons (.for_ (.name 2) (.rng .none (.call 1 (.m 0 (.v (.lit (.int 5)) (.nil))))) (.cons (.app 3 (.bin .mul (.call 1 (.m 0 (.v (.lit (.int 30)) (.nil)))) (.slot 4)))
  (.nil)))
  (.cons (.ife (.and (.cmp .ne (.slot 3) (.lst .nil)) (.cmp .eq (.call 1 (.m 0 (.v (.lit (.int 60)) (.nil)))) (.lit (.int 0)))) (.cons (.asg (.name 3) (.sl (.bin .mul (.slot 3) (.slot 1)) .none (.some (.slot 1))))
  (.nil)) (.nil))
  (.cons (.ret (.f1 .tuple (.slot 3)))
  (.nil)))))
def t_law_numbers : Stc := ⟨["_law_well_here", "_law_longest", "_law_turn", "_law_found", "_law_great"], [("_law_any_of", 2), ("_law_draw", 2)], [], []⟩
abbrev s_law_quiet : Stmt := topS 58
def b_law_quiet : Bk := (.cons (.asg (.name 2) (.lst (.cons (.tup .nil) (.nil))))
  (.cons (.for_ (.name 3) (.rng .none (.lit (.int 8))) (.cons (.app 2 (.ite (.cmp .eq (.call 1 (.m 0 (.v (.lit (.int 4)) (.nil)))) (.lit (.int 0))) (.lit .none) (.call 0 (.m 0 (.v (.lit (.int 90)) (.nil))))))
  (.nil)))
  (.cons (.for_ (.name 3) (.rng .none (.bin .add (.lit (.int 3)) (.call 1 (.m 0 (.v (.bin .sub (.slot 1) (.lit (.int 1))) (.nil)))))) (.cons (.app 2 (.call 0 (.m 0 (.v (.lit (.int 90)) (.nil)))))
  (.nil)))
  (.cons (.ife (.cmp .eq (.call 1 (.m 0 (.v (.lit (.int 24)) (.nil)))) (.lit (.int 0))) (.cons (.asg (.name 2) (.sl (.bin .add (.slot 2) (.bin .mul (.sl (.slot 2) (.some (.lit (.int 9))) .none) (.lit (.int 30)))) .none (.some (.lit (.int 70)))))
  (.nil)) (.nil))
  (.cons (.ret (.f1 .tuple (.slot 2)))
  (.nil))))))
def t_law_quiet : Stc := ⟨["_law_well_here", "_law_most", "_law_found", "_law_turn"], [("_law_numbers", 2), ("_law_draw", 2)], [], []⟩
abbrev s_law_sound : Stmt := topS 60
def b_law_sound : Bk := (.cons (.par [.name 2, .name 3] [(.f1 .list (.call 0 (.m 0 (.v (.slot 1) (.nil))))), (.call 1 (.m 0 (.v (.lit (.int 4)) (.nil))))])
  (.cons (.ife (.cmp .eq (.slot 3) (.lit (.int 1))) (.cons (.asg (.sub 2 (.lit (.int 0))) (.lit .none))
  (.nil)) (.nil))
  (.cons (.ife (.cmp .gt (.slot 3) (.lit (.int 1))) (.cons (.asg (.name 4) (.rng false (.some (.lit (.int 9))) (.f1 .len (.slot 2))))
  (.frz 4 (.cons (.asg (.name 4) (.call 2 (.m 0 (.v (.slot 4) (.v (.bin .add (.lit (.int 1)) (.call 1 (.m 0 (.v (.f2 .min (.lit (.int 8)) (.f1 .len (.slot 4))) (.nil))))) (.nil))))))
  (.cons (.asg (.sub 2 (.lit (.int 0))) (.tup (.cons (.f1 .len (.slot 4)) (.nil))))
  (.frz 4 (.cons (.for_ (.tup (.cons (.name 5) (.cons (.name 6) (.nil)))) (.enum (.slot 4)) (.cons (.asg (.sub 2 (.bin .add (.slot 5) (.lit (.int 1)))) (.bin .add (.tup (.cons (.slot 6) (.nil))) (.call 3 (.m 0 (.v (.lit (.int 89)) (.nil))))))
  (.cons (.ife (.cmp .eq (.call 1 (.m 0 (.v (.lit (.int 2)) (.nil)))) (.lit (.int 0))) (.cons (.asg (.sub 2 (.slot 6)) (.lit .none))
  (.nil)) (.nil))
  (.nil))))
  (.nil))))))) (.nil))
  (.cons (.ret (.f1 .tuple (.slot 2)))
  (.nil)))))
def t_law_sound : Stc := ⟨["_law_well_here", "_law_most", "_law_found", "_law_way", "_law_spots", "_law_turn", "_law_at"], [("_law_quiet", 2), ("_law_draw", 2), ("_law_unlike", 3), ("_law_numbers", 2)], [], []⟩
abbrev s_law_counted : Stmt := topS 63
def b_law_counted : Bk := (.cons (.asg (.name 2) (.f1 .list (.slot 0)))
  (.cons (.for_ (.name 3) (.seq (.slot 1)) (.cons (.ife (.and (.cmp .eq (.ix (.slot 3) (.lit (.int 0))) (.lit (.str "batch"))) (.cmp .gt (.ix (.slot 3) (.lit (.int 2))) (.f1 .len (.ix (.slot 3) (.lit (.int 1)))))) (.cons (.for_ (.tup (.cons (.name 4) (.cons (.name 5) (.nil)))) (.seq (.ix (.slot 3) (.lit (.int 1)))) (.cons (.asg (.sub 2 (.bin .sub (.slot 4) (.lit (.int 9)))) (.slot 5))
  (.nil)))
  (.nil)) (.nil))
  (.nil)))
  (.cons (.ret (.f1 .tuple (.slot 2)))
  (.nil))))
def t_law_counted : Stc := ⟨["_law_laid_here", "_law_events", "_law_found", "_law_event", "_law_spot", "_law_own"], [], [], []⟩
abbrev s_law_batch : Stmt := topS 59
def b_law_batch : Bk := (.cons (.par [.name 4, .name 5] [(.rng false (.some (.lit (.int 9))) (.slot 1)), (.lst .nil)])
  (.frz 4 (.cons (.for_ (.name 3) (.seq (.call 0 (.m 0 (.v (.slot 4) (.v (.bin .add (.lit (.int 1)) (.call 1 (.m 0 (.v (.min3 (.lit (.int 8)) (.slot 2) (.f1 .len (.slot 4))) (.nil))))) (.nil)))))) (.cons (.app 5 (.tup (.cons (.slot 3) (.cons (.call 2 (.m 0 (.v (.lit (.int 80)) (.nil)))) (.nil)))))
  (.nil)))
  (.cons (.ret (.f1 .tuple (.slot 5)))
  (.nil)))))
def t_law_batch : Stc := ⟨["_law_well_here", "_law_often", "_law_most", "_law_at", "_law_spots", "_law_found"], [("_law_unlike", 3), ("_law_draw", 2), ("_law_numbers", 2)], [], []⟩
abbrev s_law_history : Stmt := topS 61
def b_law_history : Bk := (.cons (.asg (.name 2) (.lst .nil))
  (.cons (.for_ (.name 3) (.rng .none (.ite (.cmp .eq (.call 0 (.m 0 (.v (.lit (.int 40)) (.nil)))) (.lit (.int 0))) (.lit (.int 40)) (.call 0 (.m 0 (.v (.lit (.int 9)) (.nil)))))) (.cons (.par [.name 5, .name 6] [(.cmp .eq (.call 0 (.m 0 (.v (.lit (.int 2)) (.nil)))) (.lit (.int 0))), (.call 1 (.m 0 (.v (.slot 1) (.v (.lit (.int 4)) (.nil)))))])
  (.cons (.asg (.name 4) (.call 0 (.m 0 (.v (.bin .add (.bin .mul (.lit (.int 2)) (.f1 .len (.slot 6))) (.lit (.int 4))) (.nil)))))
  (.cons (.ife (.cmp .eq (.call 0 (.m 0 (.v (.lit (.int 16)) (.nil)))) (.lit (.int 0))) (.cons (.asg (.name 4) (.lit (.int 4000)))
  (.nil)) (.nil))
  (.cons (.app 2 (.ite (.cmp .eq (.call 0 (.m 0 (.v (.lit (.int 3)) (.nil)))) (.lit (.int 0))) (.tup (.cons (.lit (.str "mend")) (.cons (.slot 4) (.cons (.slot 5) (.nil))))) (.tup (.cons (.lit (.str "batch")) (.cons (.slot 6) (.cons (.slot 4) (.cons (.slot 5) (.nil))))))))
  (.nil))))))
  (.cons (.ret (.f1 .tuple (.slot 2)))
  (.nil))))
def t_law_history : Stc := ⟨["_law_well_here", "_law_often", "_law_found", "_law_turn", "_law_cut", "_law_is_torn", "_law_batch_here"], [("_law_draw", 2), ("_law_batch", 3)], [], []⟩
abbrev s_law_laid : Stmt := topS 53
def b_law_laid : Bk := (.cons (.asg (.name 1) (.f1 .list (.sl (.slot 0) (.some (.lit (.int 9))) .none)))
  (.cons (.ife (.and (.cmp .notN (.ix (.slot 0) (.lit (.int 0))) (.lit .none)) (.cmp .ne (.ix (.slot 0) (.lit (.int 0))) (.tup .nil))) (.cons (.for_ (.name 2) (.seq (.sl (.slot 0) (.some (.lit (.int 1))) (.some (.bin .add (.lit (.int 1)) (.ix (.ix (.slot 0) (.lit (.int 0))) (.lit (.int 0))))))) (.cons (.asg (.sub 1 (.bin .sub (.ix (.slot 2) (.lit (.int 0))) (.lit (.int 9)))) (.sl (.slot 2) (.some (.lit (.int 1))) .none))
  (.nil)))
  (.nil)) (.nil))
  (.cons (.ret (.f1 .tuple (.slot 1)))
  (.nil))))
def t_law_laid : Stc := ⟨["_law_thing", "_law_found", "_law_slot"], [], [], []⟩
abbrev s_told_slots : Stmt := topS 22
def b_told_slots : Bk := (.cons (.ife (.or (.cmp .isN (.ix (.slot 0) (.lit (.int 0))) (.lit .none)) (.cmp .eq (.ix (.slot 0) (.lit (.int 0))) (.tup .nil))) (.cons (.ret (.tup .nil))
  (.nil)) (.nil))
  (.cons (.ret (.sl (.slot 0) (.some (.lit (.int 1))) (.some (.bin .add (.lit (.int 1)) (.ix (.ix (.slot 0) (.lit (.int 0))) (.lit (.int 0)))))))
  (.nil)))
def t_told_slots : Stc := ⟨["disk"], [], [], []⟩
abbrev s_is_whole : Stmt := topS 1
def b_is_whole : Bk := (.cons (.ret (.and (.isT .int (.slot 0)) (.not (.isT .bool (.slot 0)))))
  (.nil))
def t_is_whole : Stc := ⟨["value"], [], [], []⟩
abbrev s_is_between : Stmt := topS 2
def b_is_between : Bk := (.cons (.ret (.and (.call 0 (.v (.slot 0) (.nil))) (.cmp2 .le .le (.slot 1) (.slot 0) (.slot 2))))
  (.nil))
def t_is_between : Stc := ⟨["value", "low", "high"], [("is_whole", 1)], [], []⟩
abbrev s_are_named : Stmt := topS 23
def b_are_named : Bk := (.cons (.ife (.cmp .lt (.nset (.slot 0)) (.f1 .len (.slot 0))) (.cons (.ret (.lit (.bool false)))
  (.nil)) (.nil))
  (.cons (.ret (.f1 .all (.comp [("place", 2)] (.name 2) (.seq (.slot 0)) .none (.call 0 (.v (.slot 2) (.v (.gc 0) (.v (.bin .sub (.slot 1) (.lit (.int 1))) (.nil))))))))
  (.nil)))
def t_are_named : Stc := ⟨["places", "many", "place"], [("is_between", 3)], ["ROOT_PLACE"], []⟩
abbrev s_are_numbers : Stmt := topS 10
def b_are_numbers : Bk := (.cons (.ife (.or (.not (.isT .tuple (.slot 0))) (.not (.call 0 (.v (.f1 .len (.slot 0)) (.v (.slot 1) (.v (.slot 2) (.nil))))))) (.cons (.ret (.lit (.bool false)))
  (.nil)) (.nil))
  (.cons (.ret (.f1 .all (.comp [("each", 3)] (.name 3) (.seq (.slot 0)) .none (.and (.call 1 (.v (.slot 3) (.nil))) (.cmp .ge (.slot 3) (.lit (.int 0)))))))
  (.nil)))
def t_are_numbers : Stc := ⟨["value", "least", "most", "each"], [("is_between", 3), ("is_whole", 1)], [], []⟩
abbrev s_is_block_by : Stmt := topS 11
def b_is_block_by : Bk := (.cons (.ret (.or (.cmp .isN (.slot 0) (.lit .none)) (.call 0 (.v (.slot 0) (.v (.lit (.int 0)) (.v (.gc 0) (.nil)))))))
  (.nil))
def t_is_block_by : Stc := ⟨["value"], [("are_numbers", 3)], ["MOST_IN_BLOCK"], []⟩
abbrev s_is_disk_by : Stmt := topS 12
def b_is_disk_by : Bk := (.cons (.ife (.or (.not (.isT .tuple (.slot 0))) (.not (.call 0 (.v (.f1 .len (.slot 0)) (.v (.gc 0) (.v (.gc 1) (.nil))))))) (.cons (.ret (.lit (.bool false)))
  (.nil)) (.nil))
  (.cons (.ret (.f1 .all (.comp [("each", 1)] (.name 1) (.seq (.slot 0)) .none (.call 1 (.v (.slot 1) (.nil))))))
  (.nil)))
def t_is_disk_by : Stc := ⟨["value", "each"], [("is_between", 3), ("is_block_by", 1)], ["LEAST_PLACES", "MOST_PLACES"], []⟩
abbrev s_is_head : Stmt := topS 21
def b_is_head : Bk := (.cons (.ret (.or (.cmp .isN (.slot 0) (.lit .none)) (.or (.cmp .eq (.slot 0) (.tup .nil)) (.and (.cmp .eq (.f1 .len (.slot 0)) (.lit (.int 1))) (.call 0 (.v (.ix (.slot 0) (.lit (.int 0))) (.v (.lit (.int 1)) (.v (.gc 0) (.nil)))))))))
  (.nil))
def t_is_head : Stc := ⟨["value"], [("is_between", 3)], ["SLOTS"], []⟩
abbrev s_is_sound_by : Stmt := topS 24
def b_is_sound_by : Bk := (.cons (.ife (.or (.not (.call 1 (.v (.slot 0) (.nil)))) (.not (.call 0 (.v (.ix (.slot 0) (.lit (.int 0))) (.nil))))) (.cons (.ret (.lit (.bool false)))
  (.nil)) (.nil))
  (.cons (.asg (.name 1) (.call 2 (.v (.slot 0) (.nil))))
  (.frz 1 (.cons (.ife (.f1 .any (.comp [("slot", 3)] (.name 3) (.seq (.slot 1)) .none (.or (.cmp .isN (.slot 3) (.lit .none)) (.cmp .eq (.slot 3) (.tup .nil))))) (.cons (.ret (.lit (.bool false)))
  (.nil)) (.nil))
  (.frz 1 (.cons (.asg (.name 2) (.comp [("slot", 3)] (.name 3) (.seq (.slot 1)) .none (.ix (.slot 3) (.lit (.int 0)))))
  (.frz 2 (.cons (.ife (.not (.call 3 (.v (.slot 2) (.v (.f1 .len (.slot 0)) (.nil))))) (.cons (.ret (.lit (.bool false)))
  (.nil)) (.nil))
  (.cons (.ret (.f1 .all (.comp [("place", 4)] (.name 4) (.rng (.some (.gc 0)) (.f1 .len (.slot 0))) .none (.or (.cmp .notN (.ix (.slot 0) (.slot 4)) (.lit .none)) (.cmp .in_ (.slot 4) (.slot 2))))))
  (.nil))))))))))
def t_is_sound_by : Stc := ⟨["value", "slots", "named", "slot", "place"], [("is_head", 1), ("is_disk_by", 1), ("told_slots", 1), ("are_named", 2)], ["ROOT_PLACE"], []⟩
abbrev s_check_sound : Stmt := topS 40
def b_check_sound : Bk := (.cons (.ife (.not (.call 0 (.v (.slot 0) (.nil)))) (.cons (.never)
  (.nil)) (.nil))
  (.nil))
def t_check_sound : Stc := ⟨["value"], [("is_sound_by", 1)], [], []⟩
abbrev s_is_batched : Stmt := topS 26
def b_is_batched : Bk := (.cons (.ret (.and (.isT .tuple (.slot 0)) (.and (.cmp .eq (.f1 .len (.slot 0)) (.lit (.int 2))) (.call 0 (.v (.ix (.slot 0) (.lit (.int 1))) (.v (.lit (.int 0)) (.v (.gc 0) (.nil))))))))
  (.nil))
def t_is_batched : Stc := ⟨["value"], [("are_numbers", 3)], ["MOST_IN_BATCH"], []⟩
abbrev s_is_batch_by : Stmt := topS 27
def b_is_batch_by : Bk := (.cons (.ife (.or (.not (.isT .tuple (.slot 0))) (.not (.call 0 (.v (.f1 .len (.slot 0)) (.v (.lit (.int 1)) (.v (.gc 0) (.nil))))))) (.cons (.ret (.lit (.bool false)))
  (.nil)) (.nil))
  (.cons (.ife (.not (.f1 .all (.comp [("each", 2)] (.name 2) (.seq (.slot 0)) .none (.and (.call 1 (.v (.slot 2) (.nil))) (.call 0 (.v (.ix (.slot 2) (.lit (.int 0))) (.v (.gc 1) (.v (.bin .sub (.slot 1) (.lit (.int 1))) (.nil))))))))) (.cons (.ret (.lit (.bool false)))
  (.nil)) (.nil))
  (.cons (.ret (.call 2 (.v (.comp [("each", 2)] (.name 2) (.seq (.slot 0)) .none (.ix (.slot 2) (.lit (.int 0)))) (.v (.slot 1) (.nil)))))
  (.nil))))
def t_is_batch_by : Stc := ⟨["value", "many", "each"], [("is_between", 3), ("is_batched", 1), ("are_named", 2)], ["SLOTS", "ROOT_PLACE"], []⟩
abbrev s_is_cut : Stmt := topS 33
def b_is_cut : Bk := (.cons (.ret (.and (.call 0 (.v (.slot 0) (.nil))) (.and (.cmp .ge (.slot 0) (.lit (.int 0))) (.isT .bool (.slot 1)))))
  (.nil))
def t_is_cut : Stc := ⟨["count", "torn"], [("is_whole", 1)], [], []⟩
abbrev s_is_disk_event : Stmt := topS 34
def b_is_disk_event : Bk := (.cons (.ife (.or (.not (.isT .tuple (.slot 0))) (.or (.cmp .notIn (.f1 .len (.slot 0)) (.tup (.cons (.lit (.int 3)) (.cons (.lit (.int 4)) (.nil))))) (.not (.call 0 (.v (.ix (.slot 0) (.neg (.lit (.int 2)))) (.v (.ix (.slot 0) (.neg (.lit (.int 1)))) (.nil))))))) (.cons (.ret (.lit (.bool false)))
  (.nil)) (.nil))
  (.cons (.ife (.cmp .eq (.f1 .len (.slot 0)) (.lit (.int 3))) (.cons (.ret (.cmp .eq (.ix (.slot 0) (.lit (.int 0))) (.lit (.str "mend"))))
  (.nil)) (.nil))
  (.cons (.ret (.and (.cmp .eq (.ix (.slot 0) (.lit (.int 0))) (.lit (.str "batch"))) (.call 1 (.v (.ix (.slot 0) (.lit (.int 1))) (.v (.slot 1) (.nil))))))
  (.nil))))
def t_is_disk_event : Stc := ⟨["value", "many"], [("is_cut", 2), ("is_batch_by", 2)], [], []⟩
abbrev s_is_history_by : Stmt := topS 35
def b_is_history_by : Bk := (.cons (.ife (.or (.not (.isT .tuple (.slot 0))) (.cmp .gt (.f1 .len (.slot 0)) (.gc 0))) (.cons (.ret (.lit (.bool false)))
  (.nil)) (.nil))
  (.cons (.ret (.f1 .all (.comp [("each", 2)] (.name 2) (.seq (.slot 0)) .none (.call 0 (.v (.slot 2) (.v (.slot 1) (.nil)))))))
  (.nil)))
def t_is_history_by : Stc := ⟨["value", "many", "each"], [("is_disk_event", 2)], ["MOST_EVENTS"], []⟩
abbrev s_check_history : Stmt := topS 44
def b_check_history : Bk := (.cons (.ife (.not (.call 0 (.v (.slot 0) (.v (.slot 1) (.nil))))) (.cons (.never)
  (.nil)) (.nil))
  (.nil))
def t_check_history : Stc := ⟨["value", "many"], [("is_history_by", 2)], [], []⟩
abbrev s_run_by : Stmt := topS 13
def b_run_by : Bk := (.cons (.asg (.name 4) (.f1 .list (.slot 0)))
  (.cons (.for_ (.tup (.cons (.name 5) (.cons (.name 6) (.nil)))) (.seq (.sl (.slot 1) .none (.some (.slot 2)))) (.cons (.asg (.sub 4 (.slot 5)) (.slot 6))
  (.nil)))
  (.cons (.ife (.and (.slot 3) (.cmp .lt (.slot 2) (.f1 .len (.slot 1)))) (.cons (.asg (.sub 4 (.ix (.ix (.slot 1) (.slot 2)) (.lit (.int 0)))) (.lit .none))
  (.nil)) (.nil))
  (.cons (.ret (.f1 .tuple (.slot 4)))
  (.nil)))))
def t_run_by : Stc := ⟨["disk", "writes", "count", "torn", "found", "place", "block"], [], [], []⟩
abbrev s_disk_mending_by : Stmt := topS 29
def b_disk_mending_by : Bk := (.cons (.ife (.cmp .eq (.ix (.slot 0) (.lit (.int 0))) (.tup .nil)) (.cons (.ret (.tup .nil))
  (.nil)) (.nil))
  (.cons (.ret (.bin .add (.f1 .tuple (.comp [("slot", 1)] (.name 1) (.seq (.call 0 (.v (.slot 0) (.nil)))) .none (.tup (.cons (.ix (.slot 1) (.lit (.int 0))) (.cons (.sl (.slot 1) (.some (.lit (.int 1))) .none) (.nil)))))) (.tup (.cons (.tup (.cons (.lit (.int 0)) (.cons (.tup .nil) (.nil)))) (.nil)))))
  (.nil)))
def t_disk_mending_by : Stc := ⟨["disk", "slot"], [("told_slots", 1)], [], []⟩
abbrev s_mended_disk_by : Stmt := topS 30
def b_mended_disk_by : Bk := (.cons (.asg (.name 1) (.call 0 (.v (.slot 0) (.nil))))
  (.cons (.ret (.call 1 (.v (.slot 0) (.v (.slot 1) (.v (.f1 .len (.slot 1)) (.v (.lit (.bool false)) (.nil)))))))
  (.nil)))
def t_mended_disk_by : Stc := ⟨["disk", "writes"], [("disk_mending_by", 1), ("run_by", 4)], [], []⟩
abbrev s_steps_by : Stmt := topS 28
def b_steps_by : Bk := (.cons (.asg (.name 1) (.comp [("at", 2), ("place", 3), ("block", 4)] (.tup (.cons (.name 2) (.cons (.tup (.cons (.name 3) (.cons (.name 4) (.nil)))) (.nil)))) (.enum (.slot 0)) .none (.tup (.cons (.bin .add (.slot 2) (.lit (.int 1))) (.cons (.bin .add (.tup (.cons (.slot 3) (.nil))) (.slot 4)) (.nil))))))
  (.cons (.ret (.bin .add (.bin .add (.bin .add (.f1 .tuple (.slot 1)) (.tup (.cons (.tup (.cons (.lit (.int 0)) (.cons (.tup (.cons (.f1 .len (.slot 0)) (.nil))) (.nil)))) (.nil)))) (.slot 0)) (.tup (.cons (.tup (.cons (.lit (.int 0)) (.cons (.tup .nil) (.nil)))) (.nil)))))
  (.nil)))
def t_steps_by : Stc := ⟨["batch", "slots", "at", "place", "block"], [], [], []⟩
abbrev s_after_disk_event : Stmt := topS 36
def b_after_disk_event : Bk := (.cons (.ife (.cmp .eq (.ix (.slot 1) (.lit (.int 0))) (.lit (.str "mend"))) (.cons (.ret (.call 0 (.v (.slot 0) (.v (.call 1 (.v (.slot 0) (.nil))) (.v (.ix (.slot 1) (.lit (.int 1))) (.v (.ix (.slot 1) (.lit (.int 2))) (.nil)))))))
  (.nil)) (.nil))
  (.cons (.ret (.call 0 (.v (.call 2 (.v (.slot 0) (.nil))) (.v (.call 3 (.v (.ix (.slot 1) (.lit (.int 1))) (.nil))) (.v (.ix (.slot 1) (.lit (.int 2))) (.v (.ix (.slot 1) (.lit (.int 3))) (.nil)))))))
  (.nil)))
def t_after_disk_event : Stc := ⟨["disk", "event"], [("run_by", 4), ("disk_mending_by", 1), ("mended_disk_by", 1), ("steps_by", 1)], [], []⟩
abbrev s_after_history_by : Stmt := topS 37
def b_after_history_by : Bk := (.cons (.asg (.name 2) (.slot 0))
  (.cons (.for_ (.name 3) (.seq (.slot 1)) (.cons (.asg (.name 2) (.call 0 (.v (.slot 2) (.v (.slot 3) (.nil)))))
  (.nil)))
  (.cons (.ret (.slot 2))
  (.nil))))
def t_after_history_by : Stc := ⟨["disk", "history", "found", "event"], [("after_disk_event", 2)], [], []⟩
abbrev s_after_history : Stmt := topS 46
def b_after_history : Bk := (.cons (.expr (.call 0 (.v (.slot 0) (.nil))))
  (.cons (.expr (.call 1 (.v (.slot 1) (.v (.f1 .len (.slot 0)) (.nil)))))
  (.cons (.ret (.call 2 (.v (.slot 0) (.v (.slot 1) (.nil)))))
  (.nil))))
def t_after_history : Stc := ⟨["disk", "history"], [("check_sound", 1), ("check_history", 2), ("after_history_by", 2)], [], []⟩
abbrev s_contents_by : Stmt := topS 25
def b_contents_by : Bk := (.cons (.asg (.name 1) (.f1 .list (.sl (.slot 0) (.some (.gc 0)) .none)))
  (.cons (.for_ (.name 2) (.seq (.call 0 (.v (.slot 0) (.nil)))) (.cons (.asg (.sub 1 (.bin .sub (.ix (.slot 2) (.lit (.int 0))) (.gc 0))) (.sl (.slot 2) (.some (.lit (.int 1))) .none))
  (.nil)))
  (.cons (.ret (.f1 .tuple (.slot 1)))
  (.nil))))
def t_contents_by : Stc := ⟨["disk", "found", "slot"], [("told_slots", 1)], ["ROOT_PLACE"], []⟩
abbrev s_contents : Stmt := topS 42
def b_contents : Bk := (.cons (.expr (.call 0 (.v (.slot 0) (.nil))))
  (.cons (.ret (.call 1 (.v (.slot 0) (.nil))))
  (.nil)))
def t_contents : Stc := ⟨["disk"], [("check_sound", 1), ("contents_by", 1)], [], []⟩
abbrev s_check_contents : Stmt := topS 45
def b_check_contents : Bk := (.cons (.ife (.or (.not (.isT .tuple (.slot 0))) (.not (.call 0 (.v (.f1 .len (.slot 0)) (.v (.lit (.int 2)) (.v (.bin .add (.gc 0) (.lit (.int 1))) (.nil))))))) (.cons (.never)
  (.nil)) (.nil))
  (.cons (.ife (.not (.f1 .all (.comp [("each", 1)] (.name 1) (.seq (.slot 0)) .none (.call 1 (.v (.slot 1) (.v (.lit (.int 0)) (.v (.gc 1) (.nil)))))))) (.cons (.never)
  (.nil)) (.nil))
  (.nil)))
def t_check_contents : Stc := ⟨["value", "each"], [("is_between", 3), ("are_numbers", 3)], ["MOST_HOMES", "MOST_IN_BLOCK"], []⟩
abbrev s_told_contents_by : Stmt := topS 38
def b_told_contents_by : Bk := (.cons (.asg (.name 2) (.f1 .list (.slot 0)))
  (.cons (.for_ (.name 3) (.seq (.slot 1)) (.cons (.ife (.and (.cmp .eq (.ix (.slot 3) (.lit (.int 0))) (.lit (.str "batch"))) (.cmp .gt (.ix (.slot 3) (.lit (.int 2))) (.f1 .len (.ix (.slot 3) (.lit (.int 1)))))) (.cons (.for_ (.tup (.cons (.name 4) (.cons (.name 5) (.nil)))) (.seq (.ix (.slot 3) (.lit (.int 1)))) (.cons (.asg (.sub 2 (.bin .sub (.slot 4) (.gc 0))) (.slot 5))
  (.nil)))
  (.nil)) (.nil))
  (.nil)))
  (.cons (.ret (.f1 .tuple (.slot 2)))
  (.nil))))
def t_told_contents_by : Stc := ⟨["told", "history", "found", "event", "place", "block"], [], ["ROOT_PLACE"], []⟩
abbrev s_told_contents : Stmt := topS 47
def b_told_contents : Bk := (.cons (.expr (.call 0 (.v (.slot 0) (.nil))))
  (.cons (.expr (.call 1 (.v (.slot 1) (.v (.bin .add (.f1 .len (.slot 0)) (.gc 0)) (.nil)))))
  (.cons (.ret (.call 2 (.v (.slot 0) (.v (.slot 1) (.nil)))))
  (.nil))))
def t_told_contents : Stc := ⟨["told", "history"], [("check_contents", 1), ("check_history", 2), ("told_contents_by", 2)], ["ROOT_PLACE"], []⟩
abbrev s_is_sound : Stmt := topS 41
def b_is_sound : Bk := (.cons (.ret (.call 0 (.v (.slot 0) (.nil))))
  (.nil))
def t_is_sound : Stc := ⟨["value"], [("is_sound_by", 1)], [], []⟩
abbrev s_law_mending : Stmt := topS 56
def b_law_mending : Bk := (.cons (.ife (.cmp .isN (.ix (.slot 0) (.lit (.int 0))) (.lit .none)) (.cons (.ret (.tup (.cons (.tup (.cons (.lit (.int 0)) (.cons (.tup .nil) (.nil)))) (.nil))))
  (.nil)) (.nil))
  (.cons (.ife (.cmp .eq (.ix (.slot 0) (.lit (.int 0))) (.tup .nil)) (.cons (.ret (.tup .nil))
  (.nil)) (.nil))
  (.cons (.ret (.bin .add (.f1 .tuple (.comp [("_law_slot", 1)] (.name 1) (.seq (.sl (.slot 0) (.some (.lit (.int 1))) (.some (.bin .add (.lit (.int 1)) (.ix (.ix (.slot 0) (.lit (.int 0))) (.lit (.int 0))))))) .none (.tup (.cons (.ix (.slot 1) (.lit (.int 0))) (.cons (.sl (.slot 1) (.some (.lit (.int 1))) .none) (.nil)))))) (.tup (.cons (.tup (.cons (.lit (.int 0)) (.cons (.tup .nil) (.nil)))) (.nil)))))
  (.nil))))
def t_law_mending : Stc := ⟨["_law_thing", "_law_slot"], [], [], []⟩
abbrev s_law_run : Stmt := topS 54
def b_law_run : Bk := (.cons (.asg (.name 4) (.f1 .list (.slot 0)))
  (.cons (.for_ (.tup (.cons (.name 5) (.cons (.tup (.cons (.name 6) (.cons (.name 7) (.nil)))) (.nil)))) (.enum (.slot 1)) (.cons (.ife (.cmp .lt (.slot 5) (.slot 2)) (.cons (.asg (.sub 4 (.slot 6)) (.slot 7))
  (.nil)) (.cons (.ife (.and (.cmp .eq (.slot 5) (.slot 2)) (.slot 3)) (.cons (.asg (.sub 4 (.slot 6)) (.lit .none))
  (.nil)) (.nil))
  (.nil)))
  (.nil)))
  (.cons (.ret (.f1 .tuple (.slot 4)))
  (.nil))))
def t_law_run : Stc := ⟨["_law_thing", "_law_some", "_law_often", "_law_is_torn", "_law_found", "_law_at", "_law_spot", "_law_own"], [], [], []⟩
abbrev s_law_steps : Stmt := topS 55
def b_law_steps : Bk := (.cons (.asg (.name 1) (.comp [("_law_at", 2), ("_law_one", 3)] (.tup (.cons (.name 2) (.cons (.name 3) (.nil)))) (.enum (.slot 0)) .none (.tup (.cons (.bin .add (.slot 2) (.lit (.int 1))) (.cons (.bin .add (.tup (.cons (.ix (.slot 3) (.lit (.int 0))) (.nil))) (.ix (.slot 3) (.lit (.int 1)))) (.nil))))))
  (.cons (.ret (.bin .add (.bin .add (.bin .add (.f1 .tuple (.slot 1)) (.tup (.cons (.tup (.cons (.lit (.int 0)) (.cons (.tup (.cons (.f1 .len (.slot 0)) (.nil))) (.nil)))) (.nil)))) (.f1 .tuple (.slot 0))) (.tup (.cons (.tup (.cons (.lit (.int 0)) (.cons (.tup .nil) (.nil)))) (.nil)))))
  (.nil)))
def t_law_steps : Stc := ⟨["_law_some", "_law_found", "_law_at", "_law_one"], [], [], []⟩
abbrev s_law_after : Stmt := topS 62
def b_law_after : Bk := (.cons (.for_ (.name 2) (.seq (.slot 1)) (.cons (.asg (.name 3) (.call 0 (.v (.slot 0) (.nil))))
  (.cons (.ife (.cmp .eq (.ix (.slot 2) (.lit (.int 0))) (.lit (.str "mend"))) (.cons (.asg (.name 0) (.call 1 (.v (.slot 0) (.v (.slot 3) (.v (.ix (.slot 2) (.lit (.int 1))) (.v (.ix (.slot 2) (.lit (.int 2))) (.nil)))))))
  (.nil)) (.cons (.asg (.name 0) (.call 1 (.v (.call 1 (.v (.slot 0) (.v (.slot 3) (.v (.f1 .len (.slot 3)) (.v (.lit (.bool false)) (.nil)))))) (.v (.call 2 (.v (.ix (.slot 2) (.lit (.int 1))) (.nil))) (.v (.ix (.slot 2) (.lit (.int 2))) (.v (.ix (.slot 2) (.lit (.int 3))) (.nil)))))))
  (.nil)))
  (.nil))))
  (.cons (.ret (.slot 0))
  (.nil)))
def t_law_after : Stc := ⟨["_law_thing", "_law_events", "_law_event", "_law_mends"], [("_law_mending", 1), ("_law_run", 4), ("_law_steps", 1)], [], []⟩
abbrev s_law_right : Stmt := topS 64
def b_law_right : Bk := (.cons (.asg (.name 1) (.call 0 (.m 0 (.v (.ite (.cmp .eq (.call 1 (.m 0 (.v (.lit (.int 3)) (.nil)))) (.lit (.int 0))) (.lit (.int 9)) (.lit (.int 3))) (.nil)))))
  (.cons (.par [.name 4, .name 5] [(.f1 .repr (.slot 1)), (.call 2 (.m 0 (.v (.f1 .len (.slot 1)) (.nil))))])
  (.cons (.par [.name 6, .name 7] [(.call 3 (.v (.slot 1) (.nil))), (.call 4 (.v (.slot 1) (.v (.slot 5) (.nil))))])
  (.cons (.ife (.cmp .ne (.f1 .repr (.lst (.cons (.slot 7) (.cons (.callK 4 (.nil) [1, 0] (.cons (.slot 5) (.cons (.slot 1) (.nil)))) (.nil))))) (.f1 .repr (.bin .mul (.lst (.cons (.call 5 (.v (.slot 1) (.v (.slot 5) (.nil)))) (.nil))) (.lit (.int 2))))) (.cons (.ret (.lit (.bool false)))
  (.nil)) (.nil))
  (.cons (.asg (.name 2) (.call 6 (.v (.slot 6) (.v (.slot 5) (.nil)))))
  (.cons (.asg (.name 3) (.lst (.cons (.call 8 (.v (.slot 7) (.nil))) (.cons (.call 7 (.v (.slot 6) (.v (.slot 5) (.nil)))) (.cons (.callK 7 (.nil) [1, 0] (.cons (.slot 5) (.cons (.slot 6) (.nil)))) (.nil))))))
  (.cons (.ret (.and (.cmp .eq (.f1 .repr (.slot 3)) (.f1 .repr (.bin .mul (.lst (.cons (.slot 2) (.nil))) (.lit (.int 3))))) (.and (.cmp .isN (.call 9 (.v (.slot 7) (.nil))) (.lit (.bool true))) (.cmp .eq (.f1 .repr (.slot 1)) (.slot 4)))))
  (.nil))))))))
def t_law_right : Stc := ⟨["_law_well_here", "_law_thing", "_law_due", "_law_heard", "_law_kept", "_law_events", "_law_laid_here", "_law_behind"], [("_law_sound", 2), ("_law_draw", 2), ("_law_history", 2), ("_law_laid", 1), ("after_history", 2), ("_law_after", 2), ("_law_counted", 2), ("told_contents", 2), ("contents", 1), ("is_sound", 1)], [], [(4, 0, ["history", "disk"], [1, 0]), (7, 0, ["history", "told"], [1, 0])]⟩
abbrev s_law_well : Stmt := topS 49
def b_law_well : Bk := (.cons (.asg (.name 2) (.bin .add (.lit (.int 55085)) (.bin .mul (.lit (.int 7433)) (.slot 1))))
  (.cons (.for_ (.name 3) (.seq (.sl (.slot 0) .none (.some (.lit (.int 8))))) (.cons (.asg (.name 2) (.bin .mod (.f1 .int (.bin .add (.bin .add (.bin .mul (.slot 2) (.lit (.int 61001))) (.bin .mul (.bin .mod (.f1 .int (.slot 3)) (.lit (.int 2147483237))) (.lit (.int 3)))) (.lit (.int 19)))) (.lit (.int 2147483249))))
  (.nil)))
  (.cons (.asg (.name 4) (.ite (.cmp .lt (.slot 1) (.f1 .len (.slot 0))) (.f1 .int (.ix (.slot 0) (.slot 1))) (.lit (.int 0))))
  (.cons (.asg (.name 2) (.bin .mod (.f1 .int (.bin .add (.bin .add (.bin .mul (.slot 2) (.lit (.int 37))) (.bin .mul (.bin .mod (.f1 .int (.slot 4)) (.lit (.int 2147483237))) (.lit (.int 27011)))) (.lit (.int 5)))) (.lit (.int 2147483249))))
  (.cons (.ret (.lst (.cons (.ite (.or (.cmp .lt (.slot 4) (.lit (.int 0))) (.cmp .ge (.slot 4) (.bin .pow (.lit (.int 10)) (.lit (.int 15))))) (.f1 .abs (.slot 4)) (.lit (.int 0))) (.cons (.slot 2) (.cons (.lit (.int 0)) (.nil))))))
  (.nil))))))
def t_law_well : Stc := ⟨["_law_script", "_law_turn", "_law_seed", "_law_cell", "_law_own"], [], [], []⟩
abbrev s_law : Stmt := topS 65
def b_law : Bk := (.cons (.ret (.f1 .all (.comp [("_law_turn", 1)] (.name 1) (.rng .none (.f2 .max (.lit (.int 2)) (.f2 .min (.f1 .len (.slot 0)) (.lit (.int 4))))) .none (.call 0 (.n (.call 1 (.v (.slot 0) (.v (.slot 1) (.nil)))) (.nil))))))
  (.nil))
def t_law : Stc := ⟨["_law_script", "_law_turn"], [("_law_right", 1), ("_law_well", 2)], [], []⟩
def p_law_draw : Phi := ⟨fun _ _ => none, fun _ => .none⟩
def m_law_draw : FnSem := runFn p_law_draw 4 b_law_draw
def p_law_unlike : Phi := ⟨fun k => match k with | 0 => m_law_draw | _ => fun _ => none, fun _ => .none⟩
def m_law_unlike : FnSem := runFn p_law_unlike 7 b_law_unlike
theorem q_law_unlike_0 : p_law_unlike.fn 0 = m_law_draw := rfl
def p_law_any_of : Phi := ⟨fun k => match k with | 0 => m_law_draw | _ => fun _ => none, fun _ => .none⟩
def m_law_any_of : FnSem := runFn p_law_any_of 2 b_law_any_of
theorem q_law_any_of_0 : p_law_any_of.fn 0 = m_law_draw := rfl
def p_law_numbers : Phi := ⟨fun k => match k with | 0 => m_law_any_of | 1 => m_law_draw | _ => fun _ => none, fun _ => .none⟩
def m_law_numbers : FnSem := runFn p_law_numbers 5 b_law_numbers
theorem q_law_numbers_0 : p_law_numbers.fn 0 = m_law_any_of := rfl
theorem q_law_numbers_1 : p_law_numbers.fn 1 = m_law_draw := rfl
def p_law_quiet : Phi := ⟨fun k => match k with | 0 => m_law_numbers | 1 => m_law_draw | _ => fun _ => none, fun _ => .none⟩
def m_law_quiet : FnSem := runFn p_law_quiet 4 b_law_quiet
theorem q_law_quiet_0 : p_law_quiet.fn 0 = m_law_numbers := rfl
theorem q_law_quiet_1 : p_law_quiet.fn 1 = m_law_draw := rfl
def p_law_sound : Phi := ⟨fun k => match k with | 0 => m_law_quiet | 1 => m_law_draw | 2 => m_law_unlike | 3 => m_law_numbers | _ => fun _ => none, fun _ => .none⟩
def m_law_sound : FnSem := runFn p_law_sound 7 b_law_sound
theorem q_law_sound_0 : p_law_sound.fn 0 = m_law_quiet := rfl
theorem q_law_sound_1 : p_law_sound.fn 1 = m_law_draw := rfl
theorem q_law_sound_2 : p_law_sound.fn 2 = m_law_unlike := rfl
theorem q_law_sound_3 : p_law_sound.fn 3 = m_law_numbers := rfl
def p_law_counted : Phi := ⟨fun _ _ => none, fun _ => .none⟩
def m_law_counted : FnSem := runFn p_law_counted 6 b_law_counted
def p_law_batch : Phi := ⟨fun k => match k with | 0 => m_law_unlike | 1 => m_law_draw | 2 => m_law_numbers | _ => fun _ => none, fun _ => .none⟩
def m_law_batch : FnSem := runFn p_law_batch 6 b_law_batch
theorem q_law_batch_0 : p_law_batch.fn 0 = m_law_unlike := rfl
theorem q_law_batch_1 : p_law_batch.fn 1 = m_law_draw := rfl
theorem q_law_batch_2 : p_law_batch.fn 2 = m_law_numbers := rfl
def p_law_history : Phi := ⟨fun k => match k with | 0 => m_law_draw | 1 => m_law_batch | _ => fun _ => none, fun _ => .none⟩
def m_law_history : FnSem := runFn p_law_history 7 b_law_history
theorem q_law_history_0 : p_law_history.fn 0 = m_law_draw := rfl
theorem q_law_history_1 : p_law_history.fn 1 = m_law_batch := rfl
def p_law_laid : Phi := ⟨fun _ _ => none, fun _ => .none⟩
def m_law_laid : FnSem := runFn p_law_laid 3 b_law_laid
def p_told_slots : Phi := ⟨fun _ _ => none, fun _ => .none⟩
def m_told_slots : FnSem := runFn p_told_slots 1 b_told_slots
def p_is_whole : Phi := ⟨fun _ _ => none, fun _ => .none⟩
def m_is_whole : FnSem := runFn p_is_whole 1 b_is_whole
def p_is_between : Phi := ⟨fun k => match k with | 0 => m_is_whole | _ => fun _ => none, fun _ => .none⟩
def m_is_between : FnSem := runFn p_is_between 3 b_is_between
theorem q_is_between_0 : p_is_between.fn 0 = m_is_whole := rfl
def p_are_named : Phi := ⟨fun k => match k with | 0 => m_is_between | _ => fun _ => none, fun j => match j with | 0 => .int 9 | _ => .none⟩
def m_are_named : FnSem := runFn p_are_named 3 b_are_named
theorem q_are_named_0 : p_are_named.fn 0 = m_is_between := rfl
def p_are_numbers : Phi := ⟨fun k => match k with | 0 => m_is_between | 1 => m_is_whole | _ => fun _ => none, fun _ => .none⟩
def m_are_numbers : FnSem := runFn p_are_numbers 4 b_are_numbers
theorem q_are_numbers_0 : p_are_numbers.fn 0 = m_is_between := rfl
theorem q_are_numbers_1 : p_are_numbers.fn 1 = m_is_whole := rfl
def p_is_block_by : Phi := ⟨fun k => match k with | 0 => m_are_numbers | _ => fun _ => none, fun j => match j with | 0 => .int 90 | _ => .none⟩
def m_is_block_by : FnSem := runFn p_is_block_by 1 b_is_block_by
theorem q_is_block_by_0 : p_is_block_by.fn 0 = m_are_numbers := rfl
def p_is_disk_by : Phi := ⟨fun k => match k with | 0 => m_is_between | 1 => m_is_block_by | _ => fun _ => none, fun j => match j with | 0 => .int 11 | 1 => .int 70 | _ => .none⟩
def m_is_disk_by : FnSem := runFn p_is_disk_by 2 b_is_disk_by
theorem q_is_disk_by_0 : p_is_disk_by.fn 0 = m_is_between := rfl
theorem q_is_disk_by_1 : p_is_disk_by.fn 1 = m_is_block_by := rfl
def p_is_head : Phi := ⟨fun k => match k with | 0 => m_is_between | _ => fun _ => none, fun j => match j with | 0 => .int 8 | _ => .none⟩
def m_is_head : FnSem := runFn p_is_head 1 b_is_head
theorem q_is_head_0 : p_is_head.fn 0 = m_is_between := rfl
def p_is_sound_by : Phi := ⟨fun k => match k with | 0 => m_is_head | 1 => m_is_disk_by | 2 => m_told_slots | 3 => m_are_named | _ => fun _ => none, fun j => match j with | 0 => .int 9 | _ => .none⟩
def m_is_sound_by : FnSem := runFn p_is_sound_by 5 b_is_sound_by
theorem q_is_sound_by_0 : p_is_sound_by.fn 0 = m_is_head := rfl
theorem q_is_sound_by_1 : p_is_sound_by.fn 1 = m_is_disk_by := rfl
theorem q_is_sound_by_2 : p_is_sound_by.fn 2 = m_told_slots := rfl
theorem q_is_sound_by_3 : p_is_sound_by.fn 3 = m_are_named := rfl
def p_check_sound : Phi := ⟨fun k => match k with | 0 => m_is_sound_by | _ => fun _ => none, fun _ => .none⟩
def m_check_sound : FnSem := runFn p_check_sound 1 b_check_sound
theorem q_check_sound_0 : p_check_sound.fn 0 = m_is_sound_by := rfl
def p_is_batched : Phi := ⟨fun k => match k with | 0 => m_are_numbers | _ => fun _ => none, fun j => match j with | 0 => .int 80 | _ => .none⟩
def m_is_batched : FnSem := runFn p_is_batched 1 b_is_batched
theorem q_is_batched_0 : p_is_batched.fn 0 = m_are_numbers := rfl
def p_is_batch_by : Phi := ⟨fun k => match k with | 0 => m_is_between | 1 => m_is_batched | 2 => m_are_named | _ => fun _ => none, fun j => match j with | 0 => .int 8 | 1 => .int 9 | _ => .none⟩
def m_is_batch_by : FnSem := runFn p_is_batch_by 3 b_is_batch_by
theorem q_is_batch_by_0 : p_is_batch_by.fn 0 = m_is_between := rfl
theorem q_is_batch_by_1 : p_is_batch_by.fn 1 = m_is_batched := rfl
theorem q_is_batch_by_2 : p_is_batch_by.fn 2 = m_are_named := rfl
def p_is_cut : Phi := ⟨fun k => match k with | 0 => m_is_whole | _ => fun _ => none, fun _ => .none⟩
def m_is_cut : FnSem := runFn p_is_cut 2 b_is_cut
theorem q_is_cut_0 : p_is_cut.fn 0 = m_is_whole := rfl
def p_is_disk_event : Phi := ⟨fun k => match k with | 0 => m_is_cut | 1 => m_is_batch_by | _ => fun _ => none, fun _ => .none⟩
def m_is_disk_event : FnSem := runFn p_is_disk_event 2 b_is_disk_event
theorem q_is_disk_event_0 : p_is_disk_event.fn 0 = m_is_cut := rfl
theorem q_is_disk_event_1 : p_is_disk_event.fn 1 = m_is_batch_by := rfl
def p_is_history_by : Phi := ⟨fun k => match k with | 0 => m_is_disk_event | _ => fun _ => none, fun j => match j with | 0 => .int 40 | _ => .none⟩
def m_is_history_by : FnSem := runFn p_is_history_by 3 b_is_history_by
theorem q_is_history_by_0 : p_is_history_by.fn 0 = m_is_disk_event := rfl
def p_check_history : Phi := ⟨fun k => match k with | 0 => m_is_history_by | _ => fun _ => none, fun _ => .none⟩
def m_check_history : FnSem := runFn p_check_history 2 b_check_history
theorem q_check_history_0 : p_check_history.fn 0 = m_is_history_by := rfl
def p_run_by : Phi := ⟨fun _ _ => none, fun _ => .none⟩
def m_run_by : FnSem := runFn p_run_by 7 b_run_by
def p_disk_mending_by : Phi := ⟨fun k => match k with | 0 => m_told_slots | _ => fun _ => none, fun _ => .none⟩
def m_disk_mending_by : FnSem := runFn p_disk_mending_by 2 b_disk_mending_by
theorem q_disk_mending_by_0 : p_disk_mending_by.fn 0 = m_told_slots := rfl
def p_mended_disk_by : Phi := ⟨fun k => match k with | 0 => m_disk_mending_by | 1 => m_run_by | _ => fun _ => none, fun _ => .none⟩
def m_mended_disk_by : FnSem := runFn p_mended_disk_by 2 b_mended_disk_by
theorem q_mended_disk_by_0 : p_mended_disk_by.fn 0 = m_disk_mending_by := rfl
theorem q_mended_disk_by_1 : p_mended_disk_by.fn 1 = m_run_by := rfl
def p_steps_by : Phi := ⟨fun _ _ => none, fun _ => .none⟩
def m_steps_by : FnSem := runFn p_steps_by 5 b_steps_by
def p_after_disk_event : Phi := ⟨fun k => match k with | 0 => m_run_by | 1 => m_disk_mending_by | 2 => m_mended_disk_by | 3 => m_steps_by | _ => fun _ => none, fun _ => .none⟩
def m_after_disk_event : FnSem := runFn p_after_disk_event 2 b_after_disk_event
theorem q_after_disk_event_0 : p_after_disk_event.fn 0 = m_run_by := rfl
theorem q_after_disk_event_1 : p_after_disk_event.fn 1 = m_disk_mending_by := rfl
theorem q_after_disk_event_2 : p_after_disk_event.fn 2 = m_mended_disk_by := rfl
theorem q_after_disk_event_3 : p_after_disk_event.fn 3 = m_steps_by := rfl
def p_after_history_by : Phi := ⟨fun k => match k with | 0 => m_after_disk_event | _ => fun _ => none, fun _ => .none⟩
def m_after_history_by : FnSem := runFn p_after_history_by 4 b_after_history_by
theorem q_after_history_by_0 : p_after_history_by.fn 0 = m_after_disk_event := rfl
def p_after_history : Phi := ⟨fun k => match k with | 0 => m_check_sound | 1 => m_check_history | 2 => m_after_history_by | _ => fun _ => none, fun _ => .none⟩
def m_after_history : FnSem := runFn p_after_history 2 b_after_history
theorem q_after_history_0 : p_after_history.fn 0 = m_check_sound := rfl
theorem q_after_history_1 : p_after_history.fn 1 = m_check_history := rfl
theorem q_after_history_2 : p_after_history.fn 2 = m_after_history_by := rfl
def p_contents_by : Phi := ⟨fun k => match k with | 0 => m_told_slots | _ => fun _ => none, fun j => match j with | 0 => .int 9 | _ => .none⟩
def m_contents_by : FnSem := runFn p_contents_by 3 b_contents_by
theorem q_contents_by_0 : p_contents_by.fn 0 = m_told_slots := rfl
def p_contents : Phi := ⟨fun k => match k with | 0 => m_check_sound | 1 => m_contents_by | _ => fun _ => none, fun _ => .none⟩
def m_contents : FnSem := runFn p_contents 1 b_contents
theorem q_contents_0 : p_contents.fn 0 = m_check_sound := rfl
theorem q_contents_1 : p_contents.fn 1 = m_contents_by := rfl
def p_check_contents : Phi := ⟨fun k => match k with | 0 => m_is_between | 1 => m_are_numbers | _ => fun _ => none, fun j => match j with | 0 => .int 60 | 1 => .int 90 | _ => .none⟩
def m_check_contents : FnSem := runFn p_check_contents 2 b_check_contents
theorem q_check_contents_0 : p_check_contents.fn 0 = m_is_between := rfl
theorem q_check_contents_1 : p_check_contents.fn 1 = m_are_numbers := rfl
def p_told_contents_by : Phi := ⟨fun _ _ => none, fun j => match j with | 0 => .int 9 | _ => .none⟩
def m_told_contents_by : FnSem := runFn p_told_contents_by 6 b_told_contents_by
def p_told_contents : Phi := ⟨fun k => match k with | 0 => m_check_contents | 1 => m_check_history | 2 => m_told_contents_by | _ => fun _ => none, fun j => match j with | 0 => .int 9 | _ => .none⟩
def m_told_contents : FnSem := runFn p_told_contents 2 b_told_contents
theorem q_told_contents_0 : p_told_contents.fn 0 = m_check_contents := rfl
theorem q_told_contents_1 : p_told_contents.fn 1 = m_check_history := rfl
theorem q_told_contents_2 : p_told_contents.fn 2 = m_told_contents_by := rfl
def p_is_sound : Phi := ⟨fun k => match k with | 0 => m_is_sound_by | _ => fun _ => none, fun _ => .none⟩
def m_is_sound : FnSem := runFn p_is_sound 1 b_is_sound
theorem q_is_sound_0 : p_is_sound.fn 0 = m_is_sound_by := rfl
def p_law_mending : Phi := ⟨fun _ _ => none, fun _ => .none⟩
def m_law_mending : FnSem := runFn p_law_mending 2 b_law_mending
def p_law_run : Phi := ⟨fun _ _ => none, fun _ => .none⟩
def m_law_run : FnSem := runFn p_law_run 8 b_law_run
def p_law_steps : Phi := ⟨fun _ _ => none, fun _ => .none⟩
def m_law_steps : FnSem := runFn p_law_steps 4 b_law_steps
def p_law_after : Phi := ⟨fun k => match k with | 0 => m_law_mending | 1 => m_law_run | 2 => m_law_steps | _ => fun _ => none, fun _ => .none⟩
def m_law_after : FnSem := runFn p_law_after 4 b_law_after
theorem q_law_after_0 : p_law_after.fn 0 = m_law_mending := rfl
theorem q_law_after_1 : p_law_after.fn 1 = m_law_run := rfl
theorem q_law_after_2 : p_law_after.fn 2 = m_law_steps := rfl
def p_law_right : Phi := ⟨fun k => match k with | 0 => m_law_sound | 1 => m_law_draw | 2 => m_law_history | 3 => m_law_laid | 4 => m_after_history | 5 => m_law_after | 6 => m_law_counted | 7 => m_told_contents | 8 => m_contents | 9 => m_is_sound | _ => fun _ => none, fun _ => .none⟩
def m_law_right : FnSem := runFn p_law_right 8 b_law_right
theorem q_law_right_0 : p_law_right.fn 0 = m_law_sound := rfl
theorem q_law_right_1 : p_law_right.fn 1 = m_law_draw := rfl
theorem q_law_right_2 : p_law_right.fn 2 = m_law_history := rfl
theorem q_law_right_3 : p_law_right.fn 3 = m_law_laid := rfl
theorem q_law_right_4 : p_law_right.fn 4 = m_after_history := rfl
theorem q_law_right_5 : p_law_right.fn 5 = m_law_after := rfl
theorem q_law_right_6 : p_law_right.fn 6 = m_law_counted := rfl
theorem q_law_right_7 : p_law_right.fn 7 = m_told_contents := rfl
theorem q_law_right_8 : p_law_right.fn 8 = m_contents := rfl
theorem q_law_right_9 : p_law_right.fn 9 = m_is_sound := rfl
def p_law_well : Phi := ⟨fun _ _ => none, fun _ => .none⟩
def m_law_well : FnSem := runFn p_law_well 5 b_law_well
def p_law : Phi := ⟨fun k => match k with | 0 => m_law_right | 1 => m_law_well | _ => fun _ => none, fun _ => .none⟩
def m_law : FnSem := runFn p_law 2 b_law
theorem q_law_0 : p_law.fn 0 = m_law_right := rfl
theorem q_law_1 : p_law.fn 1 = m_law_well := rfl
/-! ### the checks -/
theorem c_law_draw : chkB t_law_draw b_law_draw (defBody s_law_draw) (defScope s_law_draw) (fun _ => true) = true := by decide +kernel
theorem f_law_draw : FnScope t_law_draw.N ["_law_well_here", "_law_limit"] (defScope s_law_draw) := ⟨rfl, rfl, rfl, by decide +kernel, rfl, by decide +kernel, by decide +kernel⟩
theorem c_law_unlike : chkB t_law_unlike b_law_unlike (defBody s_law_unlike) (defScope s_law_unlike) (fun _ => true) = true := by decide +kernel
theorem f_law_unlike : FnScope t_law_unlike.N ["_law_well_here", "_law_some", "_law_often"] (defScope s_law_unlike) := ⟨rfl, rfl, rfl, by decide +kernel, rfl, by decide +kernel, by decide +kernel⟩
theorem c_law_any_of : chkB t_law_any_of b_law_any_of (defBody s_law_any_of) (defScope s_law_any_of) (fun _ => true) = true := by decide +kernel
theorem f_law_any_of : FnScope t_law_any_of.N ["_law_well_here", "_law_some"] (defScope s_law_any_of) := ⟨rfl, rfl, rfl, by decide +kernel, rfl, by decide +kernel, by decide +kernel⟩
theorem c_law_numbers : chkB t_law_numbers b_law_numbers (defBody s_law_numbers) (defScope s_law_numbers) (fun _ => true) = true := by decide +kernel
theorem f_law_numbers : FnScope t_law_numbers.N ["_law_well_here", "_law_longest"] (defScope s_law_numbers) := ⟨rfl, rfl, rfl, by decide +kernel, rfl, by decide +kernel, by decide +kernel⟩
theorem c_law_quiet : chkB t_law_quiet b_law_quiet (defBody s_law_quiet) (defScope s_law_quiet) (fun _ => true) = true := by decide +kernel
theorem f_law_quiet : FnScope t_law_quiet.N ["_law_well_here", "_law_most"] (defScope s_law_quiet) := ⟨rfl, rfl, rfl, by decide +kernel, rfl, by decide +kernel, by decide +kernel⟩
theorem c_law_sound : chkB t_law_sound b_law_sound (defBody s_law_sound) (defScope s_law_sound) (fun _ => true) = true := by decide +kernel
theorem f_law_sound : FnScope t_law_sound.N ["_law_well_here", "_law_most"] (defScope s_law_sound) := ⟨rfl, rfl, rfl, by decide +kernel, rfl, by decide +kernel, by decide +kernel⟩
theorem c_law_counted : chkB t_law_counted b_law_counted (defBody s_law_counted) (defScope s_law_counted) (fun _ => true) = true := by decide +kernel
theorem f_law_counted : FnScope t_law_counted.N ["_law_laid_here", "_law_events"] (defScope s_law_counted) := ⟨rfl, rfl, rfl, by decide +kernel, rfl, by decide +kernel, by decide +kernel⟩
theorem c_law_batch : chkB t_law_batch b_law_batch (defBody s_law_batch) (defScope s_law_batch) (fun _ => true) = true := by decide +kernel
theorem f_law_batch : FnScope t_law_batch.N ["_law_well_here", "_law_often", "_law_most"] (defScope s_law_batch) := ⟨rfl, rfl, rfl, by decide +kernel, rfl, by decide +kernel, by decide +kernel⟩
theorem c_law_history : chkB t_law_history b_law_history (defBody s_law_history) (defScope s_law_history) (fun _ => true) = true := by decide +kernel
theorem f_law_history : FnScope t_law_history.N ["_law_well_here", "_law_often"] (defScope s_law_history) := ⟨rfl, rfl, rfl, by decide +kernel, rfl, by decide +kernel, by decide +kernel⟩
theorem c_law_laid : chkB t_law_laid b_law_laid (defBody s_law_laid) (defScope s_law_laid) (fun _ => true) = true := by decide +kernel
theorem f_law_laid : FnScope t_law_laid.N ["_law_thing"] (defScope s_law_laid) := ⟨rfl, rfl, rfl, by decide +kernel, rfl, by decide +kernel, by decide +kernel⟩
theorem c_told_slots : chkB t_told_slots b_told_slots (defBody s_told_slots) (defScope s_told_slots) (fun _ => true) = true := by decide +kernel
theorem f_told_slots : FnScope t_told_slots.N ["disk"] (defScope s_told_slots) := ⟨rfl, rfl, rfl, by decide +kernel, rfl, by decide +kernel, by decide +kernel⟩
theorem c_is_whole : chkB t_is_whole b_is_whole (defBody s_is_whole) (defScope s_is_whole) (fun _ => true) = true := by decide +kernel
theorem f_is_whole : FnScope t_is_whole.N ["value"] (defScope s_is_whole) := ⟨rfl, rfl, rfl, by decide +kernel, rfl, by decide +kernel, by decide +kernel⟩
theorem c_is_between : chkB t_is_between b_is_between (defBody s_is_between) (defScope s_is_between) (fun _ => true) = true := by decide +kernel
theorem f_is_between : FnScope t_is_between.N ["value", "low", "high"] (defScope s_is_between) := ⟨rfl, rfl, rfl, by decide +kernel, rfl, by decide +kernel, by decide +kernel⟩
theorem c_are_named : chkB t_are_named b_are_named (defBody s_are_named) (defScope s_are_named) (fun _ => true) = true := by decide +kernel
theorem f_are_named : FnScope t_are_named.N ["places", "many"] (defScope s_are_named) := ⟨rfl, rfl, rfl, by decide +kernel, rfl, by decide +kernel, by decide +kernel⟩
theorem c_are_numbers : chkB t_are_numbers b_are_numbers (defBody s_are_numbers) (defScope s_are_numbers) (fun _ => true) = true := by decide +kernel
theorem f_are_numbers : FnScope t_are_numbers.N ["value", "least", "most"] (defScope s_are_numbers) := ⟨rfl, rfl, rfl, by decide +kernel, rfl, by decide +kernel, by decide +kernel⟩
theorem c_is_block_by : chkB t_is_block_by b_is_block_by (defBody s_is_block_by) (defScope s_is_block_by) (fun _ => true) = true := by decide +kernel
theorem f_is_block_by : FnScope t_is_block_by.N ["value"] (defScope s_is_block_by) := ⟨rfl, rfl, rfl, by decide +kernel, rfl, by decide +kernel, by decide +kernel⟩
theorem c_is_disk_by : chkB t_is_disk_by b_is_disk_by (defBody s_is_disk_by) (defScope s_is_disk_by) (fun _ => true) = true := by decide +kernel
theorem f_is_disk_by : FnScope t_is_disk_by.N ["value"] (defScope s_is_disk_by) := ⟨rfl, rfl, rfl, by decide +kernel, rfl, by decide +kernel, by decide +kernel⟩
theorem c_is_head : chkB t_is_head b_is_head (defBody s_is_head) (defScope s_is_head) (fun _ => true) = true := by decide +kernel
theorem f_is_head : FnScope t_is_head.N ["value"] (defScope s_is_head) := ⟨rfl, rfl, rfl, by decide +kernel, rfl, by decide +kernel, by decide +kernel⟩
theorem c_is_sound_by : chkB t_is_sound_by b_is_sound_by (defBody s_is_sound_by) (defScope s_is_sound_by) (fun _ => true) = true := by decide +kernel
theorem f_is_sound_by : FnScope t_is_sound_by.N ["value"] (defScope s_is_sound_by) := ⟨rfl, rfl, rfl, by decide +kernel, rfl, by decide +kernel, by decide +kernel⟩
theorem c_check_sound : chkB t_check_sound b_check_sound (defBody s_check_sound) (defScope s_check_sound) (fun _ => true) = true := by decide +kernel
theorem f_check_sound : FnScope t_check_sound.N ["value"] (defScope s_check_sound) := ⟨rfl, rfl, rfl, by decide +kernel, rfl, by decide +kernel, by decide +kernel⟩
theorem c_is_batched : chkB t_is_batched b_is_batched (defBody s_is_batched) (defScope s_is_batched) (fun _ => true) = true := by decide +kernel
theorem f_is_batched : FnScope t_is_batched.N ["value"] (defScope s_is_batched) := ⟨rfl, rfl, rfl, by decide +kernel, rfl, by decide +kernel, by decide +kernel⟩
theorem c_is_batch_by : chkB t_is_batch_by b_is_batch_by (defBody s_is_batch_by) (defScope s_is_batch_by) (fun _ => true) = true := by decide +kernel
theorem f_is_batch_by : FnScope t_is_batch_by.N ["value", "many"] (defScope s_is_batch_by) := ⟨rfl, rfl, rfl, by decide +kernel, rfl, by decide +kernel, by decide +kernel⟩
theorem c_is_cut : chkB t_is_cut b_is_cut (defBody s_is_cut) (defScope s_is_cut) (fun _ => true) = true := by decide +kernel
theorem f_is_cut : FnScope t_is_cut.N ["count", "torn"] (defScope s_is_cut) := ⟨rfl, rfl, rfl, by decide +kernel, rfl, by decide +kernel, by decide +kernel⟩
theorem c_is_disk_event : chkB t_is_disk_event b_is_disk_event (defBody s_is_disk_event) (defScope s_is_disk_event) (fun _ => true) = true := by decide +kernel
theorem f_is_disk_event : FnScope t_is_disk_event.N ["value", "many"] (defScope s_is_disk_event) := ⟨rfl, rfl, rfl, by decide +kernel, rfl, by decide +kernel, by decide +kernel⟩
theorem c_is_history_by : chkB t_is_history_by b_is_history_by (defBody s_is_history_by) (defScope s_is_history_by) (fun _ => true) = true := by decide +kernel
theorem f_is_history_by : FnScope t_is_history_by.N ["value", "many"] (defScope s_is_history_by) := ⟨rfl, rfl, rfl, by decide +kernel, rfl, by decide +kernel, by decide +kernel⟩
theorem c_check_history : chkB t_check_history b_check_history (defBody s_check_history) (defScope s_check_history) (fun _ => true) = true := by decide +kernel
theorem f_check_history : FnScope t_check_history.N ["value", "many"] (defScope s_check_history) := ⟨rfl, rfl, rfl, by decide +kernel, rfl, by decide +kernel, by decide +kernel⟩
theorem c_run_by : chkB t_run_by b_run_by (defBody s_run_by) (defScope s_run_by) (fun _ => true) = true := by decide +kernel
theorem f_run_by : FnScope t_run_by.N ["disk", "writes", "count", "torn"] (defScope s_run_by) := ⟨rfl, rfl, rfl, by decide +kernel, rfl, by decide +kernel, by decide +kernel⟩
theorem c_disk_mending_by : chkB t_disk_mending_by b_disk_mending_by (defBody s_disk_mending_by) (defScope s_disk_mending_by) (fun _ => true) = true := by decide +kernel
theorem f_disk_mending_by : FnScope t_disk_mending_by.N ["disk"] (defScope s_disk_mending_by) := ⟨rfl, rfl, rfl, by decide +kernel, rfl, by decide +kernel, by decide +kernel⟩
theorem c_mended_disk_by : chkB t_mended_disk_by b_mended_disk_by (defBody s_mended_disk_by) (defScope s_mended_disk_by) (fun _ => true) = true := by decide +kernel
theorem f_mended_disk_by : FnScope t_mended_disk_by.N ["disk"] (defScope s_mended_disk_by) := ⟨rfl, rfl, rfl, by decide +kernel, rfl, by decide +kernel, by decide +kernel⟩
theorem c_steps_by : chkB t_steps_by b_steps_by (defBody s_steps_by) (defScope s_steps_by) (fun _ => true) = true := by decide +kernel
theorem f_steps_by : FnScope t_steps_by.N ["batch"] (defScope s_steps_by) := ⟨rfl, rfl, rfl, by decide +kernel, rfl, by decide +kernel, by decide +kernel⟩
theorem c_after_disk_event : chkB t_after_disk_event b_after_disk_event (defBody s_after_disk_event) (defScope s_after_disk_event) (fun _ => true) = true := by decide +kernel
theorem f_after_disk_event : FnScope t_after_disk_event.N ["disk", "event"] (defScope s_after_disk_event) := ⟨rfl, rfl, rfl, by decide +kernel, rfl, by decide +kernel, by decide +kernel⟩
theorem c_after_history_by : chkB t_after_history_by b_after_history_by (defBody s_after_history_by) (defScope s_after_history_by) (fun _ => true) = true := by decide +kernel
theorem f_after_history_by : FnScope t_after_history_by.N ["disk", "history"] (defScope s_after_history_by) := ⟨rfl, rfl, rfl, by decide +kernel, rfl, by decide +kernel, by decide +kernel⟩
theorem c_after_history : chkB t_after_history b_after_history (defBody s_after_history) (defScope s_after_history) (fun _ => true) = true := by decide +kernel
theorem f_after_history : FnScope t_after_history.N ["disk", "history"] (defScope s_after_history) := ⟨rfl, rfl, rfl, by decide +kernel, rfl, by decide +kernel, by decide +kernel⟩
theorem c_contents_by : chkB t_contents_by b_contents_by (defBody s_contents_by) (defScope s_contents_by) (fun _ => true) = true := by decide +kernel
theorem f_contents_by : FnScope t_contents_by.N ["disk"] (defScope s_contents_by) := ⟨rfl, rfl, rfl, by decide +kernel, rfl, by decide +kernel, by decide +kernel⟩
theorem c_contents : chkB t_contents b_contents (defBody s_contents) (defScope s_contents) (fun _ => true) = true := by decide +kernel
theorem f_contents : FnScope t_contents.N ["disk"] (defScope s_contents) := ⟨rfl, rfl, rfl, by decide +kernel, rfl, by decide +kernel, by decide +kernel⟩
theorem c_check_contents : chkB t_check_contents b_check_contents (defBody s_check_contents) (defScope s_check_contents) (fun _ => true) = true := by decide +kernel
theorem f_check_contents : FnScope t_check_contents.N ["value"] (defScope s_check_contents) := ⟨rfl, rfl, rfl, by decide +kernel, rfl, by decide +kernel, by decide +kernel⟩
theorem c_told_contents_by : chkB t_told_contents_by b_told_contents_by (defBody s_told_contents_by) (defScope s_told_contents_by) (fun _ => true) = true := by decide +kernel
theorem f_told_contents_by : FnScope t_told_contents_by.N ["told", "history"] (defScope s_told_contents_by) := ⟨rfl, rfl, rfl, by decide +kernel, rfl, by decide +kernel, by decide +kernel⟩
theorem c_told_contents : chkB t_told_contents b_told_contents (defBody s_told_contents) (defScope s_told_contents) (fun _ => true) = true := by decide +kernel
theorem f_told_contents : FnScope t_told_contents.N ["told", "history"] (defScope s_told_contents) := ⟨rfl, rfl, rfl, by decide +kernel, rfl, by decide +kernel, by decide +kernel⟩
theorem c_is_sound : chkB t_is_sound b_is_sound (defBody s_is_sound) (defScope s_is_sound) (fun _ => true) = true := by decide +kernel
theorem f_is_sound : FnScope t_is_sound.N ["value"] (defScope s_is_sound) := ⟨rfl, rfl, rfl, by decide +kernel, rfl, by decide +kernel, by decide +kernel⟩
theorem c_law_mending : chkB t_law_mending b_law_mending (defBody s_law_mending) (defScope s_law_mending) (fun _ => true) = true := by decide +kernel
theorem f_law_mending : FnScope t_law_mending.N ["_law_thing"] (defScope s_law_mending) := ⟨rfl, rfl, rfl, by decide +kernel, rfl, by decide +kernel, by decide +kernel⟩
theorem c_law_run : chkB t_law_run b_law_run (defBody s_law_run) (defScope s_law_run) (fun _ => true) = true := by decide +kernel
theorem f_law_run : FnScope t_law_run.N ["_law_thing", "_law_some", "_law_often", "_law_is_torn"] (defScope s_law_run) := ⟨rfl, rfl, rfl, by decide +kernel, rfl, by decide +kernel, by decide +kernel⟩
theorem c_law_steps : chkB t_law_steps b_law_steps (defBody s_law_steps) (defScope s_law_steps) (fun _ => true) = true := by decide +kernel
theorem f_law_steps : FnScope t_law_steps.N ["_law_some"] (defScope s_law_steps) := ⟨rfl, rfl, rfl, by decide +kernel, rfl, by decide +kernel, by decide +kernel⟩
theorem c_law_after : chkB t_law_after b_law_after (defBody s_law_after) (defScope s_law_after) (fun _ => true) = true := by decide +kernel
theorem f_law_after : FnScope t_law_after.N ["_law_thing", "_law_events"] (defScope s_law_after) := ⟨rfl, rfl, rfl, by decide +kernel, rfl, by decide +kernel, by decide +kernel⟩
theorem c_law_right : chkB t_law_right b_law_right (defBody s_law_right) (defScope s_law_right) (fun _ => true) = true := by decide +kernel
theorem f_law_right : FnScope t_law_right.N ["_law_well_here"] (defScope s_law_right) := ⟨rfl, rfl, rfl, by decide +kernel, rfl, by decide +kernel, by decide +kernel⟩
theorem c_law_well : chkB t_law_well b_law_well (defBody s_law_well) (defScope s_law_well) (fun _ => true) = true := by decide +kernel
theorem f_law_well : FnScope t_law_well.N ["_law_script", "_law_turn"] (defScope s_law_well) := ⟨rfl, rfl, rfl, by decide +kernel, rfl, by decide +kernel, by decide +kernel⟩
theorem c_law : chkB t_law b_law (defBody s_law) (defScope s_law) (fun _ => true) = true := by decide +kernel
theorem f_law : FnScope t_law.N ["_law_script"] (defScope s_law) := ⟨rfl, rfl, rfl, by decide +kernel, rfl, by decide +kernel, by decide +kernel⟩
/-! ### defs by defs -/
section
variable {P : Program} {wd : World} {K : PySem.W.Frag} {mg : Str → Option Value} {base : Heap}
theorem ok_law_draw {fa : Addr} {fd : FuncData} (F : Fun K "_law_draw" "_law_draw" s_law_draw fa fd) (bl : ∀ x ∈ bnames, mg x = none) : FnG P wd K mg base 1 fa fd ["_law_well_here", "_law_limit"] m_law_draw :=
  fn_mi F f_law_draw c_law_draw fun cdv Ar ou sh Hx room grd => cok_of rfl rfl (f_law_draw).nd room grd bl
    (fun k x n e => absurd e (by simp [t_law_draw]))
    (fun j x e => absurd e (by simp [t_law_draw]))
theorem ok_law_unlike {fa : Addr} {fd : FuncData} (F : Fun K "_law_unlike" "_law_unlike" s_law_unlike fa fd) (bl : ∀ x ∈ bnames, mg x = none) (h0 : CalG P wd K mg base 1 t_law_unlike.kp 0 "_law_draw" 2 m_law_draw) : FnG P wd K mg base 2 fa fd ["_law_well_here", "_law_some", "_law_often"] m_law_unlike :=
  fn_mi F f_law_unlike c_law_unlike fun cdv Ar ou sh Hx room grd => cok_of rfl rfl (f_law_unlike).nd room grd bl
    (fun k x n e => match k, e with | 0, e => cal_at e h0 | k + 1, e => absurd e (by simp [t_law_unlike]))
    (fun j x e => absurd e (by simp [t_law_unlike]))
theorem ok_law_any_of {fa : Addr} {fd : FuncData} (F : Fun K "_law_any_of" "_law_any_of" s_law_any_of fa fd) (bl : ∀ x ∈ bnames, mg x = none) (h0 : CalG P wd K mg base 1 t_law_any_of.kp 0 "_law_draw" 2 m_law_draw) : FnG P wd K mg base 2 fa fd ["_law_well_here", "_law_some"] m_law_any_of :=
  fn_mi F f_law_any_of c_law_any_of fun cdv Ar ou sh Hx room grd => cok_of rfl rfl (f_law_any_of).nd room grd bl
    (fun k x n e => match k, e with | 0, e => cal_at e h0 | k + 1, e => absurd e (by simp [t_law_any_of]))
    (fun j x e => absurd e (by simp [t_law_any_of]))
theorem ok_law_numbers {fa : Addr} {fd : FuncData} (F : Fun K "_law_numbers" "_law_numbers" s_law_numbers fa fd) (bl : ∀ x ∈ bnames, mg x = none) (h0 : CalG P wd K mg base 2 t_law_numbers.kp 0 "_law_any_of" 2 m_law_any_of) (h1 : CalG P wd K mg base 2 t_law_numbers.kp 1 "_law_draw" 2 m_law_draw) : FnG P wd K mg base 3 fa fd ["_law_well_here", "_law_longest"] m_law_numbers :=
  fn_mi F f_law_numbers c_law_numbers fun cdv Ar ou sh Hx room grd => cok_of rfl rfl (f_law_numbers).nd room grd bl
    (fun k x n e => match k, e with | 0, e => cal_at e h0 | 1, e => cal_at e h1 | k + 2, e => absurd e (by simp [t_law_numbers]))
    (fun j x e => absurd e (by simp [t_law_numbers]))
theorem ok_law_quiet {fa : Addr} {fd : FuncData} (F : Fun K "_law_quiet" "_law_quiet" s_law_quiet fa fd) (bl : ∀ x ∈ bnames, mg x = none) (h0 : CalG P wd K mg base 3 t_law_quiet.kp 0 "_law_numbers" 2 m_law_numbers) (h1 : CalG P wd K mg base 3 t_law_quiet.kp 1 "_law_draw" 2 m_law_draw) : FnG P wd K mg base 4 fa fd ["_law_well_here", "_law_most"] m_law_quiet :=
  fn_mi F f_law_quiet c_law_quiet fun cdv Ar ou sh Hx room grd => cok_of rfl rfl (f_law_quiet).nd room grd bl
    (fun k x n e => match k, e with | 0, e => cal_at e h0 | 1, e => cal_at e h1 | k + 2, e => absurd e (by simp [t_law_quiet]))
    (fun j x e => absurd e (by simp [t_law_quiet]))
theorem ok_law_sound {fa : Addr} {fd : FuncData} (F : Fun K "_law_sound" "_law_sound" s_law_sound fa fd) (bl : ∀ x ∈ bnames, mg x = none) (h0 : CalG P wd K mg base 4 t_law_sound.kp 0 "_law_quiet" 2 m_law_quiet) (h1 : CalG P wd K mg base 4 t_law_sound.kp 1 "_law_draw" 2 m_law_draw) (h2 : CalG P wd K mg base 4 t_law_sound.kp 2 "_law_unlike" 3 m_law_unlike) (h3 : CalG P wd K mg base 4 t_law_sound.kp 3 "_law_numbers" 2 m_law_numbers) : FnG P wd K mg base 5 fa fd ["_law_well_here", "_law_most"] m_law_sound :=
  fn_mi F f_law_sound c_law_sound fun cdv Ar ou sh Hx room grd => cok_of rfl rfl (f_law_sound).nd room grd bl
    (fun k x n e => match k, e with | 0, e => cal_at e h0 | 1, e => cal_at e h1 | 2, e => cal_at e h2 | 3, e => cal_at e h3 | k + 4, e => absurd e (by simp [t_law_sound]))
    (fun j x e => absurd e (by simp [t_law_sound]))
theorem ok_law_counted {fa : Addr} {fd : FuncData} (F : Fun K "_law_counted" "_law_counted" s_law_counted fa fd) (bl : ∀ x ∈ bnames, mg x = none) : FnG P wd K mg base 1 fa fd ["_law_laid_here", "_law_events"] m_law_counted :=
  fn_mi F f_law_counted c_law_counted fun cdv Ar ou sh Hx room grd => cok_of rfl rfl (f_law_counted).nd room grd bl
    (fun k x n e => absurd e (by simp [t_law_counted]))
    (fun j x e => absurd e (by simp [t_law_counted]))
theorem ok_law_batch {fa : Addr} {fd : FuncData} (F : Fun K "_law_batch" "_law_batch" s_law_batch fa fd) (bl : ∀ x ∈ bnames, mg x = none) (h0 : CalG P wd K mg base 3 t_law_batch.kp 0 "_law_unlike" 3 m_law_unlike) (h1 : CalG P wd K mg base 3 t_law_batch.kp 1 "_law_draw" 2 m_law_draw) (h2 : CalG P wd K mg base 3 t_law_batch.kp 2 "_law_numbers" 2 m_law_numbers) : FnG P wd K mg base 4 fa fd ["_law_well_here", "_law_often", "_law_most"] m_law_batch :=
  fn_mi F f_law_batch c_law_batch fun cdv Ar ou sh Hx room grd => cok_of rfl rfl (f_law_batch).nd room grd bl
    (fun k x n e => match k, e with | 0, e => cal_at e h0 | 1, e => cal_at e h1 | 2, e => cal_at e h2 | k + 3, e => absurd e (by simp [t_law_batch]))
    (fun j x e => absurd e (by simp [t_law_batch]))
theorem ok_law_history {fa : Addr} {fd : FuncData} (F : Fun K "_law_history" "_law_history" s_law_history fa fd) (bl : ∀ x ∈ bnames, mg x = none) (h0 : CalG P wd K mg base 4 t_law_history.kp 0 "_law_draw" 2 m_law_draw) (h1 : CalG P wd K mg base 4 t_law_history.kp 1 "_law_batch" 3 m_law_batch) : FnG P wd K mg base 5 fa fd ["_law_well_here", "_law_often"] m_law_history :=
  fn_mi F f_law_history c_law_history fun cdv Ar ou sh Hx room grd => cok_of rfl rfl (f_law_history).nd room grd bl
    (fun k x n e => match k, e with | 0, e => cal_at e h0 | 1, e => cal_at e h1 | k + 2, e => absurd e (by simp [t_law_history]))
    (fun j x e => absurd e (by simp [t_law_history]))
theorem ok_law_laid {fa : Addr} {fd : FuncData} (F : Fun K "_law_laid" "_law_laid" s_law_laid fa fd) (bl : ∀ x ∈ bnames, mg x = none) : FnG P wd K mg base 1 fa fd ["_law_thing"] m_law_laid :=
  fn_mi F f_law_laid c_law_laid fun cdv Ar ou sh Hx room grd => cok_of rfl rfl (f_law_laid).nd room grd bl
    (fun k x n e => absurd e (by simp [t_law_laid]))
    (fun j x e => absurd e (by simp [t_law_laid]))
theorem ok_told_slots {fa : Addr} {fd : FuncData} (F : Fun K "told_slots" "told_slots" s_told_slots fa fd) (bl : ∀ x ∈ bnames, mg x = none) : FnG P wd K mg base 1 fa fd ["disk"] m_told_slots :=
  fn_mi F f_told_slots c_told_slots fun cdv Ar ou sh Hx room grd => cok_of rfl rfl (f_told_slots).nd room grd bl
    (fun k x n e => absurd e (by simp [t_told_slots]))
    (fun j x e => absurd e (by simp [t_told_slots]))
theorem ok_is_whole {fa : Addr} {fd : FuncData} (F : Fun K "is_whole" "is_whole" s_is_whole fa fd) (bl : ∀ x ∈ bnames, mg x = none) : FnG P wd K mg base 1 fa fd ["value"] m_is_whole :=
  fn_mi F f_is_whole c_is_whole fun cdv Ar ou sh Hx room grd => cok_of rfl rfl (f_is_whole).nd room grd bl
    (fun k x n e => absurd e (by simp [t_is_whole]))
    (fun j x e => absurd e (by simp [t_is_whole]))
theorem ok_is_between {fa : Addr} {fd : FuncData} (F : Fun K "is_between" "is_between" s_is_between fa fd) (bl : ∀ x ∈ bnames, mg x = none) (h0 : CalG P wd K mg base 1 t_is_between.kp 0 "is_whole" 1 m_is_whole) : FnG P wd K mg base 2 fa fd ["value", "low", "high"] m_is_between :=
  fn_mi F f_is_between c_is_between fun cdv Ar ou sh Hx room grd => cok_of rfl rfl (f_is_between).nd room grd bl
    (fun k x n e => match k, e with | 0, e => cal_at e h0 | k + 1, e => absurd e (by simp [t_is_between]))
    (fun j x e => absurd e (by simp [t_is_between]))
theorem ok_are_named {fa : Addr} {fd : FuncData} (F : Fun K "are_named" "are_named" s_are_named fa fd) (bl : ∀ x ∈ bnames, mg x = none) (h0 : CalG P wd K mg base 2 t_are_named.kp 0 "is_between" 3 m_is_between) (g0 : GcG K mg "ROOT_PLACE" (.int 9)) : FnG P wd K mg base 3 fa fd ["places", "many"] m_are_named :=
  fn_mi F f_are_named c_are_named fun cdv Ar ou sh Hx room grd => cok_of rfl rfl (f_are_named).nd room grd bl
    (fun k x n e => match k, e with | 0, e => cal_at e h0 | k + 1, e => absurd e (by simp [t_are_named]))
    (fun j x e => match j, e with | 0, e => gc_at e g0 | j + 1, e => absurd e (by simp [t_are_named]))
theorem ok_are_numbers {fa : Addr} {fd : FuncData} (F : Fun K "are_numbers" "are_numbers" s_are_numbers fa fd) (bl : ∀ x ∈ bnames, mg x = none) (h0 : CalG P wd K mg base 2 t_are_numbers.kp 0 "is_between" 3 m_is_between) (h1 : CalG P wd K mg base 2 t_are_numbers.kp 1 "is_whole" 1 m_is_whole) : FnG P wd K mg base 3 fa fd ["value", "least", "most"] m_are_numbers :=
  fn_mi F f_are_numbers c_are_numbers fun cdv Ar ou sh Hx room grd => cok_of rfl rfl (f_are_numbers).nd room grd bl
    (fun k x n e => match k, e with | 0, e => cal_at e h0 | 1, e => cal_at e h1 | k + 2, e => absurd e (by simp [t_are_numbers]))
    (fun j x e => absurd e (by simp [t_are_numbers]))
theorem ok_is_block_by {fa : Addr} {fd : FuncData} (F : Fun K "is_block_by" "is_block_by" s_is_block_by fa fd) (bl : ∀ x ∈ bnames, mg x = none) (h0 : CalG P wd K mg base 3 t_is_block_by.kp 0 "are_numbers" 3 m_are_numbers) (g0 : GcG K mg "MOST_IN_BLOCK" (.int 90)) : FnG P wd K mg base 4 fa fd ["value"] m_is_block_by :=
  fn_mi F f_is_block_by c_is_block_by fun cdv Ar ou sh Hx room grd => cok_of rfl rfl (f_is_block_by).nd room grd bl
    (fun k x n e => match k, e with | 0, e => cal_at e h0 | k + 1, e => absurd e (by simp [t_is_block_by]))
    (fun j x e => match j, e with | 0, e => gc_at e g0 | j + 1, e => absurd e (by simp [t_is_block_by]))
theorem ok_is_disk_by {fa : Addr} {fd : FuncData} (F : Fun K "is_disk_by" "is_disk_by" s_is_disk_by fa fd) (bl : ∀ x ∈ bnames, mg x = none) (h0 : CalG P wd K mg base 4 t_is_disk_by.kp 0 "is_between" 3 m_is_between) (h1 : CalG P wd K mg base 4 t_is_disk_by.kp 1 "is_block_by" 1 m_is_block_by) (g0 : GcG K mg "LEAST_PLACES" (.int 11)) (g1 : GcG K mg "MOST_PLACES" (.int 70)) : FnG P wd K mg base 5 fa fd ["value"] m_is_disk_by :=
  fn_mi F f_is_disk_by c_is_disk_by fun cdv Ar ou sh Hx room grd => cok_of rfl rfl (f_is_disk_by).nd room grd bl
    (fun k x n e => match k, e with | 0, e => cal_at e h0 | 1, e => cal_at e h1 | k + 2, e => absurd e (by simp [t_is_disk_by]))
    (fun j x e => match j, e with | 0, e => gc_at e g0 | 1, e => gc_at e g1 | j + 2, e => absurd e (by simp [t_is_disk_by]))
theorem ok_is_head {fa : Addr} {fd : FuncData} (F : Fun K "is_head" "is_head" s_is_head fa fd) (bl : ∀ x ∈ bnames, mg x = none) (h0 : CalG P wd K mg base 2 t_is_head.kp 0 "is_between" 3 m_is_between) (g0 : GcG K mg "SLOTS" (.int 8)) : FnG P wd K mg base 3 fa fd ["value"] m_is_head :=
  fn_mi F f_is_head c_is_head fun cdv Ar ou sh Hx room grd => cok_of rfl rfl (f_is_head).nd room grd bl
    (fun k x n e => match k, e with | 0, e => cal_at e h0 | k + 1, e => absurd e (by simp [t_is_head]))
    (fun j x e => match j, e with | 0, e => gc_at e g0 | j + 1, e => absurd e (by simp [t_is_head]))
theorem ok_is_sound_by {fa : Addr} {fd : FuncData} (F : Fun K "is_sound_by" "is_sound_by" s_is_sound_by fa fd) (bl : ∀ x ∈ bnames, mg x = none) (h0 : CalG P wd K mg base 5 t_is_sound_by.kp 0 "is_head" 1 m_is_head) (h1 : CalG P wd K mg base 5 t_is_sound_by.kp 1 "is_disk_by" 1 m_is_disk_by) (h2 : CalG P wd K mg base 5 t_is_sound_by.kp 2 "told_slots" 1 m_told_slots) (h3 : CalG P wd K mg base 5 t_is_sound_by.kp 3 "are_named" 2 m_are_named) (g0 : GcG K mg "ROOT_PLACE" (.int 9)) : FnG P wd K mg base 6 fa fd ["value"] m_is_sound_by :=
  fn_mi F f_is_sound_by c_is_sound_by fun cdv Ar ou sh Hx room grd => cok_of rfl rfl (f_is_sound_by).nd room grd bl
    (fun k x n e => match k, e with | 0, e => cal_at e h0 | 1, e => cal_at e h1 | 2, e => cal_at e h2 | 3, e => cal_at e h3 | k + 4, e => absurd e (by simp [t_is_sound_by]))
    (fun j x e => match j, e with | 0, e => gc_at e g0 | j + 1, e => absurd e (by simp [t_is_sound_by]))
theorem ok_check_sound {fa : Addr} {fd : FuncData} (F : Fun K "check_sound" "check_sound" s_check_sound fa fd) (bl : ∀ x ∈ bnames, mg x = none) (h0 : CalG P wd K mg base 6 t_check_sound.kp 0 "is_sound_by" 1 m_is_sound_by) : FnG P wd K mg base 7 fa fd ["value"] m_check_sound :=
  fn_mi F f_check_sound c_check_sound fun cdv Ar ou sh Hx room grd => cok_of rfl rfl (f_check_sound).nd room grd bl
    (fun k x n e => match k, e with | 0, e => cal_at e h0 | k + 1, e => absurd e (by simp [t_check_sound]))
    (fun j x e => absurd e (by simp [t_check_sound]))
theorem ok_is_batched {fa : Addr} {fd : FuncData} (F : Fun K "is_batched" "is_batched" s_is_batched fa fd) (bl : ∀ x ∈ bnames, mg x = none) (h0 : CalG P wd K mg base 3 t_is_batched.kp 0 "are_numbers" 3 m_are_numbers) (g0 : GcG K mg "MOST_IN_BATCH" (.int 80)) : FnG P wd K mg base 4 fa fd ["value"] m_is_batched :=
  fn_mi F f_is_batched c_is_batched fun cdv Ar ou sh Hx room grd => cok_of rfl rfl (f_is_batched).nd room grd bl
    (fun k x n e => match k, e with | 0, e => cal_at e h0 | k + 1, e => absurd e (by simp [t_is_batched]))
    (fun j x e => match j, e with | 0, e => gc_at e g0 | j + 1, e => absurd e (by simp [t_is_batched]))
theorem ok_is_batch_by {fa : Addr} {fd : FuncData} (F : Fun K "is_batch_by" "is_batch_by" s_is_batch_by fa fd) (bl : ∀ x ∈ bnames, mg x = none) (h0 : CalG P wd K mg base 4 t_is_batch_by.kp 0 "is_between" 3 m_is_between) (h1 : CalG P wd K mg base 4 t_is_batch_by.kp 1 "is_batched" 1 m_is_batched) (h2 : CalG P wd K mg base 4 t_is_batch_by.kp 2 "are_named" 2 m_are_named) (g0 : GcG K mg "SLOTS" (.int 8)) (g1 : GcG K mg "ROOT_PLACE" (.int 9)) : FnG P wd K mg base 5 fa fd ["value", "many"] m_is_batch_by :=
  fn_mi F f_is_batch_by c_is_batch_by fun cdv Ar ou sh Hx room grd => cok_of rfl rfl (f_is_batch_by).nd room grd bl
    (fun k x n e => match k, e with | 0, e => cal_at e h0 | 1, e => cal_at e h1 | 2, e => cal_at e h2 | k + 3, e => absurd e (by simp [t_is_batch_by]))
    (fun j x e => match j, e with | 0, e => gc_at e g0 | 1, e => gc_at e g1 | j + 2, e => absurd e (by simp [t_is_batch_by]))
theorem ok_is_cut {fa : Addr} {fd : FuncData} (F : Fun K "is_cut" "is_cut" s_is_cut fa fd) (bl : ∀ x ∈ bnames, mg x = none) (h0 : CalG P wd K mg base 1 t_is_cut.kp 0 "is_whole" 1 m_is_whole) : FnG P wd K mg base 2 fa fd ["count", "torn"] m_is_cut :=
  fn_mi F f_is_cut c_is_cut fun cdv Ar ou sh Hx room grd => cok_of rfl rfl (f_is_cut).nd room grd bl
    (fun k x n e => match k, e with | 0, e => cal_at e h0 | k + 1, e => absurd e (by simp [t_is_cut]))
    (fun j x e => absurd e (by simp [t_is_cut]))
theorem ok_is_disk_event {fa : Addr} {fd : FuncData} (F : Fun K "is_disk_event" "is_disk_event" s_is_disk_event fa fd) (bl : ∀ x ∈ bnames, mg x = none) (h0 : CalG P wd K mg base 5 t_is_disk_event.kp 0 "is_cut" 2 m_is_cut) (h1 : CalG P wd K mg base 5 t_is_disk_event.kp 1 "is_batch_by" 2 m_is_batch_by) : FnG P wd K mg base 6 fa fd ["value", "many"] m_is_disk_event :=
  fn_mi F f_is_disk_event c_is_disk_event fun cdv Ar ou sh Hx room grd => cok_of rfl rfl (f_is_disk_event).nd room grd bl
    (fun k x n e => match k, e with | 0, e => cal_at e h0 | 1, e => cal_at e h1 | k + 2, e => absurd e (by simp [t_is_disk_event]))
    (fun j x e => absurd e (by simp [t_is_disk_event]))
theorem ok_is_history_by {fa : Addr} {fd : FuncData} (F : Fun K "is_history_by" "is_history_by" s_is_history_by fa fd) (bl : ∀ x ∈ bnames, mg x = none) (h0 : CalG P wd K mg base 6 t_is_history_by.kp 0 "is_disk_event" 2 m_is_disk_event) (g0 : GcG K mg "MOST_EVENTS" (.int 40)) : FnG P wd K mg base 7 fa fd ["value", "many"] m_is_history_by :=
  fn_mi F f_is_history_by c_is_history_by fun cdv Ar ou sh Hx room grd => cok_of rfl rfl (f_is_history_by).nd room grd bl
    (fun k x n e => match k, e with | 0, e => cal_at e h0 | k + 1, e => absurd e (by simp [t_is_history_by]))
    (fun j x e => match j, e with | 0, e => gc_at e g0 | j + 1, e => absurd e (by simp [t_is_history_by]))
theorem ok_check_history {fa : Addr} {fd : FuncData} (F : Fun K "check_history" "check_history" s_check_history fa fd) (bl : ∀ x ∈ bnames, mg x = none) (h0 : CalG P wd K mg base 7 t_check_history.kp 0 "is_history_by" 2 m_is_history_by) : FnG P wd K mg base 8 fa fd ["value", "many"] m_check_history :=
  fn_mi F f_check_history c_check_history fun cdv Ar ou sh Hx room grd => cok_of rfl rfl (f_check_history).nd room grd bl
    (fun k x n e => match k, e with | 0, e => cal_at e h0 | k + 1, e => absurd e (by simp [t_check_history]))
    (fun j x e => absurd e (by simp [t_check_history]))
theorem ok_run_by {fa : Addr} {fd : FuncData} (F : Fun K "run_by" "run_by" s_run_by fa fd) (bl : ∀ x ∈ bnames, mg x = none) : FnG P wd K mg base 1 fa fd ["disk", "writes", "count", "torn"] m_run_by :=
  fn_mi F f_run_by c_run_by fun cdv Ar ou sh Hx room grd => cok_of rfl rfl (f_run_by).nd room grd bl
    (fun k x n e => absurd e (by simp [t_run_by]))
    (fun j x e => absurd e (by simp [t_run_by]))
theorem ok_disk_mending_by {fa : Addr} {fd : FuncData} (F : Fun K "disk_mending_by" "disk_mending_by" s_disk_mending_by fa fd) (bl : ∀ x ∈ bnames, mg x = none) (h0 : CalG P wd K mg base 1 t_disk_mending_by.kp 0 "told_slots" 1 m_told_slots) : FnG P wd K mg base 2 fa fd ["disk"] m_disk_mending_by :=
  fn_mi F f_disk_mending_by c_disk_mending_by fun cdv Ar ou sh Hx room grd => cok_of rfl rfl (f_disk_mending_by).nd room grd bl
    (fun k x n e => match k, e with | 0, e => cal_at e h0 | k + 1, e => absurd e (by simp [t_disk_mending_by]))
    (fun j x e => absurd e (by simp [t_disk_mending_by]))
theorem ok_mended_disk_by {fa : Addr} {fd : FuncData} (F : Fun K "mended_disk_by" "mended_disk_by" s_mended_disk_by fa fd) (bl : ∀ x ∈ bnames, mg x = none) (h0 : CalG P wd K mg base 2 t_mended_disk_by.kp 0 "disk_mending_by" 1 m_disk_mending_by) (h1 : CalG P wd K mg base 2 t_mended_disk_by.kp 1 "run_by" 4 m_run_by) : FnG P wd K mg base 3 fa fd ["disk"] m_mended_disk_by :=
  fn_mi F f_mended_disk_by c_mended_disk_by fun cdv Ar ou sh Hx room grd => cok_of rfl rfl (f_mended_disk_by).nd room grd bl
    (fun k x n e => match k, e with | 0, e => cal_at e h0 | 1, e => cal_at e h1 | k + 2, e => absurd e (by simp [t_mended_disk_by]))
    (fun j x e => absurd e (by simp [t_mended_disk_by]))
theorem ok_steps_by {fa : Addr} {fd : FuncData} (F : Fun K "steps_by" "steps_by" s_steps_by fa fd) (bl : ∀ x ∈ bnames, mg x = none) : FnG P wd K mg base 1 fa fd ["batch"] m_steps_by :=
  fn_mi F f_steps_by c_steps_by fun cdv Ar ou sh Hx room grd => cok_of rfl rfl (f_steps_by).nd room grd bl
    (fun k x n e => absurd e (by simp [t_steps_by]))
    (fun j x e => absurd e (by simp [t_steps_by]))
theorem ok_after_disk_event {fa : Addr} {fd : FuncData} (F : Fun K "after_disk_event" "after_disk_event" s_after_disk_event fa fd) (bl : ∀ x ∈ bnames, mg x = none) (h0 : CalG P wd K mg base 3 t_after_disk_event.kp 0 "run_by" 4 m_run_by) (h1 : CalG P wd K mg base 3 t_after_disk_event.kp 1 "disk_mending_by" 1 m_disk_mending_by) (h2 : CalG P wd K mg base 3 t_after_disk_event.kp 2 "mended_disk_by" 1 m_mended_disk_by) (h3 : CalG P wd K mg base 3 t_after_disk_event.kp 3 "steps_by" 1 m_steps_by) : FnG P wd K mg base 4 fa fd ["disk", "event"] m_after_disk_event :=
  fn_mi F f_after_disk_event c_after_disk_event fun cdv Ar ou sh Hx room grd => cok_of rfl rfl (f_after_disk_event).nd room grd bl
    (fun k x n e => match k, e with | 0, e => cal_at e h0 | 1, e => cal_at e h1 | 2, e => cal_at e h2 | 3, e => cal_at e h3 | k + 4, e => absurd e (by simp [t_after_disk_event]))
    (fun j x e => absurd e (by simp [t_after_disk_event]))
theorem ok_after_history_by {fa : Addr} {fd : FuncData} (F : Fun K "after_history_by" "after_history_by" s_after_history_by fa fd) (bl : ∀ x ∈ bnames, mg x = none) (h0 : CalG P wd K mg base 4 t_after_history_by.kp 0 "after_disk_event" 2 m_after_disk_event) : FnG P wd K mg base 5 fa fd ["disk", "history"] m_after_history_by :=
  fn_mi F f_after_history_by c_after_history_by fun cdv Ar ou sh Hx room grd => cok_of rfl rfl (f_after_history_by).nd room grd bl
    (fun k x n e => match k, e with | 0, e => cal_at e h0 | k + 1, e => absurd e (by simp [t_after_history_by]))
    (fun j x e => absurd e (by simp [t_after_history_by]))
theorem ok_after_history {fa : Addr} {fd : FuncData} (F : Fun K "after_history" "after_history" s_after_history fa fd) (bl : ∀ x ∈ bnames, mg x = none) (h0 : CalG P wd K mg base 8 t_after_history.kp 0 "check_sound" 1 m_check_sound) (h1 : CalG P wd K mg base 8 t_after_history.kp 1 "check_history" 2 m_check_history) (h2 : CalG P wd K mg base 8 t_after_history.kp 2 "after_history_by" 2 m_after_history_by) : FnG P wd K mg base 9 fa fd ["disk", "history"] m_after_history :=
  fn_mi F f_after_history c_after_history fun cdv Ar ou sh Hx room grd => cok_of rfl rfl (f_after_history).nd room grd bl
    (fun k x n e => match k, e with | 0, e => cal_at e h0 | 1, e => cal_at e h1 | 2, e => cal_at e h2 | k + 3, e => absurd e (by simp [t_after_history]))
    (fun j x e => absurd e (by simp [t_after_history]))
theorem ok_contents_by {fa : Addr} {fd : FuncData} (F : Fun K "contents_by" "contents_by" s_contents_by fa fd) (bl : ∀ x ∈ bnames, mg x = none) (h0 : CalG P wd K mg base 1 t_contents_by.kp 0 "told_slots" 1 m_told_slots) (g0 : GcG K mg "ROOT_PLACE" (.int 9)) : FnG P wd K mg base 2 fa fd ["disk"] m_contents_by :=
  fn_mi F f_contents_by c_contents_by fun cdv Ar ou sh Hx room grd => cok_of rfl rfl (f_contents_by).nd room grd bl
    (fun k x n e => match k, e with | 0, e => cal_at e h0 | k + 1, e => absurd e (by simp [t_contents_by]))
    (fun j x e => match j, e with | 0, e => gc_at e g0 | j + 1, e => absurd e (by simp [t_contents_by]))
theorem ok_contents {fa : Addr} {fd : FuncData} (F : Fun K "contents" "contents" s_contents fa fd) (bl : ∀ x ∈ bnames, mg x = none) (h0 : CalG P wd K mg base 7 t_contents.kp 0 "check_sound" 1 m_check_sound) (h1 : CalG P wd K mg base 7 t_contents.kp 1 "contents_by" 1 m_contents_by) : FnG P wd K mg base 8 fa fd ["disk"] m_contents :=
  fn_mi F f_contents c_contents fun cdv Ar ou sh Hx room grd => cok_of rfl rfl (f_contents).nd room grd bl
    (fun k x n e => match k, e with | 0, e => cal_at e h0 | 1, e => cal_at e h1 | k + 2, e => absurd e (by simp [t_contents]))
    (fun j x e => absurd e (by simp [t_contents]))
theorem ok_check_contents {fa : Addr} {fd : FuncData} (F : Fun K "check_contents" "check_contents" s_check_contents fa fd) (bl : ∀ x ∈ bnames, mg x = none) (h0 : CalG P wd K mg base 3 t_check_contents.kp 0 "is_between" 3 m_is_between) (h1 : CalG P wd K mg base 3 t_check_contents.kp 1 "are_numbers" 3 m_are_numbers) (g0 : GcG K mg "MOST_HOMES" (.int 60)) (g1 : GcG K mg "MOST_IN_BLOCK" (.int 90)) : FnG P wd K mg base 4 fa fd ["value"] m_check_contents :=
  fn_mi F f_check_contents c_check_contents fun cdv Ar ou sh Hx room grd => cok_of rfl rfl (f_check_contents).nd room grd bl
    (fun k x n e => match k, e with | 0, e => cal_at e h0 | 1, e => cal_at e h1 | k + 2, e => absurd e (by simp [t_check_contents]))
    (fun j x e => match j, e with | 0, e => gc_at e g0 | 1, e => gc_at e g1 | j + 2, e => absurd e (by simp [t_check_contents]))
theorem ok_told_contents_by {fa : Addr} {fd : FuncData} (F : Fun K "told_contents_by" "told_contents_by" s_told_contents_by fa fd) (bl : ∀ x ∈ bnames, mg x = none) (g0 : GcG K mg "ROOT_PLACE" (.int 9)) : FnG P wd K mg base 1 fa fd ["told", "history"] m_told_contents_by :=
  fn_mi F f_told_contents_by c_told_contents_by fun cdv Ar ou sh Hx room grd => cok_of rfl rfl (f_told_contents_by).nd room grd bl
    (fun k x n e => absurd e (by simp [t_told_contents_by]))
    (fun j x e => match j, e with | 0, e => gc_at e g0 | j + 1, e => absurd e (by simp [t_told_contents_by]))
theorem ok_told_contents {fa : Addr} {fd : FuncData} (F : Fun K "told_contents" "told_contents" s_told_contents fa fd) (bl : ∀ x ∈ bnames, mg x = none) (h0 : CalG P wd K mg base 8 t_told_contents.kp 0 "check_contents" 1 m_check_contents) (h1 : CalG P wd K mg base 8 t_told_contents.kp 1 "check_history" 2 m_check_history) (h2 : CalG P wd K mg base 8 t_told_contents.kp 2 "told_contents_by" 2 m_told_contents_by) (g0 : GcG K mg "ROOT_PLACE" (.int 9)) : FnG P wd K mg base 9 fa fd ["told", "history"] m_told_contents :=
  fn_mi F f_told_contents c_told_contents fun cdv Ar ou sh Hx room grd => cok_of rfl rfl (f_told_contents).nd room grd bl
    (fun k x n e => match k, e with | 0, e => cal_at e h0 | 1, e => cal_at e h1 | 2, e => cal_at e h2 | k + 3, e => absurd e (by simp [t_told_contents]))
    (fun j x e => match j, e with | 0, e => gc_at e g0 | j + 1, e => absurd e (by simp [t_told_contents]))
theorem ok_is_sound {fa : Addr} {fd : FuncData} (F : Fun K "is_sound" "is_sound" s_is_sound fa fd) (bl : ∀ x ∈ bnames, mg x = none) (h0 : CalG P wd K mg base 6 t_is_sound.kp 0 "is_sound_by" 1 m_is_sound_by) : FnG P wd K mg base 7 fa fd ["value"] m_is_sound :=
  fn_mi F f_is_sound c_is_sound fun cdv Ar ou sh Hx room grd => cok_of rfl rfl (f_is_sound).nd room grd bl
    (fun k x n e => match k, e with | 0, e => cal_at e h0 | k + 1, e => absurd e (by simp [t_is_sound]))
    (fun j x e => absurd e (by simp [t_is_sound]))
theorem ok_law_mending {fa : Addr} {fd : FuncData} (F : Fun K "_law_mending" "_law_mending" s_law_mending fa fd) (bl : ∀ x ∈ bnames, mg x = none) : FnG P wd K mg base 1 fa fd ["_law_thing"] m_law_mending :=
  fn_mi F f_law_mending c_law_mending fun cdv Ar ou sh Hx room grd => cok_of rfl rfl (f_law_mending).nd room grd bl
    (fun k x n e => absurd e (by simp [t_law_mending]))
    (fun j x e => absurd e (by simp [t_law_mending]))
theorem ok_law_run {fa : Addr} {fd : FuncData} (F : Fun K "_law_run" "_law_run" s_law_run fa fd) (bl : ∀ x ∈ bnames, mg x = none) : FnG P wd K mg base 1 fa fd ["_law_thing", "_law_some", "_law_often", "_law_is_torn"] m_law_run :=
  fn_mi F f_law_run c_law_run fun cdv Ar ou sh Hx room grd => cok_of rfl rfl (f_law_run).nd room grd bl
    (fun k x n e => absurd e (by simp [t_law_run]))
    (fun j x e => absurd e (by simp [t_law_run]))
theorem ok_law_steps {fa : Addr} {fd : FuncData} (F : Fun K "_law_steps" "_law_steps" s_law_steps fa fd) (bl : ∀ x ∈ bnames, mg x = none) : FnG P wd K mg base 1 fa fd ["_law_some"] m_law_steps :=
  fn_mi F f_law_steps c_law_steps fun cdv Ar ou sh Hx room grd => cok_of rfl rfl (f_law_steps).nd room grd bl
    (fun k x n e => absurd e (by simp [t_law_steps]))
    (fun j x e => absurd e (by simp [t_law_steps]))
theorem ok_law_after {fa : Addr} {fd : FuncData} (F : Fun K "_law_after" "_law_after" s_law_after fa fd) (bl : ∀ x ∈ bnames, mg x = none) (h0 : CalG P wd K mg base 1 t_law_after.kp 0 "_law_mending" 1 m_law_mending) (h1 : CalG P wd K mg base 1 t_law_after.kp 1 "_law_run" 4 m_law_run) (h2 : CalG P wd K mg base 1 t_law_after.kp 2 "_law_steps" 1 m_law_steps) : FnG P wd K mg base 2 fa fd ["_law_thing", "_law_events"] m_law_after :=
  fn_mi F f_law_after c_law_after fun cdv Ar ou sh Hx room grd => cok_of rfl rfl (f_law_after).nd room grd bl
    (fun k x n e => match k, e with | 0, e => cal_at e h0 | 1, e => cal_at e h1 | 2, e => cal_at e h2 | k + 3, e => absurd e (by simp [t_law_after]))
    (fun j x e => absurd e (by simp [t_law_after]))
theorem ok_law_right {fa : Addr} {fd : FuncData} (F : Fun K "_law_right" "_law_right" s_law_right fa fd) (bl : ∀ x ∈ bnames, mg x = none) (h0 : CalG P wd K mg base 9 t_law_right.kp 0 "_law_sound" 2 m_law_sound) (h1 : CalG P wd K mg base 9 t_law_right.kp 1 "_law_draw" 2 m_law_draw) (h2 : CalG P wd K mg base 9 t_law_right.kp 2 "_law_history" 2 m_law_history) (h3 : CalG P wd K mg base 9 t_law_right.kp 3 "_law_laid" 1 m_law_laid) (h4 : CalG P wd K mg base 9 t_law_right.kp 4 "after_history" 2 m_after_history) (h5 : CalG P wd K mg base 9 t_law_right.kp 5 "_law_after" 2 m_law_after) (h6 : CalG P wd K mg base 9 t_law_right.kp 6 "_law_counted" 2 m_law_counted) (h7 : CalG P wd K mg base 9 t_law_right.kp 7 "told_contents" 2 m_told_contents) (h8 : CalG P wd K mg base 9 t_law_right.kp 8 "contents" 1 m_contents) (h9 : CalG P wd K mg base 9 t_law_right.kp 9 "is_sound" 1 m_is_sound) : FnG P wd K mg base 10 fa fd ["_law_well_here"] m_law_right :=
  fn_mi F f_law_right c_law_right fun cdv Ar ou sh Hx room grd => cok_of rfl rfl (f_law_right).nd room grd bl
    (fun k x n e => match k, e with | 0, e => cal_at e h0 | 1, e => cal_at e h1 | 2, e => cal_at e h2 | 3, e => cal_at e h3 | 4, e => cal_at e h4 | 5, e => cal_at e h5 | 6, e => cal_at e h6 | 7, e => cal_at e h7 | 8, e => cal_at e h8 | 9, e => cal_at e h9 | k + 10, e => absurd e (by simp [t_law_right]))
    (fun j x e => absurd e (by simp [t_law_right]))
theorem ok_law_well {fa : Addr} {fd : FuncData} (F : Fun K "_law_well" "_law_well" s_law_well fa fd) (bl : ∀ x ∈ bnames, mg x = none) : FnG P wd K mg base 1 fa fd ["_law_script", "_law_turn"] m_law_well :=
  fn_mi F f_law_well c_law_well fun cdv Ar ou sh Hx room grd => cok_of rfl rfl (f_law_well).nd room grd bl
    (fun k x n e => absurd e (by simp [t_law_well]))
    (fun j x e => absurd e (by simp [t_law_well]))
theorem ok_law {fa : Addr} {fd : FuncData} (F : Fun K "law" "law" s_law fa fd) (bl : ∀ x ∈ bnames, mg x = none) (h0 : CalG P wd K mg base 10 t_law.kp 0 "_law_right" 1 m_law_right) (h1 : CalG P wd K mg base 10 t_law.kp 1 "_law_well" 2 m_law_well) : FnG P wd K mg base 11 fa fd ["_law_script"] m_law :=
  fn_mi F f_law c_law fun cdv Ar ou sh Hx room grd => cok_of rfl rfl (f_law).nd room grd bl
    (fun k x n e => match k, e with | 0, e => cal_at e h0 | 1, e => cal_at e h1 | k + 2, e => absurd e (by simp [t_law]))
    (fun j x e => absurd e (by simp [t_law]))
end
/-! ### what the top has written; the head -/
theorem all_mk {l : PySem.W.OpenLaw} {wd : World} {K : PySem.W.Frag} {h : Heap} {mg : Str → Option Value} {fa : Addr} {f0 : Addr} {od0 an0 : Option Addr} {sl0 : Array (Option Value)} {oc0 kV0 dc0 pm0 cd0 ct0 : Value}
  {f1 : Addr} {od1 an1 : Option Addr} {sl1 : Array (Option Value)} {oc1 kV1 dc1 pm1 cd1 ct1 : Value}
  {f2 : Addr} {od2 an2 : Option Addr} {sl2 : Array (Option Value)} {oc2 kV2 dc2 pm2 cd2 ct2 : Value}
  {f3 : Addr} {od3 an3 : Option Addr} {sl3 : Array (Option Value)} {oc3 kV3 dc3 pm3 cd3 ct3 : Value}
  {f4 : Addr} {od4 an4 : Option Addr} {sl4 : Array (Option Value)} {oc4 kV4 dc4 pm4 cd4 ct4 : Value}
  {f5 : Addr} {od5 an5 : Option Addr} {sl5 : Array (Option Value)} {oc5 kV5 dc5 pm5 cd5 ct5 : Value}
  {f6 : Addr} {od6 an6 : Option Addr} {sl6 : Array (Option Value)} {oc6 kV6 dc6 pm6 cd6 ct6 : Value}
  {f7 : Addr} {od7 an7 : Option Addr} {sl7 : Array (Option Value)} {oc7 kV7 dc7 pm7 cd7 ct7 : Value}
  {f8 : Addr} {od8 an8 : Option Addr} {sl8 : Array (Option Value)} {oc8 kV8 dc8 pm8 cd8 ct8 : Value}
  {f9 : Addr} {od9 an9 : Option Addr} {sl9 : Array (Option Value)} {oc9 kV9 dc9 pm9 cd9 ct9 : Value}
  {f10 : Addr} {od10 an10 : Option Addr} {sl10 : Array (Option Value)} {oc10 kV10 dc10 pm10 cd10 ct10 : Value}
  {f11 : Addr} {od11 an11 : Option Addr} {sl11 : Array (Option Value)} {oc11 kV11 dc11 pm11 cd11 ct11 : Value}
  {f12 : Addr} {od12 an12 : Option Addr} {sl12 : Array (Option Value)} {oc12 kV12 dc12 pm12 cd12 ct12 : Value}
  {f13 : Addr} {od13 an13 : Option Addr} {sl13 : Array (Option Value)} {oc13 kV13 dc13 pm13 cd13 ct13 : Value}
  {f14 : Addr} {od14 an14 : Option Addr} {sl14 : Array (Option Value)} {oc14 kV14 dc14 pm14 cd14 ct14 : Value}
  {f15 : Addr} {od15 an15 : Option Addr} {sl15 : Array (Option Value)} {oc15 kV15 dc15 pm15 cd15 ct15 : Value}
  {f16 : Addr} {od16 an16 : Option Addr} {sl16 : Array (Option Value)} {oc16 kV16 dc16 pm16 cd16 ct16 : Value}
  {f17 : Addr} {od17 an17 : Option Addr} {sl17 : Array (Option Value)} {oc17 kV17 dc17 pm17 cd17 ct17 : Value}
  {f18 : Addr} {od18 an18 : Option Addr} {sl18 : Array (Option Value)} {oc18 kV18 dc18 pm18 cd18 ct18 : Value}
  {f19 : Addr} {od19 an19 : Option Addr} {sl19 : Array (Option Value)} {oc19 kV19 dc19 pm19 cd19 ct19 : Value}
  {f20 : Addr} {od20 an20 : Option Addr} {sl20 : Array (Option Value)} {oc20 kV20 dc20 pm20 cd20 ct20 : Value}
  {f21 : Addr} {od21 an21 : Option Addr} {sl21 : Array (Option Value)} {oc21 kV21 dc21 pm21 cd21 ct21 : Value}
  {f22 : Addr} {od22 an22 : Option Addr} {sl22 : Array (Option Value)} {oc22 kV22 dc22 pm22 cd22 ct22 : Value}
  {f23 : Addr} {od23 an23 : Option Addr} {sl23 : Array (Option Value)} {oc23 kV23 dc23 pm23 cd23 ct23 : Value}
  {f24 : Addr} {od24 an24 : Option Addr} {sl24 : Array (Option Value)} {oc24 kV24 dc24 pm24 cd24 ct24 : Value}
  {f25 : Addr} {od25 an25 : Option Addr} {sl25 : Array (Option Value)} {oc25 kV25 dc25 pm25 cd25 ct25 : Value}
  {f26 : Addr} {od26 an26 : Option Addr} {sl26 : Array (Option Value)} {oc26 kV26 dc26 pm26 cd26 ct26 : Value}
  {f27 : Addr} {od27 an27 : Option Addr} {sl27 : Array (Option Value)} {oc27 kV27 dc27 pm27 cd27 ct27 : Value}
  {f28 : Addr} {od28 an28 : Option Addr} {sl28 : Array (Option Value)} {oc28 kV28 dc28 pm28 cd28 ct28 : Value}
  {f29 : Addr} {od29 an29 : Option Addr} {sl29 : Array (Option Value)} {oc29 kV29 dc29 pm29 cd29 ct29 : Value}
  {f30 : Addr} {od30 an30 : Option Addr} {sl30 : Array (Option Value)} {oc30 kV30 dc30 pm30 cd30 ct30 : Value}
  {f31 : Addr} {od31 an31 : Option Addr} {sl31 : Array (Option Value)} {oc31 kV31 dc31 pm31 cd31 ct31 : Value}
  {f32 : Addr} {od32 an32 : Option Addr} {sl32 : Array (Option Value)} {oc32 kV32 dc32 pm32 cd32 ct32 : Value}
  {f33 : Addr} {od33 an33 : Option Addr} {sl33 : Array (Option Value)} {oc33 kV33 dc33 pm33 cd33 ct33 : Value}
  {f34 : Addr} {od34 an34 : Option Addr} {sl34 : Array (Option Value)} {oc34 kV34 dc34 pm34 cd34 ct34 : Value}
  {f35 : Addr} {od35 an35 : Option Addr} {sl35 : Array (Option Value)} {oc35 kV35 dc35 pm35 cd35 ct35 : Value}
  {f36 : Addr} {od36 an36 : Option Addr} {sl36 : Array (Option Value)} {oc36 kV36 dc36 pm36 cd36 ct36 : Value}
  {f37 : Addr} {od37 an37 : Option Addr} {sl37 : Array (Option Value)} {oc37 kV37 dc37 pm37 cd37 ct37 : Value}
  {f38 : Addr} {od38 an38 : Option Addr} {sl38 : Array (Option Value)} {oc38 kV38 dc38 pm38 cd38 ct38 : Value}
  {f39 : Addr} {od39 an39 : Option Addr} {sl39 : Array (Option Value)} {oc39 kV39 dc39 pm39 cd39 ct39 : Value}
  {f40 : Addr} {od40 an40 : Option Addr} {sl40 : Array (Option Value)} {oc40 kV40 dc40 pm40 cd40 ct40 : Value}
  {f41 : Addr} {od41 an41 : Option Addr} {sl41 : Array (Option Value)} {oc41 kV41 dc41 pm41 cd41 ct41 : Value}
  {f42 : Addr} {od42 an42 : Option Addr} {sl42 : Array (Option Value)} {oc42 kV42 dc42 pm42 cd42 ct42 : Value}
  {f43 : Addr} {od43 an43 : Option Addr} {sl43 : Array (Option Value)} {oc43 kV43 dc43 pm43 cd43 ct43 : Value}
  {f44 : Addr} {od44 an44 : Option Addr} {sl44 : Array (Option Value)} {oc44 kV44 dc44 pm44 cd44 ct44 : Value}
  {f45 : Addr} {od45 an45 : Option Addr} {sl45 : Array (Option Value)} {oc45 kV45 dc45 pm45 cd45 ct45 : Value}
  {tk0 : Tok}
  {tk1 : Tok}
  {tk2 : Tok}
  {tk3 : Tok}
  {tk4 : Tok}
  {tk5 : Tok}
  {tk6 : Tok}
  {tk7 : Tok} (X : K.In h) (G : h.Ns mainGlobals mg) (hfa : mg "law" = some (.ref fa))
  (a0 : PySem.W.nsIn K mainGlobals "_law_draw" = some (some (.ref f0))) (l0 : K.lookup f0 = some ⟨oc0, od0, .func (PySem.W.fnOf "_law_draw" "_law_draw" (defArgs s_law_draw) (defBody s_law_draw) (defScope s_law_draw) .none kV0 dc0 pm0 an0 cd0 ct0), sl0⟩) (c0 : PySem.W.codeIn K cd0 "_law_draw" = true) (k0 : PySem.W.keepIn K (.ref f0) = true)
  (a1 : PySem.W.nsIn K mainGlobals "_law_unlike" = some (some (.ref f1))) (l1 : K.lookup f1 = some ⟨oc1, od1, .func (PySem.W.fnOf "_law_unlike" "_law_unlike" (defArgs s_law_unlike) (defBody s_law_unlike) (defScope s_law_unlike) .none kV1 dc1 pm1 an1 cd1 ct1), sl1⟩) (c1 : PySem.W.codeIn K cd1 "_law_unlike" = true) (k1 : PySem.W.keepIn K (.ref f1) = true)
  (a2 : PySem.W.nsIn K mainGlobals "_law_any_of" = some (some (.ref f2))) (l2 : K.lookup f2 = some ⟨oc2, od2, .func (PySem.W.fnOf "_law_any_of" "_law_any_of" (defArgs s_law_any_of) (defBody s_law_any_of) (defScope s_law_any_of) .none kV2 dc2 pm2 an2 cd2 ct2), sl2⟩) (c2 : PySem.W.codeIn K cd2 "_law_any_of" = true) (k2 : PySem.W.keepIn K (.ref f2) = true)
  (a3 : PySem.W.nsIn K mainGlobals "_law_numbers" = some (some (.ref f3))) (l3 : K.lookup f3 = some ⟨oc3, od3, .func (PySem.W.fnOf "_law_numbers" "_law_numbers" (defArgs s_law_numbers) (defBody s_law_numbers) (defScope s_law_numbers) .none kV3 dc3 pm3 an3 cd3 ct3), sl3⟩) (c3 : PySem.W.codeIn K cd3 "_law_numbers" = true) (k3 : PySem.W.keepIn K (.ref f3) = true)
  (a4 : PySem.W.nsIn K mainGlobals "_law_quiet" = some (some (.ref f4))) (l4 : K.lookup f4 = some ⟨oc4, od4, .func (PySem.W.fnOf "_law_quiet" "_law_quiet" (defArgs s_law_quiet) (defBody s_law_quiet) (defScope s_law_quiet) .none kV4 dc4 pm4 an4 cd4 ct4), sl4⟩) (c4 : PySem.W.codeIn K cd4 "_law_quiet" = true) (k4 : PySem.W.keepIn K (.ref f4) = true)
  (a5 : PySem.W.nsIn K mainGlobals "_law_sound" = some (some (.ref f5))) (l5 : K.lookup f5 = some ⟨oc5, od5, .func (PySem.W.fnOf "_law_sound" "_law_sound" (defArgs s_law_sound) (defBody s_law_sound) (defScope s_law_sound) .none kV5 dc5 pm5 an5 cd5 ct5), sl5⟩) (c5 : PySem.W.codeIn K cd5 "_law_sound" = true) (k5 : PySem.W.keepIn K (.ref f5) = true)
  (a6 : PySem.W.nsIn K mainGlobals "_law_counted" = some (some (.ref f6))) (l6 : K.lookup f6 = some ⟨oc6, od6, .func (PySem.W.fnOf "_law_counted" "_law_counted" (defArgs s_law_counted) (defBody s_law_counted) (defScope s_law_counted) .none kV6 dc6 pm6 an6 cd6 ct6), sl6⟩) (c6 : PySem.W.codeIn K cd6 "_law_counted" = true) (k6 : PySem.W.keepIn K (.ref f6) = true)
  (a7 : PySem.W.nsIn K mainGlobals "_law_batch" = some (some (.ref f7))) (l7 : K.lookup f7 = some ⟨oc7, od7, .func (PySem.W.fnOf "_law_batch" "_law_batch" (defArgs s_law_batch) (defBody s_law_batch) (defScope s_law_batch) .none kV7 dc7 pm7 an7 cd7 ct7), sl7⟩) (c7 : PySem.W.codeIn K cd7 "_law_batch" = true) (k7 : PySem.W.keepIn K (.ref f7) = true)
  (a8 : PySem.W.nsIn K mainGlobals "_law_history" = some (some (.ref f8))) (l8 : K.lookup f8 = some ⟨oc8, od8, .func (PySem.W.fnOf "_law_history" "_law_history" (defArgs s_law_history) (defBody s_law_history) (defScope s_law_history) .none kV8 dc8 pm8 an8 cd8 ct8), sl8⟩) (c8 : PySem.W.codeIn K cd8 "_law_history" = true) (k8 : PySem.W.keepIn K (.ref f8) = true)
  (a9 : PySem.W.nsIn K mainGlobals "_law_laid" = some (some (.ref f9))) (l9 : K.lookup f9 = some ⟨oc9, od9, .func (PySem.W.fnOf "_law_laid" "_law_laid" (defArgs s_law_laid) (defBody s_law_laid) (defScope s_law_laid) .none kV9 dc9 pm9 an9 cd9 ct9), sl9⟩) (c9 : PySem.W.codeIn K cd9 "_law_laid" = true) (k9 : PySem.W.keepIn K (.ref f9) = true)
  (a10 : PySem.W.nsIn K mainGlobals "told_slots" = some (some (.ref f10))) (l10 : K.lookup f10 = some ⟨oc10, od10, .func (PySem.W.fnOf "told_slots" "told_slots" (defArgs s_told_slots) (defBody s_told_slots) (defScope s_told_slots) .none kV10 dc10 pm10 an10 cd10 ct10), sl10⟩) (c10 : PySem.W.codeIn K cd10 "told_slots" = true) (k10 : PySem.W.keepIn K (.ref f10) = true)
  (a11 : PySem.W.nsIn K mainGlobals "is_whole" = some (some (.ref f11))) (l11 : K.lookup f11 = some ⟨oc11, od11, .func (PySem.W.fnOf "is_whole" "is_whole" (defArgs s_is_whole) (defBody s_is_whole) (defScope s_is_whole) .none kV11 dc11 pm11 an11 cd11 ct11), sl11⟩) (c11 : PySem.W.codeIn K cd11 "is_whole" = true) (k11 : PySem.W.keepIn K (.ref f11) = true)
  (a12 : PySem.W.nsIn K mainGlobals "is_between" = some (some (.ref f12))) (l12 : K.lookup f12 = some ⟨oc12, od12, .func (PySem.W.fnOf "is_between" "is_between" (defArgs s_is_between) (defBody s_is_between) (defScope s_is_between) .none kV12 dc12 pm12 an12 cd12 ct12), sl12⟩) (c12 : PySem.W.codeIn K cd12 "is_between" = true) (k12 : PySem.W.keepIn K (.ref f12) = true)
  (a13 : PySem.W.nsIn K mainGlobals "are_named" = some (some (.ref f13))) (l13 : K.lookup f13 = some ⟨oc13, od13, .func (PySem.W.fnOf "are_named" "are_named" (defArgs s_are_named) (defBody s_are_named) (defScope s_are_named) .none kV13 dc13 pm13 an13 cd13 ct13), sl13⟩) (c13 : PySem.W.codeIn K cd13 "are_named" = true) (k13 : PySem.W.keepIn K (.ref f13) = true)
  (a14 : PySem.W.nsIn K mainGlobals "are_numbers" = some (some (.ref f14))) (l14 : K.lookup f14 = some ⟨oc14, od14, .func (PySem.W.fnOf "are_numbers" "are_numbers" (defArgs s_are_numbers) (defBody s_are_numbers) (defScope s_are_numbers) .none kV14 dc14 pm14 an14 cd14 ct14), sl14⟩) (c14 : PySem.W.codeIn K cd14 "are_numbers" = true) (k14 : PySem.W.keepIn K (.ref f14) = true)
  (a15 : PySem.W.nsIn K mainGlobals "is_block_by" = some (some (.ref f15))) (l15 : K.lookup f15 = some ⟨oc15, od15, .func (PySem.W.fnOf "is_block_by" "is_block_by" (defArgs s_is_block_by) (defBody s_is_block_by) (defScope s_is_block_by) .none kV15 dc15 pm15 an15 cd15 ct15), sl15⟩) (c15 : PySem.W.codeIn K cd15 "is_block_by" = true) (k15 : PySem.W.keepIn K (.ref f15) = true)
  (a16 : PySem.W.nsIn K mainGlobals "is_disk_by" = some (some (.ref f16))) (l16 : K.lookup f16 = some ⟨oc16, od16, .func (PySem.W.fnOf "is_disk_by" "is_disk_by" (defArgs s_is_disk_by) (defBody s_is_disk_by) (defScope s_is_disk_by) .none kV16 dc16 pm16 an16 cd16 ct16), sl16⟩) (c16 : PySem.W.codeIn K cd16 "is_disk_by" = true) (k16 : PySem.W.keepIn K (.ref f16) = true)
  (a17 : PySem.W.nsIn K mainGlobals "is_head" = some (some (.ref f17))) (l17 : K.lookup f17 = some ⟨oc17, od17, .func (PySem.W.fnOf "is_head" "is_head" (defArgs s_is_head) (defBody s_is_head) (defScope s_is_head) .none kV17 dc17 pm17 an17 cd17 ct17), sl17⟩) (c17 : PySem.W.codeIn K cd17 "is_head" = true) (k17 : PySem.W.keepIn K (.ref f17) = true)
  (a18 : PySem.W.nsIn K mainGlobals "is_sound_by" = some (some (.ref f18))) (l18 : K.lookup f18 = some ⟨oc18, od18, .func (PySem.W.fnOf "is_sound_by" "is_sound_by" (defArgs s_is_sound_by) (defBody s_is_sound_by) (defScope s_is_sound_by) .none kV18 dc18 pm18 an18 cd18 ct18), sl18⟩) (c18 : PySem.W.codeIn K cd18 "is_sound_by" = true) (k18 : PySem.W.keepIn K (.ref f18) = true)
  (a19 : PySem.W.nsIn K mainGlobals "check_sound" = some (some (.ref f19))) (l19 : K.lookup f19 = some ⟨oc19, od19, .func (PySem.W.fnOf "check_sound" "check_sound" (defArgs s_check_sound) (defBody s_check_sound) (defScope s_check_sound) .none kV19 dc19 pm19 an19 cd19 ct19), sl19⟩) (c19 : PySem.W.codeIn K cd19 "check_sound" = true) (k19 : PySem.W.keepIn K (.ref f19) = true)
  (a20 : PySem.W.nsIn K mainGlobals "is_batched" = some (some (.ref f20))) (l20 : K.lookup f20 = some ⟨oc20, od20, .func (PySem.W.fnOf "is_batched" "is_batched" (defArgs s_is_batched) (defBody s_is_batched) (defScope s_is_batched) .none kV20 dc20 pm20 an20 cd20 ct20), sl20⟩) (c20 : PySem.W.codeIn K cd20 "is_batched" = true) (k20 : PySem.W.keepIn K (.ref f20) = true)
  (a21 : PySem.W.nsIn K mainGlobals "is_batch_by" = some (some (.ref f21))) (l21 : K.lookup f21 = some ⟨oc21, od21, .func (PySem.W.fnOf "is_batch_by" "is_batch_by" (defArgs s_is_batch_by) (defBody s_is_batch_by) (defScope s_is_batch_by) .none kV21 dc21 pm21 an21 cd21 ct21), sl21⟩) (c21 : PySem.W.codeIn K cd21 "is_batch_by" = true) (k21 : PySem.W.keepIn K (.ref f21) = true)
  (a22 : PySem.W.nsIn K mainGlobals "is_cut" = some (some (.ref f22))) (l22 : K.lookup f22 = some ⟨oc22, od22, .func (PySem.W.fnOf "is_cut" "is_cut" (defArgs s_is_cut) (defBody s_is_cut) (defScope s_is_cut) .none kV22 dc22 pm22 an22 cd22 ct22), sl22⟩) (c22 : PySem.W.codeIn K cd22 "is_cut" = true) (k22 : PySem.W.keepIn K (.ref f22) = true)
  (a23 : PySem.W.nsIn K mainGlobals "is_disk_event" = some (some (.ref f23))) (l23 : K.lookup f23 = some ⟨oc23, od23, .func (PySem.W.fnOf "is_disk_event" "is_disk_event" (defArgs s_is_disk_event) (defBody s_is_disk_event) (defScope s_is_disk_event) .none kV23 dc23 pm23 an23 cd23 ct23), sl23⟩) (c23 : PySem.W.codeIn K cd23 "is_disk_event" = true) (k23 : PySem.W.keepIn K (.ref f23) = true)
  (a24 : PySem.W.nsIn K mainGlobals "is_history_by" = some (some (.ref f24))) (l24 : K.lookup f24 = some ⟨oc24, od24, .func (PySem.W.fnOf "is_history_by" "is_history_by" (defArgs s_is_history_by) (defBody s_is_history_by) (defScope s_is_history_by) .none kV24 dc24 pm24 an24 cd24 ct24), sl24⟩) (c24 : PySem.W.codeIn K cd24 "is_history_by" = true) (k24 : PySem.W.keepIn K (.ref f24) = true)
  (a25 : PySem.W.nsIn K mainGlobals "check_history" = some (some (.ref f25))) (l25 : K.lookup f25 = some ⟨oc25, od25, .func (PySem.W.fnOf "check_history" "check_history" (defArgs s_check_history) (defBody s_check_history) (defScope s_check_history) .none kV25 dc25 pm25 an25 cd25 ct25), sl25⟩) (c25 : PySem.W.codeIn K cd25 "check_history" = true) (k25 : PySem.W.keepIn K (.ref f25) = true)
  (a26 : PySem.W.nsIn K mainGlobals "run_by" = some (some (.ref f26))) (l26 : K.lookup f26 = some ⟨oc26, od26, .func (PySem.W.fnOf "run_by" "run_by" (defArgs s_run_by) (defBody s_run_by) (defScope s_run_by) .none kV26 dc26 pm26 an26 cd26 ct26), sl26⟩) (c26 : PySem.W.codeIn K cd26 "run_by" = true) (k26 : PySem.W.keepIn K (.ref f26) = true)
  (a27 : PySem.W.nsIn K mainGlobals "disk_mending_by" = some (some (.ref f27))) (l27 : K.lookup f27 = some ⟨oc27, od27, .func (PySem.W.fnOf "disk_mending_by" "disk_mending_by" (defArgs s_disk_mending_by) (defBody s_disk_mending_by) (defScope s_disk_mending_by) .none kV27 dc27 pm27 an27 cd27 ct27), sl27⟩) (c27 : PySem.W.codeIn K cd27 "disk_mending_by" = true) (k27 : PySem.W.keepIn K (.ref f27) = true)
  (a28 : PySem.W.nsIn K mainGlobals "mended_disk_by" = some (some (.ref f28))) (l28 : K.lookup f28 = some ⟨oc28, od28, .func (PySem.W.fnOf "mended_disk_by" "mended_disk_by" (defArgs s_mended_disk_by) (defBody s_mended_disk_by) (defScope s_mended_disk_by) .none kV28 dc28 pm28 an28 cd28 ct28), sl28⟩) (c28 : PySem.W.codeIn K cd28 "mended_disk_by" = true) (k28 : PySem.W.keepIn K (.ref f28) = true)
  (a29 : PySem.W.nsIn K mainGlobals "steps_by" = some (some (.ref f29))) (l29 : K.lookup f29 = some ⟨oc29, od29, .func (PySem.W.fnOf "steps_by" "steps_by" (defArgs s_steps_by) (defBody s_steps_by) (defScope s_steps_by) .none kV29 dc29 pm29 an29 cd29 ct29), sl29⟩) (c29 : PySem.W.codeIn K cd29 "steps_by" = true) (k29 : PySem.W.keepIn K (.ref f29) = true)
  (a30 : PySem.W.nsIn K mainGlobals "after_disk_event" = some (some (.ref f30))) (l30 : K.lookup f30 = some ⟨oc30, od30, .func (PySem.W.fnOf "after_disk_event" "after_disk_event" (defArgs s_after_disk_event) (defBody s_after_disk_event) (defScope s_after_disk_event) .none kV30 dc30 pm30 an30 cd30 ct30), sl30⟩) (c30 : PySem.W.codeIn K cd30 "after_disk_event" = true) (k30 : PySem.W.keepIn K (.ref f30) = true)
  (a31 : PySem.W.nsIn K mainGlobals "after_history_by" = some (some (.ref f31))) (l31 : K.lookup f31 = some ⟨oc31, od31, .func (PySem.W.fnOf "after_history_by" "after_history_by" (defArgs s_after_history_by) (defBody s_after_history_by) (defScope s_after_history_by) .none kV31 dc31 pm31 an31 cd31 ct31), sl31⟩) (c31 : PySem.W.codeIn K cd31 "after_history_by" = true) (k31 : PySem.W.keepIn K (.ref f31) = true)
  (a32 : PySem.W.nsIn K mainGlobals "after_history" = some (some (.ref f32))) (l32 : K.lookup f32 = some ⟨oc32, od32, .func (PySem.W.fnOf "after_history" "after_history" (defArgs s_after_history) (defBody s_after_history) (defScope s_after_history) .none kV32 dc32 pm32 an32 cd32 ct32), sl32⟩) (c32 : PySem.W.codeIn K cd32 "after_history" = true) (k32 : PySem.W.keepIn K (.ref f32) = true)
  (a33 : PySem.W.nsIn K mainGlobals "contents_by" = some (some (.ref f33))) (l33 : K.lookup f33 = some ⟨oc33, od33, .func (PySem.W.fnOf "contents_by" "contents_by" (defArgs s_contents_by) (defBody s_contents_by) (defScope s_contents_by) .none kV33 dc33 pm33 an33 cd33 ct33), sl33⟩) (c33 : PySem.W.codeIn K cd33 "contents_by" = true) (k33 : PySem.W.keepIn K (.ref f33) = true)
  (a34 : PySem.W.nsIn K mainGlobals "contents" = some (some (.ref f34))) (l34 : K.lookup f34 = some ⟨oc34, od34, .func (PySem.W.fnOf "contents" "contents" (defArgs s_contents) (defBody s_contents) (defScope s_contents) .none kV34 dc34 pm34 an34 cd34 ct34), sl34⟩) (c34 : PySem.W.codeIn K cd34 "contents" = true) (k34 : PySem.W.keepIn K (.ref f34) = true)
  (a35 : PySem.W.nsIn K mainGlobals "check_contents" = some (some (.ref f35))) (l35 : K.lookup f35 = some ⟨oc35, od35, .func (PySem.W.fnOf "check_contents" "check_contents" (defArgs s_check_contents) (defBody s_check_contents) (defScope s_check_contents) .none kV35 dc35 pm35 an35 cd35 ct35), sl35⟩) (c35 : PySem.W.codeIn K cd35 "check_contents" = true) (k35 : PySem.W.keepIn K (.ref f35) = true)
  (a36 : PySem.W.nsIn K mainGlobals "told_contents_by" = some (some (.ref f36))) (l36 : K.lookup f36 = some ⟨oc36, od36, .func (PySem.W.fnOf "told_contents_by" "told_contents_by" (defArgs s_told_contents_by) (defBody s_told_contents_by) (defScope s_told_contents_by) .none kV36 dc36 pm36 an36 cd36 ct36), sl36⟩) (c36 : PySem.W.codeIn K cd36 "told_contents_by" = true) (k36 : PySem.W.keepIn K (.ref f36) = true)
  (a37 : PySem.W.nsIn K mainGlobals "told_contents" = some (some (.ref f37))) (l37 : K.lookup f37 = some ⟨oc37, od37, .func (PySem.W.fnOf "told_contents" "told_contents" (defArgs s_told_contents) (defBody s_told_contents) (defScope s_told_contents) .none kV37 dc37 pm37 an37 cd37 ct37), sl37⟩) (c37 : PySem.W.codeIn K cd37 "told_contents" = true) (k37 : PySem.W.keepIn K (.ref f37) = true)
  (a38 : PySem.W.nsIn K mainGlobals "is_sound" = some (some (.ref f38))) (l38 : K.lookup f38 = some ⟨oc38, od38, .func (PySem.W.fnOf "is_sound" "is_sound" (defArgs s_is_sound) (defBody s_is_sound) (defScope s_is_sound) .none kV38 dc38 pm38 an38 cd38 ct38), sl38⟩) (c38 : PySem.W.codeIn K cd38 "is_sound" = true) (k38 : PySem.W.keepIn K (.ref f38) = true)
  (a39 : PySem.W.nsIn K mainGlobals "_law_mending" = some (some (.ref f39))) (l39 : K.lookup f39 = some ⟨oc39, od39, .func (PySem.W.fnOf "_law_mending" "_law_mending" (defArgs s_law_mending) (defBody s_law_mending) (defScope s_law_mending) .none kV39 dc39 pm39 an39 cd39 ct39), sl39⟩) (c39 : PySem.W.codeIn K cd39 "_law_mending" = true) (k39 : PySem.W.keepIn K (.ref f39) = true)
  (a40 : PySem.W.nsIn K mainGlobals "_law_run" = some (some (.ref f40))) (l40 : K.lookup f40 = some ⟨oc40, od40, .func (PySem.W.fnOf "_law_run" "_law_run" (defArgs s_law_run) (defBody s_law_run) (defScope s_law_run) .none kV40 dc40 pm40 an40 cd40 ct40), sl40⟩) (c40 : PySem.W.codeIn K cd40 "_law_run" = true) (k40 : PySem.W.keepIn K (.ref f40) = true)
  (a41 : PySem.W.nsIn K mainGlobals "_law_steps" = some (some (.ref f41))) (l41 : K.lookup f41 = some ⟨oc41, od41, .func (PySem.W.fnOf "_law_steps" "_law_steps" (defArgs s_law_steps) (defBody s_law_steps) (defScope s_law_steps) .none kV41 dc41 pm41 an41 cd41 ct41), sl41⟩) (c41 : PySem.W.codeIn K cd41 "_law_steps" = true) (k41 : PySem.W.keepIn K (.ref f41) = true)
  (a42 : PySem.W.nsIn K mainGlobals "_law_after" = some (some (.ref f42))) (l42 : K.lookup f42 = some ⟨oc42, od42, .func (PySem.W.fnOf "_law_after" "_law_after" (defArgs s_law_after) (defBody s_law_after) (defScope s_law_after) .none kV42 dc42 pm42 an42 cd42 ct42), sl42⟩) (c42 : PySem.W.codeIn K cd42 "_law_after" = true) (k42 : PySem.W.keepIn K (.ref f42) = true)
  (a43 : PySem.W.nsIn K mainGlobals "_law_right" = some (some (.ref f43))) (l43 : K.lookup f43 = some ⟨oc43, od43, .func (PySem.W.fnOf "_law_right" "_law_right" (defArgs s_law_right) (defBody s_law_right) (defScope s_law_right) .none kV43 dc43 pm43 an43 cd43 ct43), sl43⟩) (c43 : PySem.W.codeIn K cd43 "_law_right" = true) (k43 : PySem.W.keepIn K (.ref f43) = true)
  (a44 : PySem.W.nsIn K mainGlobals "_law_well" = some (some (.ref f44))) (l44 : K.lookup f44 = some ⟨oc44, od44, .func (PySem.W.fnOf "_law_well" "_law_well" (defArgs s_law_well) (defBody s_law_well) (defScope s_law_well) .none kV44 dc44 pm44 an44 cd44 ct44), sl44⟩) (c44 : PySem.W.codeIn K cd44 "_law_well" = true) (k44 : PySem.W.keepIn K (.ref f44) = true)
  (a45 : PySem.W.nsIn K mainGlobals "law" = some (some (.ref f45))) (l45 : K.lookup f45 = some ⟨oc45, od45, .func (PySem.W.fnOf "law" "law" (defArgs s_law) (defBody s_law) (defScope s_law) .none kV45 dc45 pm45 an45 cd45 ct45), sl45⟩) (c45 : PySem.W.codeIn K cd45 "law" = true) (k45 : PySem.W.keepIn K (.ref f45) = true)
  (gl0 : PySem.W.nsIn K mainGlobals "LEAST_PLACES" = some (some (.int 11 tk0)))
  (gl1 : PySem.W.nsIn K mainGlobals "MOST_EVENTS" = some (some (.int 40 tk1)))
  (gl2 : PySem.W.nsIn K mainGlobals "MOST_HOMES" = some (some (.int 60 tk2)))
  (gl3 : PySem.W.nsIn K mainGlobals "MOST_IN_BATCH" = some (some (.int 80 tk3)))
  (gl4 : PySem.W.nsIn K mainGlobals "MOST_IN_BLOCK" = some (some (.int 90 tk4)))
  (gl5 : PySem.W.nsIn K mainGlobals "MOST_PLACES" = some (some (.int 70 tk5)))
  (gl6 : PySem.W.nsIn K mainGlobals "ROOT_PLACE" = some (some (.int 9 tk6)))
  (gl7 : PySem.W.nsIn K mainGlobals "SLOTS" = some (some (.int 8 tk7)))
  (z0 : PySem.W.nsIn K mainGlobals "len" = some none)
  (z1 : PySem.W.nsIn K mainGlobals "abs" = some none)
  (z2 : PySem.W.nsIn K mainGlobals "int" = some none)
  (z3 : PySem.W.nsIn K mainGlobals "str" = some none)
  (z4 : PySem.W.nsIn K mainGlobals "repr" = some none)
  (z5 : PySem.W.nsIn K mainGlobals "tuple" = some none)
  (z6 : PySem.W.nsIn K mainGlobals "list" = some none)
  (z7 : PySem.W.nsIn K mainGlobals "sorted" = some none)
  (z8 : PySem.W.nsIn K mainGlobals "sum" = some none)
  (z9 : PySem.W.nsIn K mainGlobals "any" = some none)
  (z10 : PySem.W.nsIn K mainGlobals "all" = some none)
  (z11 : PySem.W.nsIn K mainGlobals "max" = some none)
  (z12 : PySem.W.nsIn K mainGlobals "min" = some none)
  (z13 : PySem.W.nsIn K mainGlobals "ord" = some none)
  (z14 : PySem.W.nsIn K mainGlobals "divmod" = some none)
  (z15 : PySem.W.nsIn K mainGlobals "range" = some none)
  (z16 : PySem.W.nsIn K mainGlobals "zip" = some none)
  (z17 : PySem.W.nsIn K mainGlobals "enumerate" = some none)
  (z18 : PySem.W.nsIn K mainGlobals "isinstance" = some none)
  (z19 : PySem.W.nsIn K mainGlobals "bool" = some none)
  (z20 : PySem.W.nsIn K mainGlobals "dict" = some none)
  (z21 : PySem.W.nsIn K mainGlobals "set" = some none) :
  ∃ fd : FuncData, (∀ (s : Shared) (v : Value), BindsTo s fd ⟨[v], []⟩ [("_law_script", v)]) ∧ ∀ base : Heap, K.In base → base.Ns mainGlobals mg → FnG l.prog wd K mg base 11 fa fd ["_law_script"] m_law := by
  have e := hfa.symm.trans (PySem.W.mg_of X G a45)
  cases e
  have bl : ∀ x ∈ bnames, mg x = none := bl_of (PySem.W.mg_none_of X G z0) (PySem.W.mg_none_of X G z1) (PySem.W.mg_none_of X G z2) (PySem.W.mg_none_of X G z3) (PySem.W.mg_none_of X G z4) (PySem.W.mg_none_of X G z5) (PySem.W.mg_none_of X G z6) (PySem.W.mg_none_of X G z7) (PySem.W.mg_none_of X G z8) (PySem.W.mg_none_of X G z9) (PySem.W.mg_none_of X G z10) (PySem.W.mg_none_of X G z11) (PySem.W.mg_none_of X G z12) (PySem.W.mg_none_of X G z13) (PySem.W.mg_none_of X G z14) (PySem.W.mg_none_of X G z15) (PySem.W.mg_none_of X G z16) (PySem.W.mg_none_of X G z17) (PySem.W.mg_none_of X G z18) (PySem.W.mg_none_of X G z19) (PySem.W.mg_none_of X G z20) (PySem.W.mg_none_of X G z21)
  have gg0 : GcG K mg "LEAST_PLACES" (.int 11) := ⟨_, .int 11, PySem.W.mg_of X G gl0, ⟨_, rfl⟩, fun _ _ => .int _⟩
  have gg1 : GcG K mg "MOST_EVENTS" (.int 40) := ⟨_, .int 40, PySem.W.mg_of X G gl1, ⟨_, rfl⟩, fun _ _ => .int _⟩
  have gg2 : GcG K mg "MOST_HOMES" (.int 60) := ⟨_, .int 60, PySem.W.mg_of X G gl2, ⟨_, rfl⟩, fun _ _ => .int _⟩
  have gg3 : GcG K mg "MOST_IN_BATCH" (.int 80) := ⟨_, .int 80, PySem.W.mg_of X G gl3, ⟨_, rfl⟩, fun _ _ => .int _⟩
  have gg4 : GcG K mg "MOST_IN_BLOCK" (.int 90) := ⟨_, .int 90, PySem.W.mg_of X G gl4, ⟨_, rfl⟩, fun _ _ => .int _⟩
  have gg5 : GcG K mg "MOST_PLACES" (.int 70) := ⟨_, .int 70, PySem.W.mg_of X G gl5, ⟨_, rfl⟩, fun _ _ => .int _⟩
  have gg6 : GcG K mg "ROOT_PLACE" (.int 9) := ⟨_, .int 9, PySem.W.mg_of X G gl6, ⟨_, rfl⟩, fun _ _ => .int _⟩
  have gg7 : GcG K mg "SLOTS" (.int 8) := ⟨_, .int 8, PySem.W.mg_of X G gl7, ⟨_, rfl⟩, fun _ _ => .int _⟩
  have F0 := fun_mk (st := s_law_draw) l0 c0 k0
  have b0 := F0.binds (ps := ["_law_well_here", "_law_limit"]) fun _ _ _ _ _ _ us hl => match us, hl with | [_, _], _ => rfl
  have F1 := fun_mk (st := s_law_unlike) l1 c1 k1
  have b1 := F1.binds (ps := ["_law_well_here", "_law_some", "_law_often"]) fun _ _ _ _ _ _ us hl => match us, hl with | [_, _, _], _ => rfl
  have F2 := fun_mk (st := s_law_any_of) l2 c2 k2
  have b2 := F2.binds (ps := ["_law_well_here", "_law_some"]) fun _ _ _ _ _ _ us hl => match us, hl with | [_, _], _ => rfl
  have F3 := fun_mk (st := s_law_numbers) l3 c3 k3
  have b3 := F3.binds (ps := ["_law_well_here", "_law_longest"]) fun _ _ _ _ _ _ us hl => match us, hl with | [_, _], _ => rfl
  have F4 := fun_mk (st := s_law_quiet) l4 c4 k4
  have b4 := F4.binds (ps := ["_law_well_here", "_law_most"]) fun _ _ _ _ _ _ us hl => match us, hl with | [_, _], _ => rfl
  have F5 := fun_mk (st := s_law_sound) l5 c5 k5
  have b5 := F5.binds (ps := ["_law_well_here", "_law_most"]) fun _ _ _ _ _ _ us hl => match us, hl with | [_, _], _ => rfl
  have F6 := fun_mk (st := s_law_counted) l6 c6 k6
  have b6 := F6.binds (ps := ["_law_laid_here", "_law_events"]) fun _ _ _ _ _ _ us hl => match us, hl with | [_, _], _ => rfl
  have F7 := fun_mk (st := s_law_batch) l7 c7 k7
  have b7 := F7.binds (ps := ["_law_well_here", "_law_often", "_law_most"]) fun _ _ _ _ _ _ us hl => match us, hl with | [_, _, _], _ => rfl
  have F8 := fun_mk (st := s_law_history) l8 c8 k8
  have b8 := F8.binds (ps := ["_law_well_here", "_law_often"]) fun _ _ _ _ _ _ us hl => match us, hl with | [_, _], _ => rfl
  have F9 := fun_mk (st := s_law_laid) l9 c9 k9
  have b9 := F9.binds (ps := ["_law_thing"]) fun _ _ _ _ _ _ us hl => match us, hl with | [_], _ => rfl
  have F10 := fun_mk (st := s_told_slots) l10 c10 k10
  have b10 := F10.binds (ps := ["disk"]) fun _ _ _ _ _ _ us hl => match us, hl with | [_], _ => rfl
  have F11 := fun_mk (st := s_is_whole) l11 c11 k11
  have b11 := F11.binds (ps := ["value"]) fun _ _ _ _ _ _ us hl => match us, hl with | [_], _ => rfl
  have F12 := fun_mk (st := s_is_between) l12 c12 k12
  have b12 := F12.binds (ps := ["value", "low", "high"]) fun _ _ _ _ _ _ us hl => match us, hl with | [_, _, _], _ => rfl
  have F13 := fun_mk (st := s_are_named) l13 c13 k13
  have b13 := F13.binds (ps := ["places", "many"]) fun _ _ _ _ _ _ us hl => match us, hl with | [_, _], _ => rfl
  have F14 := fun_mk (st := s_are_numbers) l14 c14 k14
  have b14 := F14.binds (ps := ["value", "least", "most"]) fun _ _ _ _ _ _ us hl => match us, hl with | [_, _, _], _ => rfl
  have F15 := fun_mk (st := s_is_block_by) l15 c15 k15
  have b15 := F15.binds (ps := ["value"]) fun _ _ _ _ _ _ us hl => match us, hl with | [_], _ => rfl
  have F16 := fun_mk (st := s_is_disk_by) l16 c16 k16
  have b16 := F16.binds (ps := ["value"]) fun _ _ _ _ _ _ us hl => match us, hl with | [_], _ => rfl
  have F17 := fun_mk (st := s_is_head) l17 c17 k17
  have b17 := F17.binds (ps := ["value"]) fun _ _ _ _ _ _ us hl => match us, hl with | [_], _ => rfl
  have F18 := fun_mk (st := s_is_sound_by) l18 c18 k18
  have b18 := F18.binds (ps := ["value"]) fun _ _ _ _ _ _ us hl => match us, hl with | [_], _ => rfl
  have F19 := fun_mk (st := s_check_sound) l19 c19 k19
  have b19 := F19.binds (ps := ["value"]) fun _ _ _ _ _ _ us hl => match us, hl with | [_], _ => rfl
  have F20 := fun_mk (st := s_is_batched) l20 c20 k20
  have b20 := F20.binds (ps := ["value"]) fun _ _ _ _ _ _ us hl => match us, hl with | [_], _ => rfl
  have F21 := fun_mk (st := s_is_batch_by) l21 c21 k21
  have b21 := F21.binds (ps := ["value", "many"]) fun _ _ _ _ _ _ us hl => match us, hl with | [_, _], _ => rfl
  have F22 := fun_mk (st := s_is_cut) l22 c22 k22
  have b22 := F22.binds (ps := ["count", "torn"]) fun _ _ _ _ _ _ us hl => match us, hl with | [_, _], _ => rfl
  have F23 := fun_mk (st := s_is_disk_event) l23 c23 k23
  have b23 := F23.binds (ps := ["value", "many"]) fun _ _ _ _ _ _ us hl => match us, hl with | [_, _], _ => rfl
  have F24 := fun_mk (st := s_is_history_by) l24 c24 k24
  have b24 := F24.binds (ps := ["value", "many"]) fun _ _ _ _ _ _ us hl => match us, hl with | [_, _], _ => rfl
  have F25 := fun_mk (st := s_check_history) l25 c25 k25
  have b25 := F25.binds (ps := ["value", "many"]) fun _ _ _ _ _ _ us hl => match us, hl with | [_, _], _ => rfl
  have F26 := fun_mk (st := s_run_by) l26 c26 k26
  have b26 := F26.binds (ps := ["disk", "writes", "count", "torn"]) fun _ _ _ _ _ _ us hl => match us, hl with | [_, _, _, _], _ => rfl
  have F27 := fun_mk (st := s_disk_mending_by) l27 c27 k27
  have b27 := F27.binds (ps := ["disk"]) fun _ _ _ _ _ _ us hl => match us, hl with | [_], _ => rfl
  have F28 := fun_mk (st := s_mended_disk_by) l28 c28 k28
  have b28 := F28.binds (ps := ["disk"]) fun _ _ _ _ _ _ us hl => match us, hl with | [_], _ => rfl
  have F29 := fun_mk (st := s_steps_by) l29 c29 k29
  have b29 := F29.binds (ps := ["batch"]) fun _ _ _ _ _ _ us hl => match us, hl with | [_], _ => rfl
  have F30 := fun_mk (st := s_after_disk_event) l30 c30 k30
  have b30 := F30.binds (ps := ["disk", "event"]) fun _ _ _ _ _ _ us hl => match us, hl with | [_, _], _ => rfl
  have F31 := fun_mk (st := s_after_history_by) l31 c31 k31
  have b31 := F31.binds (ps := ["disk", "history"]) fun _ _ _ _ _ _ us hl => match us, hl with | [_, _], _ => rfl
  have F32 := fun_mk (st := s_after_history) l32 c32 k32
  have b32 := F32.binds (ps := ["disk", "history"]) fun _ _ _ _ _ _ us hl => match us, hl with | [_, _], _ => rfl
  have F33 := fun_mk (st := s_contents_by) l33 c33 k33
  have b33 := F33.binds (ps := ["disk"]) fun _ _ _ _ _ _ us hl => match us, hl with | [_], _ => rfl
  have F34 := fun_mk (st := s_contents) l34 c34 k34
  have b34 := F34.binds (ps := ["disk"]) fun _ _ _ _ _ _ us hl => match us, hl with | [_], _ => rfl
  have F35 := fun_mk (st := s_check_contents) l35 c35 k35
  have b35 := F35.binds (ps := ["value"]) fun _ _ _ _ _ _ us hl => match us, hl with | [_], _ => rfl
  have F36 := fun_mk (st := s_told_contents_by) l36 c36 k36
  have b36 := F36.binds (ps := ["told", "history"]) fun _ _ _ _ _ _ us hl => match us, hl with | [_, _], _ => rfl
  have F37 := fun_mk (st := s_told_contents) l37 c37 k37
  have b37 := F37.binds (ps := ["told", "history"]) fun _ _ _ _ _ _ us hl => match us, hl with | [_, _], _ => rfl
  have F38 := fun_mk (st := s_is_sound) l38 c38 k38
  have b38 := F38.binds (ps := ["value"]) fun _ _ _ _ _ _ us hl => match us, hl with | [_], _ => rfl
  have F39 := fun_mk (st := s_law_mending) l39 c39 k39
  have b39 := F39.binds (ps := ["_law_thing"]) fun _ _ _ _ _ _ us hl => match us, hl with | [_], _ => rfl
  have F40 := fun_mk (st := s_law_run) l40 c40 k40
  have b40 := F40.binds (ps := ["_law_thing", "_law_some", "_law_often", "_law_is_torn"]) fun _ _ _ _ _ _ us hl => match us, hl with | [_, _, _, _], _ => rfl
  have F41 := fun_mk (st := s_law_steps) l41 c41 k41
  have b41 := F41.binds (ps := ["_law_some"]) fun _ _ _ _ _ _ us hl => match us, hl with | [_], _ => rfl
  have F42 := fun_mk (st := s_law_after) l42 c42 k42
  have b42 := F42.binds (ps := ["_law_thing", "_law_events"]) fun _ _ _ _ _ _ us hl => match us, hl with | [_, _], _ => rfl
  have F43 := fun_mk (st := s_law_right) l43 c43 k43
  have b43 := F43.binds (ps := ["_law_well_here"]) fun _ _ _ _ _ _ us hl => match us, hl with | [_], _ => rfl
  have F44 := fun_mk (st := s_law_well) l44 c44 k44
  have b44 := F44.binds (ps := ["_law_script", "_law_turn"]) fun _ _ _ _ _ _ us hl => match us, hl with | [_, _], _ => rfl
  have F45 := fun_mk (st := s_law) l45 c45 k45
  have b45 := F45.binds (ps := ["_law_script"]) fun _ _ _ _ _ _ us hl => match us, hl with | [_], _ => rfl
  refine ⟨PySem.W.fnOf "law" "law" (defArgs s_law) (defBody s_law) (defScope s_law) .none kV45 dc45 pm45 an45 cd45 ct45, fun s v => .of_eq rfl, fun base _ _ => ?_⟩
  have R0 : FnG l.prog wd K mg base 1 f0 _ ["_law_well_here", "_law_limit"] m_law_draw := ok_law_draw F0 bl 
  have R1 : FnG l.prog wd K mg base 2 f1 _ ["_law_well_here", "_law_some", "_law_often"] m_law_unlike := ok_law_unlike F1 bl (⟨1, by decide, _, _, _, R0, PySem.W.mg_of X G a0, k0, b0, rfl, fun _ _ _ z => nomatch z⟩)
  have R2 : FnG l.prog wd K mg base 2 f2 _ ["_law_well_here", "_law_some"] m_law_any_of := ok_law_any_of F2 bl (⟨1, by decide, _, _, _, R0, PySem.W.mg_of X G a0, k0, b0, rfl, fun _ _ _ z => nomatch z⟩)
  have R3 : FnG l.prog wd K mg base 3 f3 _ ["_law_well_here", "_law_longest"] m_law_numbers := ok_law_numbers F3 bl (⟨2, by decide, _, _, _, R2, PySem.W.mg_of X G a2, k2, b2, rfl, fun _ _ _ z => nomatch z⟩) (⟨1, by decide, _, _, _, R0, PySem.W.mg_of X G a0, k0, b0, rfl, fun _ _ _ z => nomatch z⟩)
  have R4 : FnG l.prog wd K mg base 4 f4 _ ["_law_well_here", "_law_most"] m_law_quiet := ok_law_quiet F4 bl (⟨3, by decide, _, _, _, R3, PySem.W.mg_of X G a3, k3, b3, rfl, fun _ _ _ z => nomatch z⟩) (⟨1, by decide, _, _, _, R0, PySem.W.mg_of X G a0, k0, b0, rfl, fun _ _ _ z => nomatch z⟩)
  have R5 : FnG l.prog wd K mg base 5 f5 _ ["_law_well_here", "_law_most"] m_law_sound := ok_law_sound F5 bl (⟨4, by decide, _, _, _, R4, PySem.W.mg_of X G a4, k4, b4, rfl, fun _ _ _ z => nomatch z⟩) (⟨1, by decide, _, _, _, R0, PySem.W.mg_of X G a0, k0, b0, rfl, fun _ _ _ z => nomatch z⟩) (⟨2, by decide, _, _, _, R1, PySem.W.mg_of X G a1, k1, b1, rfl, fun _ _ _ z => nomatch z⟩) (⟨3, by decide, _, _, _, R3, PySem.W.mg_of X G a3, k3, b3, rfl, fun _ _ _ z => nomatch z⟩)
  have R6 : FnG l.prog wd K mg base 1 f6 _ ["_law_laid_here", "_law_events"] m_law_counted := ok_law_counted F6 bl 
  have R7 : FnG l.prog wd K mg base 4 f7 _ ["_law_well_here", "_law_often", "_law_most"] m_law_batch := ok_law_batch F7 bl (⟨2, by decide, _, _, _, R1, PySem.W.mg_of X G a1, k1, b1, rfl, fun _ _ _ z => nomatch z⟩) (⟨1, by decide, _, _, _, R0, PySem.W.mg_of X G a0, k0, b0, rfl, fun _ _ _ z => nomatch z⟩) (⟨3, by decide, _, _, _, R3, PySem.W.mg_of X G a3, k3, b3, rfl, fun _ _ _ z => nomatch z⟩)
  have R8 : FnG l.prog wd K mg base 5 f8 _ ["_law_well_here", "_law_often"] m_law_history := ok_law_history F8 bl (⟨1, by decide, _, _, _, R0, PySem.W.mg_of X G a0, k0, b0, rfl, fun _ _ _ z => nomatch z⟩) (⟨4, by decide, _, _, _, R7, PySem.W.mg_of X G a7, k7, b7, rfl, fun _ _ _ z => nomatch z⟩)
  have R9 : FnG l.prog wd K mg base 1 f9 _ ["_law_thing"] m_law_laid := ok_law_laid F9 bl 
  have R10 : FnG l.prog wd K mg base 1 f10 _ ["disk"] m_told_slots := ok_told_slots F10 bl 
  have R11 : FnG l.prog wd K mg base 1 f11 _ ["value"] m_is_whole := ok_is_whole F11 bl 
  have R12 : FnG l.prog wd K mg base 2 f12 _ ["value", "low", "high"] m_is_between := ok_is_between F12 bl (⟨1, by decide, _, _, _, R11, PySem.W.mg_of X G a11, k11, b11, rfl, fun _ _ _ z => nomatch z⟩)
  have R13 : FnG l.prog wd K mg base 3 f13 _ ["places", "many"] m_are_named := ok_are_named F13 bl (⟨2, by decide, _, _, _, R12, PySem.W.mg_of X G a12, k12, b12, rfl, fun _ _ _ z => nomatch z⟩) gg6
  have R14 : FnG l.prog wd K mg base 3 f14 _ ["value", "least", "most"] m_are_numbers := ok_are_numbers F14 bl (⟨2, by decide, _, _, _, R12, PySem.W.mg_of X G a12, k12, b12, rfl, fun _ _ _ z => nomatch z⟩) (⟨1, by decide, _, _, _, R11, PySem.W.mg_of X G a11, k11, b11, rfl, fun _ _ _ z => nomatch z⟩)
  have R15 : FnG l.prog wd K mg base 4 f15 _ ["value"] m_is_block_by := ok_is_block_by F15 bl (⟨3, by decide, _, _, _, R14, PySem.W.mg_of X G a14, k14, b14, rfl, fun _ _ _ z => nomatch z⟩) gg4
  have R16 : FnG l.prog wd K mg base 5 f16 _ ["value"] m_is_disk_by := ok_is_disk_by F16 bl (⟨2, by decide, _, _, _, R12, PySem.W.mg_of X G a12, k12, b12, rfl, fun _ _ _ z => nomatch z⟩) (⟨4, by decide, _, _, _, R15, PySem.W.mg_of X G a15, k15, b15, rfl, fun _ _ _ z => nomatch z⟩) gg0 gg5
  have R17 : FnG l.prog wd K mg base 3 f17 _ ["value"] m_is_head := ok_is_head F17 bl (⟨2, by decide, _, _, _, R12, PySem.W.mg_of X G a12, k12, b12, rfl, fun _ _ _ z => nomatch z⟩) gg7
  have R18 : FnG l.prog wd K mg base 6 f18 _ ["value"] m_is_sound_by := ok_is_sound_by F18 bl (⟨3, by decide, _, _, _, R17, PySem.W.mg_of X G a17, k17, b17, rfl, fun _ _ _ z => nomatch z⟩) (⟨5, by decide, _, _, _, R16, PySem.W.mg_of X G a16, k16, b16, rfl, fun _ _ _ z => nomatch z⟩) (⟨1, by decide, _, _, _, R10, PySem.W.mg_of X G a10, k10, b10, rfl, fun _ _ _ z => nomatch z⟩) (⟨3, by decide, _, _, _, R13, PySem.W.mg_of X G a13, k13, b13, rfl, fun _ _ _ z => nomatch z⟩) gg6
  have R19 : FnG l.prog wd K mg base 7 f19 _ ["value"] m_check_sound := ok_check_sound F19 bl (⟨6, by decide, _, _, _, R18, PySem.W.mg_of X G a18, k18, b18, rfl, fun _ _ _ z => nomatch z⟩)
  have R20 : FnG l.prog wd K mg base 4 f20 _ ["value"] m_is_batched := ok_is_batched F20 bl (⟨3, by decide, _, _, _, R14, PySem.W.mg_of X G a14, k14, b14, rfl, fun _ _ _ z => nomatch z⟩) gg3
  have R21 : FnG l.prog wd K mg base 5 f21 _ ["value", "many"] m_is_batch_by := ok_is_batch_by F21 bl (⟨2, by decide, _, _, _, R12, PySem.W.mg_of X G a12, k12, b12, rfl, fun _ _ _ z => nomatch z⟩) (⟨4, by decide, _, _, _, R20, PySem.W.mg_of X G a20, k20, b20, rfl, fun _ _ _ z => nomatch z⟩) (⟨3, by decide, _, _, _, R13, PySem.W.mg_of X G a13, k13, b13, rfl, fun _ _ _ z => nomatch z⟩) gg7 gg6
  have R22 : FnG l.prog wd K mg base 2 f22 _ ["count", "torn"] m_is_cut := ok_is_cut F22 bl (⟨1, by decide, _, _, _, R11, PySem.W.mg_of X G a11, k11, b11, rfl, fun _ _ _ z => nomatch z⟩)
  have R23 : FnG l.prog wd K mg base 6 f23 _ ["value", "many"] m_is_disk_event := ok_is_disk_event F23 bl (⟨2, by decide, _, _, _, R22, PySem.W.mg_of X G a22, k22, b22, rfl, fun _ _ _ z => nomatch z⟩) (⟨5, by decide, _, _, _, R21, PySem.W.mg_of X G a21, k21, b21, rfl, fun _ _ _ z => nomatch z⟩)
  have R24 : FnG l.prog wd K mg base 7 f24 _ ["value", "many"] m_is_history_by := ok_is_history_by F24 bl (⟨6, by decide, _, _, _, R23, PySem.W.mg_of X G a23, k23, b23, rfl, fun _ _ _ z => nomatch z⟩) gg1
  have R25 : FnG l.prog wd K mg base 8 f25 _ ["value", "many"] m_check_history := ok_check_history F25 bl (⟨7, by decide, _, _, _, R24, PySem.W.mg_of X G a24, k24, b24, rfl, fun _ _ _ z => nomatch z⟩)
  have R26 : FnG l.prog wd K mg base 1 f26 _ ["disk", "writes", "count", "torn"] m_run_by := ok_run_by F26 bl 
  have R27 : FnG l.prog wd K mg base 2 f27 _ ["disk"] m_disk_mending_by := ok_disk_mending_by F27 bl (⟨1, by decide, _, _, _, R10, PySem.W.mg_of X G a10, k10, b10, rfl, fun _ _ _ z => nomatch z⟩)
  have R28 : FnG l.prog wd K mg base 3 f28 _ ["disk"] m_mended_disk_by := ok_mended_disk_by F28 bl (⟨2, by decide, _, _, _, R27, PySem.W.mg_of X G a27, k27, b27, rfl, fun _ _ _ z => nomatch z⟩) (⟨1, by decide, _, _, _, R26, PySem.W.mg_of X G a26, k26, b26, rfl, fun _ _ _ z => nomatch z⟩)
  have R29 : FnG l.prog wd K mg base 1 f29 _ ["batch"] m_steps_by := ok_steps_by F29 bl 
  have R30 : FnG l.prog wd K mg base 4 f30 _ ["disk", "event"] m_after_disk_event := ok_after_disk_event F30 bl (⟨1, by decide, _, _, _, R26, PySem.W.mg_of X G a26, k26, b26, rfl, fun _ _ _ z => nomatch z⟩) (⟨2, by decide, _, _, _, R27, PySem.W.mg_of X G a27, k27, b27, rfl, fun _ _ _ z => nomatch z⟩) (⟨3, by decide, _, _, _, R28, PySem.W.mg_of X G a28, k28, b28, rfl, fun _ _ _ z => nomatch z⟩) (⟨1, by decide, _, _, _, R29, PySem.W.mg_of X G a29, k29, b29, rfl, fun _ _ _ z => nomatch z⟩)
  have R31 : FnG l.prog wd K mg base 5 f31 _ ["disk", "history"] m_after_history_by := ok_after_history_by F31 bl (⟨4, by decide, _, _, _, R30, PySem.W.mg_of X G a30, k30, b30, rfl, fun _ _ _ z => nomatch z⟩)
  have R32 : FnG l.prog wd K mg base 9 f32 _ ["disk", "history"] m_after_history := ok_after_history F32 bl (⟨7, by decide, _, _, _, R19, PySem.W.mg_of X G a19, k19, b19, rfl, fun _ _ _ z => nomatch z⟩) (⟨8, by decide, _, _, _, R25, PySem.W.mg_of X G a25, k25, b25, rfl, fun _ _ _ z => nomatch z⟩) (⟨5, by decide, _, _, _, R31, PySem.W.mg_of X G a31, k31, b31, rfl, fun _ _ _ z => nomatch z⟩)
  have R33 : FnG l.prog wd K mg base 2 f33 _ ["disk"] m_contents_by := ok_contents_by F33 bl (⟨1, by decide, _, _, _, R10, PySem.W.mg_of X G a10, k10, b10, rfl, fun _ _ _ z => nomatch z⟩) gg6
  have R34 : FnG l.prog wd K mg base 8 f34 _ ["disk"] m_contents := ok_contents F34 bl (⟨7, by decide, _, _, _, R19, PySem.W.mg_of X G a19, k19, b19, rfl, fun _ _ _ z => nomatch z⟩) (⟨2, by decide, _, _, _, R33, PySem.W.mg_of X G a33, k33, b33, rfl, fun _ _ _ z => nomatch z⟩)
  have R35 : FnG l.prog wd K mg base 4 f35 _ ["value"] m_check_contents := ok_check_contents F35 bl (⟨2, by decide, _, _, _, R12, PySem.W.mg_of X G a12, k12, b12, rfl, fun _ _ _ z => nomatch z⟩) (⟨3, by decide, _, _, _, R14, PySem.W.mg_of X G a14, k14, b14, rfl, fun _ _ _ z => nomatch z⟩) gg2 gg4
  have R36 : FnG l.prog wd K mg base 1 f36 _ ["told", "history"] m_told_contents_by := ok_told_contents_by F36 bl gg6
  have R37 : FnG l.prog wd K mg base 9 f37 _ ["told", "history"] m_told_contents := ok_told_contents F37 bl (⟨4, by decide, _, _, _, R35, PySem.W.mg_of X G a35, k35, b35, rfl, fun _ _ _ z => nomatch z⟩) (⟨8, by decide, _, _, _, R25, PySem.W.mg_of X G a25, k25, b25, rfl, fun _ _ _ z => nomatch z⟩) (⟨1, by decide, _, _, _, R36, PySem.W.mg_of X G a36, k36, b36, rfl, fun _ _ _ z => nomatch z⟩) gg6
  have R38 : FnG l.prog wd K mg base 7 f38 _ ["value"] m_is_sound := ok_is_sound F38 bl (⟨6, by decide, _, _, _, R18, PySem.W.mg_of X G a18, k18, b18, rfl, fun _ _ _ z => nomatch z⟩)
  have R39 : FnG l.prog wd K mg base 1 f39 _ ["_law_thing"] m_law_mending := ok_law_mending F39 bl 
  have R40 : FnG l.prog wd K mg base 1 f40 _ ["_law_thing", "_law_some", "_law_often", "_law_is_torn"] m_law_run := ok_law_run F40 bl 
  have R41 : FnG l.prog wd K mg base 1 f41 _ ["_law_some"] m_law_steps := ok_law_steps F41 bl 
  have R42 : FnG l.prog wd K mg base 2 f42 _ ["_law_thing", "_law_events"] m_law_after := ok_law_after F42 bl (⟨1, by decide, _, _, _, R39, PySem.W.mg_of X G a39, k39, b39, rfl, fun _ _ _ z => nomatch z⟩) (⟨1, by decide, _, _, _, R40, PySem.W.mg_of X G a40, k40, b40, rfl, fun _ _ _ z => nomatch z⟩) (⟨1, by decide, _, _, _, R41, PySem.W.mg_of X G a41, k41, b41, rfl, fun _ _ _ z => nomatch z⟩)
  have R43 : FnG l.prog wd K mg base 10 f43 _ ["_law_well_here"] m_law_right := ok_law_right F43 bl (⟨5, by decide, _, _, _, R5, PySem.W.mg_of X G a5, k5, b5, rfl, fun m ks kw z => by
      simp only [t_law_right, List.mem_cons, Prod.mk.injEq, List.mem_nil_iff, or_false] at z
      rcases z with ⟨zk, rfl, rfl, rfl⟩ | ⟨zk, rfl, rfl, rfl⟩
      · exact absurd zk (by decide)
      · exact absurd zk (by decide)
⟩) (⟨1, by decide, _, _, _, R0, PySem.W.mg_of X G a0, k0, b0, rfl, fun m ks kw z => by
      simp only [t_law_right, List.mem_cons, Prod.mk.injEq, List.mem_nil_iff, or_false] at z
      rcases z with ⟨zk, rfl, rfl, rfl⟩ | ⟨zk, rfl, rfl, rfl⟩
      · exact absurd zk (by decide)
      · exact absurd zk (by decide)
⟩) (⟨5, by decide, _, _, _, R8, PySem.W.mg_of X G a8, k8, b8, rfl, fun m ks kw z => by
      simp only [t_law_right, List.mem_cons, Prod.mk.injEq, List.mem_nil_iff, or_false] at z
      rcases z with ⟨zk, rfl, rfl, rfl⟩ | ⟨zk, rfl, rfl, rfl⟩
      · exact absurd zk (by decide)
      · exact absurd zk (by decide)
⟩) (⟨1, by decide, _, _, _, R9, PySem.W.mg_of X G a9, k9, b9, rfl, fun m ks kw z => by
      simp only [t_law_right, List.mem_cons, Prod.mk.injEq, List.mem_nil_iff, or_false] at z
      rcases z with ⟨zk, rfl, rfl, rfl⟩ | ⟨zk, rfl, rfl, rfl⟩
      · exact absurd zk (by decide)
      · exact absurd zk (by decide)
⟩) (⟨9, by decide, _, _, _, R32, PySem.W.mg_of X G a32, k32, b32, rfl, fun m ks kw z => by
      simp only [t_law_right, List.mem_cons, Prod.mk.injEq, List.mem_nil_iff, or_false] at z
      rcases z with ⟨zk, rfl, rfl, rfl⟩ | ⟨zk, rfl, rfl, rfl⟩
      · exact ⟨rfl, fun s us ws h1 h2 => match us, ws, h1, h2 with | [], [_, _], _, _ => .of_eq rfl⟩
      · exact absurd zk (by decide)
⟩) (⟨2, by decide, _, _, _, R42, PySem.W.mg_of X G a42, k42, b42, rfl, fun m ks kw z => by
      simp only [t_law_right, List.mem_cons, Prod.mk.injEq, List.mem_nil_iff, or_false] at z
      rcases z with ⟨zk, rfl, rfl, rfl⟩ | ⟨zk, rfl, rfl, rfl⟩
      · exact absurd zk (by decide)
      · exact absurd zk (by decide)
⟩) (⟨1, by decide, _, _, _, R6, PySem.W.mg_of X G a6, k6, b6, rfl, fun m ks kw z => by
      simp only [t_law_right, List.mem_cons, Prod.mk.injEq, List.mem_nil_iff, or_false] at z
      rcases z with ⟨zk, rfl, rfl, rfl⟩ | ⟨zk, rfl, rfl, rfl⟩
      · exact absurd zk (by decide)
      · exact absurd zk (by decide)
⟩) (⟨9, by decide, _, _, _, R37, PySem.W.mg_of X G a37, k37, b37, rfl, fun m ks kw z => by
      simp only [t_law_right, List.mem_cons, Prod.mk.injEq, List.mem_nil_iff, or_false] at z
      rcases z with ⟨zk, rfl, rfl, rfl⟩ | ⟨zk, rfl, rfl, rfl⟩
      · exact absurd zk (by decide)
      · exact ⟨rfl, fun s us ws h1 h2 => match us, ws, h1, h2 with | [], [_, _], _, _ => .of_eq rfl⟩
⟩) (⟨8, by decide, _, _, _, R34, PySem.W.mg_of X G a34, k34, b34, rfl, fun m ks kw z => by
      simp only [t_law_right, List.mem_cons, Prod.mk.injEq, List.mem_nil_iff, or_false] at z
      rcases z with ⟨zk, rfl, rfl, rfl⟩ | ⟨zk, rfl, rfl, rfl⟩
      · exact absurd zk (by decide)
      · exact absurd zk (by decide)
⟩) (⟨7, by decide, _, _, _, R38, PySem.W.mg_of X G a38, k38, b38, rfl, fun m ks kw z => by
      simp only [t_law_right, List.mem_cons, Prod.mk.injEq, List.mem_nil_iff, or_false] at z
      rcases z with ⟨zk, rfl, rfl, rfl⟩ | ⟨zk, rfl, rfl, rfl⟩
      · exact absurd zk (by decide)
      · exact absurd zk (by decide)
⟩)
  have R44 : FnG l.prog wd K mg base 1 f44 _ ["_law_script", "_law_turn"] m_law_well := ok_law_well F44 bl 
  have R45 : FnG l.prog wd K mg base 11 fa _ ["_law_script"] m_law := ok_law F45 bl (⟨10, by decide, _, _, _, R43, PySem.W.mg_of X G a43, k43, b43, rfl, fun _ _ _ z => nomatch z⟩) (⟨1, by decide, _, _, _, R44, PySem.W.mg_of X G a44, k44, b44, rfl, fun _ _ _ z => nomatch z⟩)
  exact R45
end L23

set_option maxRecDepth 100000
set_option linter.all false
set_option maxHeartbeats 4000000
namespace L23
open Mi PySem
theorem bk_ifF {Φ : Phi} {c : E} {x k : Bk} {s s1 : Sl} {o : Option (Fl × Sl)} (h : ev Φ c s = some (.val (.bool false), s1)) (h3 : bk Φ k s1 = o) : bk Φ (.cons (.ife c x .nil) k) s = o := bk_if (t := false) h h3
theorem eqq_int (a b : Int) : eqqD (.int a) (.int b) = some (decide (a = b)) := by
  have e : eqqD (.int a) (.int b) = if SeqAt.shaped (.int a) = true ∧ SeqAt.shaped (.int b) = true then some (PyData.eqv (.int a) (.int b)) else none := rfl
  rw [e, if_pos ⟨rfl, rfl⟩]
  by_cases h : a = b <;> simp [PyData.eqv, h]
theorem is_whole_int (v : Int) : m_is_whole [.val (.int v)] = some (.val (.bool true), []) := rfl
theorem is_between_int (v l h : Int) : m_is_between [.val (.int v), .val (.int l), .val (.int h)] = some (.val (.bool (decide (l ≤ v) && decide (v ≤ h))), []) := by
  by_cases h1 : l ≤ v <;> simp [m_is_between, b_is_between, p_is_between, is_whole_int, h1, runFn, bk, st, ev_slot, ev_lit, ev_gc, ev_bin, ev_neg, ev_not, ev_and, ev_or, ev_cmp, ev_cmp2, ev_ite, ev_tup, ev_lst, ev_ix, ev_sl, ev_f1, ev_f2, ev_isT, ev_call, ev_callK, evs, evo, evo', evA, callD, argsOf, PArg.arg, ownsOf, putOuts, toB, R.get, R.sto, R.flat, cmpD, ltD, leD, isND, binD, addD, subD, modD, ixD, slD, f1D, f2D, lenD, absD, intD, retR, outsOf, Arg.slot, putP, putPs, evRs, setR, okSet, subR, isOwn, putT, putTs, Lit.d, isTD, isEmp, wipeS, compF, max2D, min2D, dmD, lstD, tupD]
theorem between_yes {v l h : Int} (h1 : l ≤ v) (h2 : v ≤ h) : m_is_between [.val (.int v), .val (.int l), .val (.int h)] = some (.val (.bool true), []) := by
  rw [is_between_int, decide_eq_true h1, decide_eq_true h2]
  rfl
/-! ### all of a walk is right -/
def dB : Bool → D := fun b => .bool b
theorem all_comp {Φ : Phi} {own : List (Str × Nat)} {tg : Tg} {it : It'} {e : E} {s : Sl} {ds : List D} (hI : evI Φ it s = some (ds, s)) (hE : (own.map (·.2)).all (isEmp s) = true) (h : ∀ d ∈ ds, ∃ s', compF tg (fun s => evo' Φ .none s) (fun s => ev Φ e s) d s = some (some (.bool true), s') ∧ wipeS s' (own.map (·.2)) = s) (hl : ds.length ≤ sizeLine) :
    ev Φ (.f1 .all (.comp own tg it .none e)) s = some (.val (.bool true), s) := by
  rw [ev_f1, ev_comp (fun _ => some (.bool true)) hI hE h hl]
  have : ds.filterMap (fun _ => some (PyData.bool true)) = ds.map fun _ => PyData.bool true := by simp
  rw [this]
  simp [R.get, f1D, allD, boolsL_map]
theorem any_comp {Φ : Phi} {own : List (Str × Nat)} {tg : Tg} {it : It'} {e : E} {s : Sl} {ds : List D} (hI : evI Φ it s = some (ds, s)) (hE : (own.map (·.2)).all (isEmp s) = true) (h : ∀ d ∈ ds, ∃ s', compF tg (fun s => evo' Φ .none s) (fun s => ev Φ e s) d s = some (some (.bool false), s') ∧ wipeS s' (own.map (·.2)) = s) (hl : ds.length ≤ sizeLine) :
    ev Φ (.f1 .any (.comp own tg it .none e)) s = some (.val (.bool false), s) := by
  rw [ev_f1, ev_comp (fun _ => some (.bool false)) hI hE h hl]
  have : ds.filterMap (fun _ => some (PyData.bool false)) = ds.map fun _ => PyData.bool false := by simp
  rw [this]
  simp [R.get, f1D, anyD, boolsL_map]
/-! ### blocks -/
abbrev big : Int := 10 ^ 62
/-- numbers from 0 on, up to m -/
def OkI (m : Nat) (xs : List Int) : Prop := (∀ x ∈ xs, 0 ≤ x ∧ x < big) ∧ xs.length ≤ m
abbrev tI (xs : List Int) : D := .tuple (xs.map .int)
def Blk (d : D) : Prop := d = .none ∨ ∃ xs, d = tI xs ∧ OkI 90 xs
theorem are_numbers_ok {m : Nat} {xs : List Int} (h : OkI m xs) (hm : m ≤ 1000) : m_are_numbers [.val (tI xs), .val (.int 0), .val (.int m)] = some (.val (.bool true), []) := by
  have hl := h.2
  have key : ∀ Φ : Phi, Φ.fn 0 [.val (.int xs.length), .val (.int 0), .val (.int m)] = some (.val (.bool true), []) → (∀ x : Int, Φ.fn 1 [.val (.int x)] = some (.val (.bool true), [])) → bk Φ b_are_numbers [.val (tI xs), .val (.int 0), .val (.int m), .emp] = some (.ret (.val (.bool true)), [.val (tI xs), .val (.int 0), .val (.int m), .emp]) := fun Φ e0 e1 => by
    refine bk_ifF (s1 := [.val (tI xs), .val (.int 0), .val (.int m), .emp]) ?_ (bk_ret (r := .val (.bool true)) (all_comp (ds := xs.map .int) rfl rfl (fun d hd => ?_) (by rw [List.length_map]; exact sl_le (by omega))) rfl)
    · simp [e0, ev_slot, ev_lit, ev_gc, ev_bin, ev_neg, ev_not, ev_and, ev_or, ev_cmp, ev_cmp2, ev_ite, ev_tup, ev_lst, ev_ix, ev_sl, ev_f1, ev_f2, ev_isT, ev_call, ev_callK, evs, evo, evo', evA, callD, argsOf, PArg.arg, ownsOf, putOuts, toB, R.get, R.sto, R.flat, cmpD, ltD, leD, isND, binD, addD, subD, modD, ixD, slD, f1D, f2D, lenD, absD, intD, retR, outsOf, Arg.slot, putP, putPs, evRs, setR, okSet, subR, isOwn, putT, putTs, Lit.d, isTD, isEmp, wipeS, compF, max2D, min2D, dmD, lstD, tupD]
    · obtain ⟨x, hx, rfl⟩ := List.mem_map.mp hd
      refine ⟨[.val (tI xs), .val (.int 0), .val (.int m), .val (.int x)], ?_, rfl⟩
      have := (h.1 x hx).1
      simp [e1, this, ev_slot, ev_lit, ev_gc, ev_bin, ev_neg, ev_not, ev_and, ev_or, ev_cmp, ev_cmp2, ev_ite, ev_tup, ev_lst, ev_ix, ev_sl, ev_f1, ev_f2, ev_isT, ev_call, ev_callK, evs, evo, evo', evA, callD, argsOf, PArg.arg, ownsOf, putOuts, toB, R.get, R.sto, R.flat, cmpD, ltD, leD, isND, binD, addD, subD, modD, ixD, slD, f1D, f2D, lenD, absD, intD, retR, outsOf, Arg.slot, putP, putPs, evRs, setR, okSet, subR, isOwn, putT, putTs, Lit.d, isTD, isEmp, wipeS, compF, max2D, min2D, dmD, lstD, tupD]
  exact run_ok (Nat.le_of_ble_eq_true rfl) (key p_are_numbers (by rw [q_are_numbers_0]; exact between_yes (by omega) (by omega)) (by rw [q_are_numbers_1]; exact is_whole_int)) rfl rfl
theorem is_block_ok {d : D} (h : Blk d) : m_is_block_by [.val d] = some (.val (.bool true), []) := by
  rcases h with rfl | ⟨xs, rfl, h⟩
  · rfl
  · have key : ∀ Φ : Phi, Φ.gc 0 = .int 90 → Φ.fn 0 [.val (tI xs), .val (.int 0), .val (.int 90)] = some (.val (.bool true), []) → bk Φ b_is_block_by [.val (tI xs)] = some (.ret (.val (.bool true)), [.val (tI xs)]) := fun Φ g e => by
      simp [b_is_block_by, g, e, isND, bk, st, ev_slot, ev_lit, ev_gc, ev_bin, ev_neg, ev_not, ev_and, ev_or, ev_cmp, ev_cmp2, ev_ite, ev_tup, ev_lst, ev_ix, ev_sl, ev_f1, ev_f2, ev_isT, ev_call, ev_callK, evs, evo, evo', evA, callD, argsOf, PArg.arg, ownsOf, putOuts, toB, R.get, R.sto, R.flat, cmpD, ltD, leD, isND, binD, addD, subD, modD, ixD, slD, f1D, f2D, lenD, absD, intD, retR, outsOf, Arg.slot, putP, putPs, evRs, setR, okSet, subR, isOwn, putT, putTs, Lit.d, isTD, isEmp, wipeS, compF, max2D, min2D, dmD, lstD, tupD]
    exact run_ok (Nat.le_of_ble_eq_true rfl) (key p_is_block_by rfl (by rw [q_is_block_by_0]; exact are_numbers_ok (m := 90) h (by decide))) rfl rfl
structure Disk (ds : List D) : Prop where
  a : 11 ≤ ds.length
  b : ds.length ≤ 70
  k : ∀ d ∈ ds, Blk d
theorem is_disk_by_ok {ds : List D} (h : Disk ds) : m_is_disk_by [.val (.tuple ds)] = some (.val (.bool true), []) := by
  have ha := h.a
  have hb := h.b
  have key : ∀ Φ : Phi, Φ.gc 0 = .int 11 → Φ.gc 1 = .int 70 → Φ.fn 0 [.val (.int ds.length), .val (.int 11), .val (.int 70)] = some (.val (.bool true), []) → (∀ d, Blk d → Φ.fn 1 [.val d] = some (.val (.bool true), [])) → bk Φ b_is_disk_by [.val (.tuple ds), .emp] = some (.ret (.val (.bool true)), [.val (.tuple ds), .emp]) := fun Φ g0 g1 e0 e1 => by
    refine bk_ifF (s1 := [.val (.tuple ds), .emp]) ?_ (bk_ret (r := .val (.bool true)) (all_comp (ds := ds) rfl rfl (fun d hd => ?_) (sl_le (by omega))) rfl)
    · simp [g0, g1, e0, ev_slot, ev_lit, ev_gc, ev_bin, ev_neg, ev_not, ev_and, ev_or, ev_cmp, ev_cmp2, ev_ite, ev_tup, ev_lst, ev_ix, ev_sl, ev_f1, ev_f2, ev_isT, ev_call, ev_callK, evs, evo, evo', evA, callD, argsOf, PArg.arg, ownsOf, putOuts, toB, R.get, R.sto, R.flat, cmpD, ltD, leD, isND, binD, addD, subD, modD, ixD, slD, f1D, f2D, lenD, absD, intD, retR, outsOf, Arg.slot, putP, putPs, evRs, setR, okSet, subR, isOwn, putT, putTs, Lit.d, isTD, isEmp, wipeS, compF, max2D, min2D, dmD, lstD, tupD]
    · refine ⟨[.val (.tuple ds), .val d], ?_, rfl⟩
      simp [e1 d (h.k d hd), ev_slot, ev_lit, ev_gc, ev_bin, ev_neg, ev_not, ev_and, ev_or, ev_cmp, ev_cmp2, ev_ite, ev_tup, ev_lst, ev_ix, ev_sl, ev_f1, ev_f2, ev_isT, ev_call, ev_callK, evs, evo, evo', evA, callD, argsOf, PArg.arg, ownsOf, putOuts, toB, R.get, R.sto, R.flat, cmpD, ltD, leD, isND, binD, addD, subD, modD, ixD, slD, f1D, f2D, lenD, absD, intD, retR, outsOf, Arg.slot, putP, putPs, evRs, setR, okSet, subR, isOwn, putT, putTs, Lit.d, isTD, isEmp, wipeS, compF, max2D, min2D, dmD, lstD, tupD]
  exact run_ok (Nat.le_of_ble_eq_true rfl) (key p_is_disk_by rfl rfl (by rw [q_is_disk_by_0]; exact between_yes (by omega) (by omega)) (by rw [q_is_disk_by_1]; exact fun d hd => is_block_ok hd)) rfl rfl
/-! ### writes -/
/-- a write: a place and a block -/
abbrev wD (w : Nat × List Int) : D := .tuple [.int w.1, tI w.2]
def OkW (places : Nat) (w : Nat × List Int) : Prop := w.1 < places ∧ OkI 90 w.2
/-- the writes one by one -/
def setAll (ds : List D) (ws : List (Nat × List Int)) : List D := ws.foldl (fun ds w => ds.set w.1 (tI w.2)) ds
theorem setAll_len (ds : List D) (ws : List (Nat × List Int)) : (setAll ds ws).length = ds.length := by
  unfold setAll
  induction ws generalizing ds with
  | nil => rfl
  | cons w ws ih =>
    rw [List.foldl_cons, ih, List.length_set]
def runF (ds : List D) (ws : List (Nat × List Int)) (c : Nat) (t : Bool) : List D :=
  match t, ws[c]? with
  | true, some w => (setAll ds (ws.take c)).set w.1 .none
  | _, _ => setAll ds (ws.take c)
theorem cut_to {α : Type} (xs : List α) (s : Nat) : cutD xs none (some (s : Int)) = xs.take s := by
  unfold cutD
  rw [HT.sIx_nat, HT.sIx_none, Nat.sub_zero, List.drop_zero]
  by_cases h : s ≤ xs.length
  · rw [Nat.min_eq_left h]
  · rw [Nat.min_eq_right (by omega), List.take_of_length_le (Nat.le_refl _), List.take_of_length_le (by omega)]
theorem cut_at {α : Type} (xs : List α) (a : Nat) : cutD xs (some (a : Int)) none = xs.drop a := by
  unfold cutD
  rw [HT.sIx_nat, HT.sIx_none]
  by_cases h : a ≤ xs.length
  · rw [Nat.min_eq_left h, List.take_of_length_le (by rw [List.length_drop]; omega)]
  · rw [Nat.min_eq_right (by omega), Nat.sub_self, List.take_zero, List.drop_eq_nil_of_le (by omega)]
theorem cut_from {α : Type} (xs : List α) (a s : Nat) : cutD xs (some (a : Int)) (some ((a : Int) + (s : Int))) = (xs.drop a).take s := by
  unfold cutD
  rw [show (a : Int) + (s : Int) = ((a + s : Nat) : Int) by omega, HT.sIx_nat, HT.sIx_nat]
  by_cases h : a ≤ xs.length
  · rw [Nat.min_eq_left h]
    by_cases h2 : a + s ≤ xs.length
    · rw [Nat.min_eq_left h2, Nat.add_sub_cancel_left]
    · rw [Nat.min_eq_right (by omega), List.take_of_length_le (by rw [List.length_drop]; omega), List.take_of_length_le (by rw [List.length_drop]; omega)]
  · rw [Nat.min_eq_right (by omega), Nat.min_eq_right (by omega), List.drop_eq_nil_of_le (Nat.le_refl _), List.drop_eq_nil_of_le (by omega)]
    simp
theorem ixN_nat {n i : Nat} (h : i < n) : L2.ixN n (i : Int) = some i := by
  unfold L2.ixN
  rw [if_pos (by omega), if_pos (by omega)]
  rfl
theorem set_loop {Φ : Phi} {a b c t : D} : ∀ (ws : List (Nat × List Int)) (ds : List D) (y y' : Mi.Slot), (∀ w ∈ ws, w.1 < ds.length) → (∀ o zs, y ≠ .own o zs) → (∀ o zs, y' ≠ .own o zs) →
    ∃ z z', (∀ o zs, z ≠ .own o zs) ∧ (∀ o zs, z' ≠ .own o zs) ∧ forL (fun d s => putT (.tup (.cons (.name 5) (.cons (.name 6) (.nil)))) d s) (fun s => bk Φ (.cons (.asg (.sub 4 (.slot 5)) (.slot 6)) (.nil)) s) (ws.map wD) [.val a, .val b, .val c, .val t, .own false ds, y, y'] = some (.nx, [.val a, .val b, .val c, .val t, .own false (setAll ds ws), z, z'])
  | [], ds, y, y', _, hy, hy' => ⟨y, y', hy, hy', rfl⟩
  | w :: ws, ds, y, y', h, hy, hy' => by
    have hw := h w List.mem_cons_self
    obtain ⟨z, z', h1, h2, e⟩ := set_loop (Φ := Φ) (a := a) (b := b) (c := c) (t := t) ws (ds.set w.1 (tI w.2)) (.val (.int w.1)) (.val (tI w.2)) (fun v hv => by rw [List.length_set]; exact h v (List.mem_cons_of_mem _ hv)) nofun nofun
    refine ⟨z, z', h1, h2, ?_⟩
    have e1 : putT (.tup (.cons (.name 5) (.cons (.name 6) (.nil)))) (wD w) [.val a, .val b, .val c, .val t, .own false ds, y, y'] = some [.val a, .val b, .val c, .val t, .own false ds, .val (.int w.1), .val (tI w.2)] := by
      cases y <;> cases y' <;> first | rfl | exact absurd rfl (hy _ _) | exact absurd rfl (hy' _ _)
    have e2 : bk Φ (.cons (.asg (.sub 4 (.slot 5)) (.slot 6)) (.nil)) [.val a, .val b, .val c, .val t, .own false ds, .val (.int w.1), .val (tI w.2)] = some (.nx, [.val a, .val b, .val c, .val t, .own false (ds.set w.1 (tI w.2)), .val (.int w.1), .val (tI w.2)]) := by
      have := ixN_nat hw
      generalize tI w.2 = bl
      simp [this, bk, st, ev_slot, ev_lit, ev_gc, ev_bin, ev_neg, ev_not, ev_and, ev_or, ev_cmp, ev_cmp2, ev_ite, ev_tup, ev_lst, ev_ix, ev_sl, ev_f1, ev_f2, ev_isT, ev_call, ev_callK, evs, evo, evo', evA, callD, argsOf, PArg.arg, ownsOf, putOuts, toB, R.get, R.sto, R.flat, cmpD, ltD, leD, isND, binD, addD, subD, modD, ixD, slD, f1D, f2D, lenD, absD, intD, retR, outsOf, Arg.slot, putP, putPs, evRs, setR, okSet, subR, isOwn, putT, putTs, Lit.d, isTD, isEmp, wipeS, compF, max2D, min2D, dmD, lstD, tupD]
    rw [List.map_cons]
    unfold forL
    rw [e1, Option.bind_some, e2, Option.bind_some]
    exact e
theorem run_by_ok {ds : List D} {ws : List (Nat × List Int)} {c : Nat} {t : Bool} (h : ∀ w ∈ ws, w.1 < ds.length) : m_run_by [.val (.tuple ds), .val (.tuple (ws.map wD)), .val (.int c), .val (.bool t)] = some (.val (.tuple (runF ds ws c t)), []) := by
  have key : ∀ Φ : Phi, ∃ z z', bk Φ b_run_by [.val (.tuple ds), .val (.tuple (ws.map wD)), .val (.int c), .val (.bool t), .emp, .emp, .emp] = some (.ret (.val (.tuple (runF ds ws c t))), [.val (.tuple ds), .val (.tuple (ws.map wD)), .val (.int c), .val (.bool t), .own false (runF ds ws c t), z, z']) := fun Φ => by
    obtain ⟨z, z', h1, h2, e⟩ := set_loop (Φ := Φ) (a := .tuple ds) (b := .tuple (ws.map wD)) (c := .int c) (t := .bool t) (ws.take c) ds .emp .emp (fun w hw => h w (List.mem_of_mem_take hw)) nofun nofun
    have eI : evI Φ (.seq (.sl (.slot 1) .none (.some (.slot 2)))) [.val (.tuple ds), .val (.tuple (ws.map wD)), .val (.int c), .val (.bool t), .own false ds, .emp, .emp] = some ((ws.take c).map wD, [.val (.tuple ds), .val (.tuple (ws.map wD)), .val (.int c), .val (.bool t), .own false ds, .emp, .emp]) := by
      refine evI_seq ?_
      rw [List.map_take, ← cut_to]
      rfl
    refine ⟨z, z', bk_asg (r := .new ds) (s1 := [.val (.tuple ds), .val (.tuple (ws.map wD)), .val (.int c), .val (.bool t), .emp, .emp, .emp]) rfl (s2 := [.val (.tuple ds), .val (.tuple (ws.map wD)), .val (.int c), .val (.bool t), .own false ds, .emp, .emp]) rfl (bk_for eI e ?_)⟩
    rw [Option.bind_some]
    have hl : (setAll ds (ws.take c)).length = ds.length := setAll_len _ _
    generalize hS : setAll ds (ws.take c) = S at hl
    have fin : ∀ X : List D, bk Φ (.cons (.ret (.f1 .tuple (.slot 4))) (.nil)) [.val (.tuple ds), .val (.tuple (ws.map wD)), .val (.int c), .val (.bool t), .own false X, z, z'] = some (.ret (.val (.tuple X)), [.val (.tuple ds), .val (.tuple (ws.map wD)), .val (.int c), .val (.bool t), .own false X, z, z']) := fun X => rfl
    cases t with
    | false =>
      have er : runF ds ws c false = S := hS
      rw [er]
      exact bk_ifF (s1 := [.val (.tuple ds), .val (.tuple (ws.map wD)), .val (.int c), .val (.bool false), .own false S, z, z']) rfl (fin S)
    | true =>
      cases q : ws[c]? with
      | none =>
        have er : runF ds ws c true = S := by
          unfold runF
          rw [q]
          exact hS
        rw [er]
        have hc : ¬ (c : Int) < (ws.length : Int) := by
          have := List.getElem?_eq_none_iff.mp q
          omega
        refine bk_ifF (s1 := [.val (.tuple ds), .val (.tuple (ws.map wD)), .val (.int c), .val (.bool true), .own false S, z, z']) ?_ (fin S)
        simp [hc, ev_slot, ev_lit, ev_gc, ev_bin, ev_neg, ev_not, ev_and, ev_or, ev_cmp, ev_cmp2, ev_ite, ev_tup, ev_lst, ev_ix, ev_sl, ev_f1, ev_f2, ev_isT, ev_call, ev_callK, evs, evo, evo', evA, callD, argsOf, PArg.arg, ownsOf, putOuts, toB, R.get, R.sto, R.flat, cmpD, ltD, leD, isND, binD, addD, subD, modD, ixD, slD, f1D, f2D, lenD, absD, intD, retR, outsOf, Arg.slot, putP, putPs, evRs, setR, okSet, subR, isOwn, putT, putTs, Lit.d, isTD, isEmp, wipeS, compF, max2D, min2D, dmD, lstD, tupD]
      | some w =>
        have er : runF ds ws c true = S.set w.1 .none := by
          unfold runF
          rw [q]
          show (setAll ds (ws.take c)).set w.1 .none = _
          rw [hS]
        rw [er]
        have hc : (c : Int) < (ws.length : Int) := by
          have := (List.getElem?_eq_some_iff.mp q).1
          omega
        have hx : L2.atI (ws.map wD) (c : Int) = some (wD w) := by
          rw [L2.atI_nat (j := c)]
          rw [List.getElem?_map, q]
          rfl
        have hw : L2.ixN S.length (w.1 : Int) = some w.1 := ixN_nat (by rw [hl]; exact h w (List.mem_of_getElem? q))
        refine bk_if (t := true) (s1 := [.val (.tuple ds), .val (.tuple (ws.map wD)), .val (.int c), .val (.bool true), .own false S, z, z']) ?_ ?_
        · simp [hc, ev_slot, ev_lit, ev_gc, ev_bin, ev_neg, ev_not, ev_and, ev_or, ev_cmp, ev_cmp2, ev_ite, ev_tup, ev_lst, ev_ix, ev_sl, ev_f1, ev_f2, ev_isT, ev_call, ev_callK, evs, evo, evo', evA, callD, argsOf, PArg.arg, ownsOf, putOuts, toB, R.get, R.sto, R.flat, cmpD, ltD, leD, isND, binD, addD, subD, modD, ixD, slD, f1D, f2D, lenD, absD, intD, retR, outsOf, Arg.slot, putP, putPs, evRs, setR, okSet, subR, isOwn, putT, putTs, Lit.d, isTD, isEmp, wipeS, compF, max2D, min2D, dmD, lstD, tupD]
        · rw [if_pos rfl]
          have e2 : bk Φ (.cons (.asg (.sub 4 (.ix (.ix (.slot 1) (.slot 2)) (.lit (.int 0)))) (.lit .none)) (.nil)) [.val (.tuple ds), .val (.tuple (ws.map wD)), .val (.int c), .val (.bool true), .own false S, z, z'] = some (.nx, [.val (.tuple ds), .val (.tuple (ws.map wD)), .val (.int c), .val (.bool true), .own false (S.set w.1 .none), z, z']) := by
            have hi : L2.atI [PyData.int w.1, tI w.2] 0 = some (.int w.1) := rfl
            simp [hx, hi, hw, bk, st, ev_slot, ev_lit, ev_gc, ev_bin, ev_neg, ev_not, ev_and, ev_or, ev_cmp, ev_cmp2, ev_ite, ev_tup, ev_lst, ev_ix, ev_sl, ev_f1, ev_f2, ev_isT, ev_call, ev_callK, evs, evo, evo', evA, callD, argsOf, PArg.arg, ownsOf, putOuts, toB, R.get, R.sto, R.flat, cmpD, ltD, leD, isND, binD, addD, subD, modD, ixD, slD, f1D, f2D, lenD, absD, intD, retR, outsOf, Arg.slot, putP, putPs, evRs, setR, okSet, subR, isOwn, putT, putTs, Lit.d, isTD, isEmp, wipeS, compF, max2D, min2D, dmD, lstD, tupD]
          rw [e2, Option.bind_some]
          exact fin _
  obtain ⟨z, z', key⟩ := key p_run_by
  exact run_ok (Nat.le_of_ble_eq_true rfl) key rfl rfl
end L23

set_option maxRecDepth 100000
set_option linter.all false
set_option maxHeartbeats 4000000
namespace L23
open Mi PySem
/-! ### heads and slots -/
/-- the head h tells of k slots -/
def HeadK (h : D) (k : Nat) : Prop := (h = .none ∧ k = 0) ∨ (h = .tuple [] ∧ k = 0) ∨ (h = .tuple [.int k] ∧ 1 ≤ k ∧ k ≤ 8)
theorem shaped_nil : SeqAt.shaped (.tuple []) = true := by decide +kernel
theorem eqq_nil : eqqD (.tuple []) (.tuple []) = some true := by decide +kernel
theorem eqq_none : eqqD .none (.tuple []) = some false := by decide +kernel
theorem eqq_one (k : Int) : eqqD (.tuple [.int k]) (.tuple []) = some false := by
  have e : eqqD (.tuple [.int k]) (.tuple []) = if SeqAt.shaped (.tuple [.int k]) = true ∧ SeqAt.shaped (.tuple []) = true then some (PyData.eqv (.tuple [.int k]) (.tuple [])) else none := rfl
  have s1 : SeqAt.shaped (.tuple [.int k]) = true := rfl
  rw [e, if_pos ⟨s1, shaped_nil⟩]
  rfl
theorem is_head_ok {h : D} {k : Nat} (hk : HeadK h k) : m_is_head [.val h] = some (.val (.bool true), []) := by
  rcases hk with ⟨rfl, _⟩ | ⟨rfl, _⟩ | ⟨rfl, h1, h2⟩
  · rfl
  · have key : ∀ Φ : Phi, bk Φ b_is_head [.val (.tuple [])] = some (.ret (.val (.bool true)), [.val (.tuple [])]) := fun Φ => by
      have hz : (0 : Nat) ≤ sizeLine := Nat.zero_le _
      simp [b_is_head, eqq_nil, hz, isND, bk, st, ev_slot, ev_lit, ev_gc, ev_bin, ev_neg, ev_not, ev_and, ev_or, ev_cmp, ev_cmp2, ev_ite, ev_tup, ev_lst, ev_ix, ev_sl, ev_f1, ev_f2, ev_isT, ev_call, ev_callK, evs, evo, evo', evA, callD, argsOf, PArg.arg, ownsOf, putOuts, toB, R.get, R.sto, R.flat, cmpD, ltD, leD, isND, binD, addD, subD, modD, ixD, slD, f1D, f2D, lenD, absD, intD, retR, outsOf, Arg.slot, putP, putPs, evRs, setR, okSet, subR, isOwn, putT, putTs, Lit.d, isTD, isEmp, wipeS, compF, max2D, min2D, dmD, lstD, tupD]
    exact run_ok (Nat.le_of_ble_eq_true rfl) (key p_is_head) rfl rfl
  · have key : ∀ (Φ : Phi) (i : Int), Φ.gc 0 = .int 8 → Φ.fn 0 [.val (.int i), .val (.int 1), .val (.int 8)] = some (.val (.bool true), []) → bk Φ b_is_head [.val (.tuple [.int i])] = some (.ret (.val (.bool true)), [.val (.tuple [.int i])]) := fun Φ i g e => by
      have hz : (0 : Nat) ≤ sizeLine := Nat.zero_le _
      simp [b_is_head, eqq_one, eqq_int, g, e, hz, L2.atI, L2.ixN, isND, bk, st, ev_slot, ev_lit, ev_gc, ev_bin, ev_neg, ev_not, ev_and, ev_or, ev_cmp, ev_cmp2, ev_ite, ev_tup, ev_lst, ev_ix, ev_sl, ev_f1, ev_f2, ev_isT, ev_call, ev_callK, evs, evo, evo', evA, callD, argsOf, PArg.arg, ownsOf, putOuts, toB, R.get, R.sto, R.flat, cmpD, ltD, leD, isND, binD, addD, subD, modD, ixD, slD, f1D, f2D, lenD, absD, intD, retR, outsOf, Arg.slot, putP, putPs, evRs, setR, okSet, subR, isOwn, putT, putTs, Lit.d, isTD, isEmp, wipeS, compF, max2D, min2D, dmD, lstD, tupD]
    exact run_ok (Nat.le_of_ble_eq_true rfl) (key p_is_head k rfl (by rw [q_is_head_0]; exact between_yes (by omega) (by omega))) rfl rfl
theorem told_slots_ok {h : D} {k : Nat} {r : List D} (hk : HeadK h k) : m_told_slots [.val (.tuple (h :: r))] = some (.val (.tuple (r.take k)), []) := by
  have hz : (0 : Nat) ≤ sizeLine := Nat.zero_le _
  have a0 : ∀ h : D, L2.atI (h :: r) 0 = some h := fun h => by
    have := L2.atI_nat (xs := h :: r) (j := 0) (v := h) rfl
    exact this
  rcases hk with ⟨rfl, rfl⟩ | ⟨rfl, rfl⟩ | ⟨rfl, h1, h2⟩
  · have key : ∀ Φ : Phi, bk Φ b_told_slots [.val (.tuple (.none :: r))] = some (.ret (.val (.tuple (r.take 0))), [.val (.tuple (.none :: r))]) := fun Φ => by
      simp [b_told_slots, a0, hz, isND, bk, st, ev_slot, ev_lit, ev_gc, ev_bin, ev_neg, ev_not, ev_and, ev_or, ev_cmp, ev_cmp2, ev_ite, ev_tup, ev_lst, ev_ix, ev_sl, ev_f1, ev_f2, ev_isT, ev_call, ev_callK, evs, evo, evo', evA, callD, argsOf, PArg.arg, ownsOf, putOuts, toB, R.get, R.sto, R.flat, cmpD, ltD, leD, isND, binD, addD, subD, modD, ixD, slD, f1D, f2D, lenD, absD, intD, retR, outsOf, Arg.slot, putP, putPs, evRs, setR, okSet, subR, isOwn, putT, putTs, Lit.d, isTD, isEmp, wipeS, compF, max2D, min2D, dmD, lstD, tupD]
    exact run_ok (Nat.le_of_ble_eq_true rfl) (key p_told_slots) rfl rfl
  · have key : ∀ Φ : Phi, bk Φ b_told_slots [.val (.tuple (.tuple [] :: r))] = some (.ret (.val (.tuple (r.take 0))), [.val (.tuple (.tuple [] :: r))]) := fun Φ => by
      simp [b_told_slots, a0, eqq_nil, hz, isND, bk, st, ev_slot, ev_lit, ev_gc, ev_bin, ev_neg, ev_not, ev_and, ev_or, ev_cmp, ev_cmp2, ev_ite, ev_tup, ev_lst, ev_ix, ev_sl, ev_f1, ev_f2, ev_isT, ev_call, ev_callK, evs, evo, evo', evA, callD, argsOf, PArg.arg, ownsOf, putOuts, toB, R.get, R.sto, R.flat, cmpD, ltD, leD, isND, binD, addD, subD, modD, ixD, slD, f1D, f2D, lenD, absD, intD, retR, outsOf, Arg.slot, putP, putPs, evRs, setR, okSet, subR, isOwn, putT, putTs, Lit.d, isTD, isEmp, wipeS, compF, max2D, min2D, dmD, lstD, tupD]
    exact run_ok (Nat.le_of_ble_eq_true rfl) (key p_told_slots) rfl rfl
  · have key : ∀ (Φ : Phi) (i : Int) (X : List D), cutD (.tuple [.int i] :: r) (some 1) (some (1 + i)) = X → bk Φ b_told_slots [.val (.tuple (.tuple [.int i] :: r))] = some (.ret (.val (.tuple X)), [.val (.tuple (.tuple [.int i] :: r))]) := fun Φ i X hX => by
      have a1 : L2.atI [PyData.int i] 0 = some (.int i) := rfl
      simp [b_told_slots, a0, a1, eqq_one, hz, hX, isND, bk, st, ev_slot, ev_lit, ev_gc, ev_bin, ev_neg, ev_not, ev_and, ev_or, ev_cmp, ev_cmp2, ev_ite, ev_tup, ev_lst, ev_ix, ev_sl, ev_f1, ev_f2, ev_isT, ev_call, ev_callK, evs, evo, evo', evA, callD, argsOf, PArg.arg, ownsOf, putOuts, toB, R.get, R.sto, R.flat, cmpD, ltD, leD, isND, binD, addD, subD, modD, ixD, slD, f1D, f2D, lenD, absD, intD, retR, outsOf, Arg.slot, putP, putPs, evRs, setR, okSet, subR, isOwn, putT, putTs, Lit.d, isTD, isEmp, wipeS, compF, max2D, min2D, dmD, lstD, tupD]
    exact run_ok (Nat.le_of_ble_eq_true rfl) (key p_told_slots k (r.take k) (by
      have := cut_from (PyData.tuple [.int k] :: r) 1 k
      exact this)) rfl rfl
/-! ### slots that are told -/
/-- a told slot: its place and its block -/
abbrev sD (w : Nat × List Int) : D := .tuple (.int w.1 :: w.2.map .int)
theorem sD_eq (w : Nat × List Int) : sD w = tI ((w.1 : Int) :: w.2) := rfl
structure Sound (h : D) (k : Nat) (r : List D) (tl : List (Nat × List Int)) : Prop where
  d : Disk (h :: r)
  hk : HeadK h k
  t : r.take k = tl.map sD
  u : (tl.map (·.1)).Nodup
  p : ∀ w ∈ tl, 9 ≤ w.1 ∧ w.1 < r.length + 1
  n : ∀ i, 9 ≤ i → (h :: r)[i]? = some .none → ∃ w ∈ tl, w.1 = i
  c : tl.length ≤ 8
abbrev nI (p : Nat) : D := .int (p : Int)
theorem nset_ok {ps : List Nat} (h : ps.Nodup) (hl : ps.length ≤ 100) : nsetD (.list (ps.map nI)) = some (.val (.int (ps.length : Nat))) := by
  have e : intsL (ps.map nI) = some (ps.map fun (p : Nat) => (p : Int)) := intsL_map _ ps
  show (intsL (ps.map nI)).bind _ = _
  rw [e, Option.bind_some]
  have nd : (ps.map fun (p : Nat) => (p : Int)).Nodup := List.pairwise_map.mpr (h.imp fun hne z => hne (by omega))
  rw [if_pos ⟨nd, by rw [List.length_map]; omega⟩, List.length_map]
theorem are_named_ok {ps : List Nat} {m : Nat} (h : ps.Nodup) (hl : ps.length ≤ 100) (hp : ∀ p ∈ ps, 9 ≤ p ∧ p < m) : m_are_named [.val (.list (ps.map nI)), .val (.int m)] = some (.val (.bool true), []) := by
  have hn := nset_ok h hl
  obtain ⟨L, hL⟩ : ∃ L, (ps.map nI) = L := ⟨_, rfl⟩
  have hLl : L.length = ps.length := by rw [← hL, List.length_map]
  rw [hL, ← hLl] at hn
  rw [hL]
  have key : ∀ Φ : Phi, Φ.gc 0 = .int 9 → (∀ p ∈ ps, Φ.fn 0 [.val (.int p), .val (.int 9), .val (.int ((m : Int) - 1))] = some (.val (.bool true), [])) → bk Φ b_are_named [.val (.list L), .val (.int m), .emp] = some (.ret (.val (.bool true)), [.val (.list L), .val (.int m), .emp]) := fun Φ g e => by
    refine bk_ifF (s1 := [.val (.list L), .val (.int m), .emp]) ?_ (bk_ret (r := .val (.bool true)) (all_comp (ds := L) rfl rfl (fun d hd => ?_) (sl_le (by omega))) rfl)
    · simp [ev_nset, hn, ev_slot, ev_lit, ev_gc, ev_bin, ev_neg, ev_not, ev_and, ev_or, ev_cmp, ev_cmp2, ev_ite, ev_tup, ev_lst, ev_ix, ev_sl, ev_f1, ev_f2, ev_isT, ev_call, ev_callK, evs, evo, evo', evA, callD, argsOf, PArg.arg, ownsOf, putOuts, toB, R.get, R.sto, R.flat, cmpD, ltD, leD, isND, binD, addD, subD, modD, ixD, slD, f1D, f2D, lenD, absD, intD, retR, outsOf, Arg.slot, putP, putPs, evRs, setR, okSet, subR, isOwn, putT, putTs, Lit.d, isTD, isEmp, wipeS, compF, max2D, min2D, dmD, lstD, tupD]
    · rw [← hL] at hd
      obtain ⟨p, hp', rfl⟩ := List.mem_map.mp hd
      refine ⟨[.val (.list L), .val (.int m), .val (.int p)], ?_, rfl⟩
      simp [g, e p hp', ev_slot, ev_lit, ev_gc, ev_bin, ev_neg, ev_not, ev_and, ev_or, ev_cmp, ev_cmp2, ev_ite, ev_tup, ev_lst, ev_ix, ev_sl, ev_f1, ev_f2, ev_isT, ev_call, ev_callK, evs, evo, evo', evA, callD, argsOf, PArg.arg, ownsOf, putOuts, toB, R.get, R.sto, R.flat, cmpD, ltD, leD, isND, binD, addD, subD, modD, ixD, slD, f1D, f2D, lenD, absD, intD, retR, outsOf, Arg.slot, putP, putPs, evRs, setR, okSet, subR, isOwn, putT, putTs, Lit.d, isTD, isEmp, wipeS, compF, max2D, min2D, dmD, lstD, tupD]
  exact run_ok (Nat.le_of_ble_eq_true rfl) (key p_are_named rfl fun p h' => by
    have := hp p h'
    rw [q_are_named_0]
    exact between_yes (by omega) (by omega)) rfl rfl
theorem at_nat {xs : List D} {i : Nat} {d : D} (h : xs[i]? = some d) : L2.atI xs (i : Int) = some d := L2.atI_nat h
theorem isN_some {d : D} (h : d ≠ .none) : isND d .none = some false := by
  cases d <;> first | rfl | exact absurd rfl h
theorem eqq_slot (x : Int) (xs : List Int) : eqqD (tI (x :: xs)) (.tuple []) = some false := by
  have hc : ∀ ys : List Int, PyData.canLay0 (.tuple (ys.map PyData.int)) = true ∧ PyData.depthAll (ys.map PyData.int) = 0 := fun ys => by
    induction ys with
    | nil => exact ⟨by simp [PyData.canLay0, PyData.canLayAll0], by simp [PyData.depthAll]⟩
    | cons y ys ih =>
      refine ⟨?_, ?_⟩
      · have := ih.1
        simp only [List.map_cons, PyData.canLay0, PyData.canLayAll0] at this ⊢
        simp [this]
      · have := ih.2
        simp only [List.map_cons, PyData.depthAll, PyData.depth] at this ⊢
        omega
  have sh : SeqAt.shaped (tI (x :: xs)) = true := by
    unfold SeqAt.shaped
    rw [(hc (x :: xs)).1, Bool.true_and]
    refine decide_eq_true ?_
    have := (hc (x :: xs)).2
    simp only [PyData.depth]
    omega
  have e : eqqD (tI (x :: xs)) (.tuple []) = if SeqAt.shaped (tI (x :: xs)) = true ∧ SeqAt.shaped (.tuple []) = true then some (PyData.eqv (tI (x :: xs)) (.tuple [])) else none := rfl
  rw [e, if_pos ⟨sh, shaped_nil⟩]
  rfl
theorem in_places (i : Nat) (ps : List Nat) : innD (.int i) (.list (ps.map nI)) = some (decide (i ∈ ps)) := by
  have hf : (ps.map nI).all flatD = true := by
    rw [List.all_eq_true]
    intro d hd
    obtain ⟨p, _, rfl⟩ := List.mem_map.mp hd
    rfl
  show (if _ then some (inD _ _) else none) = _
  rw [if_pos ⟨rfl, hf⟩]
  congr 1
  unfold inD
  rw [List.any_map]
  by_cases h : i ∈ ps
  · rw [decide_eq_true h, List.any_eq_true]
    exact ⟨i, h, by simp [nI, eqD]⟩
  · rw [decide_eq_false h, List.any_eq_false]
    intro p hp
    have : p ≠ i := fun z => h (by rw [← z]; exact hp)
    simp [nI, eqD]
    omega
def headD : D → Option D
  | .tuple (x :: _) => some x
  | _ => none
theorem headD_map : ∀ tl : List (Nat × List Int), (tl.map sD).filterMap headD = (tl.map (·.1)).map nI
  | [] => rfl
  | w :: tl => congrArg (nI w.1 :: ·) (headD_map tl)
theorem is_sound_by_ok {h : D} {k : Nat} {r : List D} {tl : List (Nat × List Int)} (S : Sound h k r tl) : m_is_sound_by [.val (.tuple (h :: r))] = some (.val (.bool true), []) := by
  have hlen : (h :: r).length = r.length + 1 := rfl
  have hb := S.d.b
  have a0 : L2.atI (h :: r) 0 = some h := by
    have := L2.atI_nat (xs := h :: r) (j := 0) (v := h) rfl
    exact this
  have ts := told_slots_ok (r := r) S.hk
  rw [S.t] at ts
  have an := are_named_ok (ps := tl.map (·.1)) (m := (h :: r).length) S.u (by rw [List.length_map]; have := S.c; omega) (fun p hp => by
    obtain ⟨w, hw, rfl⟩ := List.mem_map.mp hp
    exact S.p w hw)
  obtain ⟨Z, hZ⟩ : ∃ Z, h :: r = Z := ⟨_, rfl⟩
  have nn := S.n
  have dk := is_disk_by_ok S.d
  rw [hZ] at a0 ts an nn dk hb ⊢
  have tc := S.c
  have key : ∀ Φ : Phi, Φ.gc 0 = .int 9 → Φ.fn 1 [.val (.tuple Z)] = some (.val (.bool true), []) → Φ.fn 0 [.val h] = some (.val (.bool true), []) → Φ.fn 2 [.val (.tuple Z)] = some (.val (.tuple (tl.map sD)), []) → Φ.fn 3 [.val (.list ((tl.map (·.1)).map nI)), .val (.int Z.length)] = some (.val (.bool true), []) →
      bk Φ b_is_sound_by [.val (.tuple Z), .emp, .emp, .emp, .emp] = some (.ret (.val (.bool true)), [.val (.tuple Z), .val (.tuple (tl.map sD)), .val (.list ((tl.map (·.1)).map nI)), .emp, .emp]) := fun Φ g e1 e0 e2 e3 => by
    refine bk_ifF (s1 := [.val (.tuple Z), .emp, .emp, .emp, .emp]) ?_ ?_
    · simp [e1, e0, a0, ev_slot, ev_lit, ev_gc, ev_bin, ev_neg, ev_not, ev_and, ev_or, ev_cmp, ev_cmp2, ev_ite, ev_tup, ev_lst, ev_ix, ev_sl, ev_f1, ev_f2, ev_isT, ev_call, ev_callK, evs, evo, evo', evA, callD, argsOf, PArg.arg, ownsOf, putOuts, toB, R.get, R.sto, R.flat, cmpD, ltD, leD, isND, binD, addD, subD, modD, ixD, slD, f1D, f2D, lenD, absD, intD, retR, outsOf, Arg.slot, putP, putPs, evRs, setR, okSet, subR, isOwn, putT, putTs, Lit.d, isTD, isEmp, wipeS, compF, max2D, min2D, dmD, lstD, tupD]
    refine bk_asg (r := .val (.tuple (tl.map sD))) (s1 := [.val (.tuple Z), .emp, .emp, .emp, .emp]) ?_ (s2 := [.val (.tuple Z), .val (.tuple (tl.map sD)), .emp, .emp, .emp]) rfl ?_
    · simp [e2, ev_slot, ev_lit, ev_gc, ev_bin, ev_neg, ev_not, ev_and, ev_or, ev_cmp, ev_cmp2, ev_ite, ev_tup, ev_lst, ev_ix, ev_sl, ev_f1, ev_f2, ev_isT, ev_call, ev_callK, evs, evo, evo', evA, callD, argsOf, PArg.arg, ownsOf, putOuts, toB, R.get, R.sto, R.flat, cmpD, ltD, leD, isND, binD, addD, subD, modD, ixD, slD, f1D, f2D, lenD, absD, intD, retR, outsOf, Arg.slot, putP, putPs, evRs, setR, okSet, subR, isOwn, putT, putTs, Lit.d, isTD, isEmp, wipeS, compF, max2D, min2D, dmD, lstD, tupD]
    refine bk_frzV rfl (bk_ifF (s1 := [.val (.tuple Z), .val (.tuple (tl.map sD)), .emp, .emp, .emp]) (any_comp (ds := tl.map sD) rfl rfl (fun d hd => ?_) (by rw [List.length_map]; exact sl_le (by omega))) ?_)
    · obtain ⟨w, hw, rfl⟩ := List.mem_map.mp hd
      have q1 : eqqD (sD w) (.tuple []) = some false := eqq_slot w.1 w.2
      obtain ⟨sw, hsw⟩ : ∃ sw, sD w = .tuple sw := ⟨_, rfl⟩
      rw [hsw] at q1 ⊢
      refine ⟨[.val (.tuple Z), .val (.tuple (tl.map sD)), .emp, .val (.tuple sw), .emp], ?_, rfl⟩
      have hz : (0 : Nat) ≤ sizeLine := Nat.zero_le _
      simp [q1, hz, ev_slot, ev_lit, ev_gc, ev_bin, ev_neg, ev_not, ev_and, ev_or, ev_cmp, ev_cmp2, ev_ite, ev_tup, ev_lst, ev_ix, ev_sl, ev_f1, ev_f2, ev_isT, ev_call, ev_callK, evs, evo, evo', evA, callD, argsOf, PArg.arg, ownsOf, putOuts, toB, R.get, R.sto, R.flat, cmpD, ltD, leD, isND, binD, addD, subD, modD, ixD, slD, f1D, f2D, lenD, absD, intD, retR, outsOf, Arg.slot, putP, putPs, evRs, setR, okSet, subR, isOwn, putT, putTs, Lit.d, isTD, isEmp, wipeS, compF, max2D, min2D, dmD, lstD, tupD]
    refine bk_frzV rfl (bk_asg (r := .new ((tl.map (·.1)).map nI)) (s1 := [.val (.tuple Z), .val (.tuple (tl.map sD)), .emp, .emp, .emp]) ?_ (s2 := [.val (.tuple Z), .val (.tuple (tl.map sD)), .own false ((tl.map (·.1)).map nI), .emp, .emp]) rfl ?_)
    · have := ev_comp (Φ := Φ) (own := [("slot", 3)]) (tg := .name 3) (it := .seq (.slot 1)) (co := .none) (e := .ix (.slot 3) (.lit (.int 0))) (s := [.val (.tuple Z), .val (.tuple (tl.map sD)), .emp, .emp, .emp]) (s1 := [.val (.tuple Z), .val (.tuple (tl.map sD)), .emp, .emp, .emp]) headD (ds := tl.map sD) rfl rfl (fun d hd => by
        obtain ⟨w, hw, rfl⟩ := List.mem_map.mp hd
        obtain ⟨bl, hbl⟩ : ∃ bl, sD w = .tuple (.int (w.1 : Int) :: bl) := ⟨_, rfl⟩
        rw [hbl]
        refine ⟨[.val (.tuple Z), .val (.tuple (tl.map sD)), .emp, .val (.tuple (.int (w.1 : Int) :: bl)), .emp], ?_, rfl⟩
        have q := L2.atI_nat (xs := PyData.int w.1 :: bl) (j := 0) (v := .int w.1) rfl
        have q' : L2.atI (PyData.int w.1 :: bl) 0 = some (.int w.1) := q
        simp [q', headD, ev_slot, ev_lit, ev_gc, ev_bin, ev_neg, ev_not, ev_and, ev_or, ev_cmp, ev_cmp2, ev_ite, ev_tup, ev_lst, ev_ix, ev_sl, ev_f1, ev_f2, ev_isT, ev_call, ev_callK, evs, evo, evo', evA, callD, argsOf, PArg.arg, ownsOf, putOuts, toB, R.get, R.sto, R.flat, cmpD, ltD, leD, isND, binD, addD, subD, modD, ixD, slD, f1D, f2D, lenD, absD, intD, retR, outsOf, Arg.slot, putP, putPs, evRs, setR, okSet, subR, isOwn, putT, putTs, Lit.d, isTD, isEmp, wipeS, compF, max2D, min2D, dmD, lstD, tupD]) (by rw [List.length_map]; exact sl_le (by omega))
      rw [this, headD_map]
    refine bk_frz (xs := (tl.map (·.1)).map nI) rfl ?_
    show bk Φ _ [.val (.tuple Z), .val (.tuple (tl.map sD)), .val (.list ((tl.map (·.1)).map nI)), .emp, .emp] = _
    refine bk_ifF (s1 := [.val (.tuple Z), .val (.tuple (tl.map sD)), .val (.list ((tl.map (·.1)).map nI)), .emp, .emp]) ?_ ?_
    · generalize ((tl.map (·.1)).map nI) = P at e3
      simp [e3, ev_slot, ev_lit, ev_gc, ev_bin, ev_neg, ev_not, ev_and, ev_or, ev_cmp, ev_cmp2, ev_ite, ev_tup, ev_lst, ev_ix, ev_sl, ev_f1, ev_f2, ev_isT, ev_call, ev_callK, evs, evo, evo', evA, callD, argsOf, PArg.arg, ownsOf, putOuts, toB, R.get, R.sto, R.flat, cmpD, ltD, leD, isND, binD, addD, subD, modD, ixD, slD, f1D, f2D, lenD, absD, intD, retR, outsOf, Arg.slot, putP, putPs, evRs, setR, okSet, subR, isOwn, putT, putTs, Lit.d, isTD, isEmp, wipeS, compF, max2D, min2D, dmD, lstD, tupD]
    · have ip := fun i => in_places i (tl.map (·.1))
      generalize hP : ((tl.map (·.1)).map nI) = P at ip
      have el : ev Φ (.f1 .len (.slot 0)) [.val (.tuple Z), .val (.tuple (tl.map sD)), .val (.list P), .emp, .emp] = some (.val (.int Z.length), [.val (.tuple Z), .val (.tuple (tl.map sD)), .val (.list P), .emp, .emp]) := rfl
      have eg : ev Φ (.gc 0) [.val (.tuple Z), .val (.tuple (tl.map sD)), .val (.list P), .emp, .emp] = some (.val (.int 9), [.val (.tuple Z), .val (.tuple (tl.map sD)), .val (.list P), .emp, .emp]) := by simp [g, ev_slot, ev_lit, ev_gc, ev_bin, ev_neg, ev_not, ev_and, ev_or, ev_cmp, ev_cmp2, ev_ite, ev_tup, ev_lst, ev_ix, ev_sl, ev_f1, ev_f2, ev_isT, ev_call, ev_callK, evs, evo, evo', evA, callD, argsOf, PArg.arg, ownsOf, putOuts, toB, R.get, R.sto, R.flat, cmpD, ltD, leD, isND, binD, addD, subD, modD, ixD, slD, f1D, f2D, lenD, absD, intD, retR, outsOf, Arg.slot, putP, putPs, evRs, setR, okSet, subR, isOwn, putT, putTs, Lit.d, isTD, isEmp, wipeS, compF, max2D, min2D, dmD, lstD, tupD]
      refine bk_ret (r := .val (.bool true)) (all_comp (ds := rgD 9 ((Z.length : Int) - 9).toNat) (evI_rng (lo := 9) (j := (Z.length : Int)) eg el (by decide) (by decide) (by omega) (by omega)) rfl (fun d hd => ?_) (by rw [rgD_len]; exact sl_le (by omega))) rfl
      · simp only [rgD, List.mem_map, List.mem_range] at hd
        obtain ⟨i, hi, rfl⟩ := hd
        have hlt : 9 + i < Z.length := by omega
        have hx := at_nat (List.getElem?_eq_getElem hlt)
        have ipi := ip (9 + i)
        have ei : (9 : Int) + (i : Int) = ((9 + i : Nat) : Int) := by omega
        rw [ei]
        refine ⟨[.val (.tuple Z), .val (.tuple (tl.map sD)), .val (.list P), .emp, .val (.int ((9 + i : Nat) : Int))], ?_, rfl⟩
        generalize hb : Z[9 + i] = b at hx
        by_cases q : b = .none
        · obtain ⟨w, hw, hwi⟩ := nn (9 + i) (by omega) (by rw [List.getElem?_eq_getElem hlt, hb, q])
          have hm : (9 + i) ∈ tl.map (·.1) := List.mem_map.mpr ⟨w, hw, hwi⟩
          rw [decide_eq_true hm] at ipi
          subst q
          generalize ((9 + i : Nat) : Int) = ii at hx ipi
          simp [hx, ipi, isND, ev_slot, ev_lit, ev_gc, ev_bin, ev_neg, ev_not, ev_and, ev_or, ev_cmp, ev_cmp2, ev_ite, ev_tup, ev_lst, ev_ix, ev_sl, ev_f1, ev_f2, ev_isT, ev_call, ev_callK, evs, evo, evo', evA, callD, argsOf, PArg.arg, ownsOf, putOuts, toB, R.get, R.sto, R.flat, cmpD, ltD, leD, isND, binD, addD, subD, modD, ixD, slD, f1D, f2D, lenD, absD, intD, retR, outsOf, Arg.slot, putP, putPs, evRs, setR, okSet, subR, isOwn, putT, putTs, Lit.d, isTD, isEmp, wipeS, compF, max2D, min2D, dmD, lstD, tupD]
        · generalize ((9 + i : Nat) : Int) = ii at hx ipi
          cases b <;> first | exact absurd rfl q | simp [hx, ev_slot, ev_lit, ev_gc, ev_bin, ev_neg, ev_not, ev_and, ev_or, ev_cmp, ev_cmp2, ev_ite, ev_tup, ev_lst, ev_ix, ev_sl, ev_f1, ev_f2, ev_isT, ev_call, ev_callK, evs, evo, evo', evA, callD, argsOf, PArg.arg, ownsOf, putOuts, toB, R.get, R.sto, R.flat, cmpD, ltD, leD, isND, binD, addD, subD, modD, ixD, slD, f1D, f2D, lenD, absD, intD, retR, outsOf, Arg.slot, putP, putPs, evRs, setR, okSet, subR, isOwn, putT, putTs, Lit.d, isTD, isEmp, wipeS, compF, max2D, min2D, dmD, lstD, tupD]
  exact run_ok (Nat.le_of_ble_eq_true rfl) (key p_is_sound_by rfl (by rw [q_is_sound_by_1]; exact dk) (by rw [q_is_sound_by_0]; exact is_head_ok S.hk) (by rw [q_is_sound_by_2]; exact ts) (by rw [q_is_sound_by_3]; exact an)) rfl rfl
end L23

set_option maxRecDepth 100000
set_option linter.all false
set_option maxHeartbeats 4000000
namespace L23
open Mi PySem
/-! ### contents -/
def contF (ds : List D) (tl : List (Nat × List Int)) : List D := tl.foldl (fun c w => c.set (w.1 - 9) (tI w.2)) (ds.drop 9)
theorem cont_loop {Φ : Phi} {z : D} (g : Φ.gc 0 = .int 9) : ∀ (tl : List (Nat × List Int)) (ds : List D) (y : Mi.Slot), (∀ w ∈ tl, 9 ≤ w.1 ∧ w.1 - 9 < ds.length) → (∀ o zs, y ≠ .own o zs) →
    ∃ y', (∀ o zs, y' ≠ .own o zs) ∧ forL (fun d s => putT (.name 2) d s) (fun s => bk Φ (.cons (.asg (.sub 1 (.bin .sub (.ix (.slot 2) (.lit (.int 0))) (.gc 0))) (.sl (.slot 2) (.some (.lit (.int 1))) .none)) (.nil)) s) (tl.map sD) [.val z, .own false ds, y] = some (.nx, [.val z, .own false (tl.foldl (fun c w => c.set (w.1 - 9) (tI w.2)) ds), y'])
  | [], ds, y, _, hy => ⟨y, hy, rfl⟩
  | w :: tl, ds, y, h, hy => by
    have hw := h w List.mem_cons_self
    obtain ⟨y', h1, e⟩ := cont_loop (z := z) g tl (ds.set (w.1 - 9) (tI w.2)) (.val (sD w)) (fun v hv => by rw [List.length_set]; exact h v (List.mem_cons_of_mem _ hv)) nofun
    refine ⟨y', h1, ?_⟩
    have e1 : putT (.name 2) (sD w) [.val z, .own false ds, y] = some [.val z, .own false ds, .val (sD w)] := by
      cases y <;> first | rfl | exact absurd rfl (hy _ _)
    have e2 : bk Φ (.cons (.asg (.sub 1 (.bin .sub (.ix (.slot 2) (.lit (.int 0))) (.gc 0))) (.sl (.slot 2) (.some (.lit (.int 1))) .none)) (.nil)) [.val z, .own false ds, .val (sD w)] = some (.nx, [.val z, .own false (ds.set (w.1 - 9) (tI w.2)), .val (sD w)]) := by
      have c1 : cutD (PyData.int (w.1 : Int) :: w.2.map .int) (some 1) none = w.2.map .int := cut_at (PyData.int (w.1 : Int) :: w.2.map .int) 1
      have q := L2.atI_nat (xs := PyData.int (w.1 : Int) :: w.2.map .int) (j := 0) (v := .int w.1) rfl
      have q' : L2.atI (PyData.int (w.1 : Int) :: w.2.map .int) 0 = some (.int w.1) := q
      have ix := ixN_nat hw.2
      have ei : ((w.1 - 9 : Nat) : Int) = (w.1 : Int) - 9 := by omega
      rw [ei] at ix
      obtain ⟨j, hj⟩ : ∃ j, w.1 - 9 = j := ⟨_, rfl⟩
      obtain ⟨p, hp⟩ : ∃ p : Int, (w.1 : Int) = p := ⟨_, rfl⟩
      rw [hj, hp] at ix
      rw [hj]
      rw [hp] at c1 q'
      obtain ⟨bl, hbl⟩ : ∃ bl, w.2.map PyData.int = bl := ⟨_, rfl⟩
      have es : sD w = .tuple (.int p :: bl) := by rw [← hp, ← hbl]
      rw [hbl] at c1 q'
      have et : tI w.2 = .tuple bl := by rw [← hbl]
      rw [es, et]
      simp [g, c1, q', ix, bk, st, ev_slot, ev_lit, ev_gc, ev_bin, ev_neg, ev_not, ev_and, ev_or, ev_cmp, ev_cmp2, ev_ite, ev_tup, ev_lst, ev_ix, ev_sl, ev_f1, ev_f2, ev_isT, ev_call, ev_callK, evs, evo, evo', evA, callD, argsOf, PArg.arg, ownsOf, putOuts, toB, R.get, R.sto, R.flat, cmpD, ltD, leD, isND, binD, addD, subD, modD, ixD, slD, f1D, f2D, lenD, absD, intD, retR, outsOf, Arg.slot, putP, putPs, evRs, setR, okSet, subR, isOwn, putT, putTs, Lit.d, isTD, isEmp, wipeS, compF, max2D, min2D, dmD, lstD, tupD]
    rw [List.map_cons]
    unfold forL
    rw [e1, Option.bind_some, e2, Option.bind_some]
    exact e
section
variable {h : D} {k : Nat} {r : List D} {tl : List (Nat × List Int)}
theorem told_of (S : Sound h k r tl) : m_told_slots [.val (.tuple (h :: r))] = some (.val (.tuple (tl.map sD)), []) := by
  rw [← S.t]
  exact told_slots_ok S.hk
theorem contents_by_ok (S : Sound h k r tl) : m_contents_by [.val (.tuple (h :: r))] = some (.val (.tuple (contF (h :: r) tl)), []) := by
  have ts := told_of S
  have hp := S.p
  obtain ⟨Z, hZ⟩ : ∃ Z, h :: r = Z := ⟨_, rfl⟩
  have hl : Z.length = r.length + 1 := by rw [← hZ]; rfl
  rw [hZ] at ts ⊢
  have key : ∀ Φ : Phi, Φ.gc 0 = .int 9 → Φ.fn 0 [.val (.tuple Z)] = some (.val (.tuple (tl.map sD)), []) → ∃ y', bk Φ b_contents_by [.val (.tuple Z), .emp, .emp] = some (.ret (.val (.tuple (contF Z tl))), [.val (.tuple Z), .own false (contF Z tl), y']) := fun Φ g e => by
    obtain ⟨y', h1, ef⟩ := cont_loop (Φ := Φ) (z := .tuple Z) g tl (Z.drop 9) .emp (fun w hw => by have := hp w hw; rw [List.length_drop]; omega) nofun
    have ed : cutD Z (some 9) none = Z.drop 9 := cut_at Z 9
    refine ⟨y', bk_asg (r := .new (Z.drop 9)) (s1 := [.val (.tuple Z), .emp, .emp]) ?_ (s2 := [.val (.tuple Z), .own false (Z.drop 9), .emp]) rfl (bk_for (s1 := [.val (.tuple Z), .own false (Z.drop 9), .emp]) (evI_seq ?_) ef rfl)⟩
    · simp [g, ed, ev_slot, ev_lit, ev_gc, ev_bin, ev_neg, ev_not, ev_and, ev_or, ev_cmp, ev_cmp2, ev_ite, ev_tup, ev_lst, ev_ix, ev_sl, ev_f1, ev_f2, ev_isT, ev_call, ev_callK, evs, evo, evo', evA, callD, argsOf, PArg.arg, ownsOf, putOuts, toB, R.get, R.sto, R.flat, cmpD, ltD, leD, isND, binD, addD, subD, modD, ixD, slD, f1D, f2D, lenD, absD, intD, retR, outsOf, Arg.slot, putP, putPs, evRs, setR, okSet, subR, isOwn, putT, putTs, Lit.d, isTD, isEmp, wipeS, compF, max2D, min2D, dmD, lstD, tupD]
    · generalize tl.map sD = T at e
      simp [e, ev_slot, ev_lit, ev_gc, ev_bin, ev_neg, ev_not, ev_and, ev_or, ev_cmp, ev_cmp2, ev_ite, ev_tup, ev_lst, ev_ix, ev_sl, ev_f1, ev_f2, ev_isT, ev_call, ev_callK, evs, evo, evo', evA, callD, argsOf, PArg.arg, ownsOf, putOuts, toB, R.get, R.sto, R.flat, cmpD, ltD, leD, isND, binD, addD, subD, modD, ixD, slD, f1D, f2D, lenD, absD, intD, retR, outsOf, Arg.slot, putP, putPs, evRs, setR, okSet, subR, isOwn, putT, putTs, Lit.d, isTD, isEmp, wipeS, compF, max2D, min2D, dmD, lstD, tupD]
  obtain ⟨y', key⟩ := key p_contents_by rfl (by rw [q_contents_by_0]; exact ts)
  exact run_ok (Nat.le_of_ble_eq_true rfl) key rfl rfl
/-! ### mending -/
def mendW (q : Bool) (tl : List (Nat × List Int)) : List (Nat × List Int) := if q = true then [] else tl ++ [(0, [])]
def isNil : D → Bool
  | .tuple [] => true
  | _ => false
theorem eqq_head (hk : HeadK h k) : eqqD h (.tuple []) = some (isNil h) := by
  rcases hk with ⟨rfl, _⟩ | ⟨rfl, _⟩ | ⟨rfl, _⟩
  · exact eqq_none
  · exact eqq_nil
  · exact eqq_one _
def sW : D → Option D
  | .tuple (x :: xs) => some (.tuple [x, .tuple xs])
  | _ => none
theorem sW_map : ∀ tl : List (Nat × List Int), (tl.map sD).filterMap sW = tl.map wD
  | [] => rfl
  | w :: tl => congrArg (wD w :: ·) (sW_map tl)
theorem add_tup {xs ys : List D} (h : xs.length + ys.length ≤ 2000) : addD (.tuple xs) (.tuple ys) = some (.val (.tuple (xs ++ ys))) := if_pos (sl_le h)
theorem disk_mending_by_ok (S : Sound h k r tl) : m_disk_mending_by [.val (.tuple (h :: r))] = some (.val (.tuple ((mendW (isNil h) tl).map wD)), []) := by
  have ts := told_of S
  have eq := eqq_head S.hk
  have tc := S.c
  have a0 : L2.atI (h :: r) 0 = some h := L2.atI_nat (xs := h :: r) (j := 0) (v := h) rfl
  obtain ⟨Z, hZ⟩ : ∃ Z, h :: r = Z := ⟨_, rfl⟩
  rw [hZ] at ts a0 ⊢
  have hz : (0 : Nat) ≤ sizeLine := Nat.zero_le _
  have hz2 : (2 : Nat) ≤ sizeLine := sl_le (by decide)
  have hz1 : (1 : Nat) ≤ sizeLine := sl_le (by decide)
  have key : ∀ Φ : Phi, Φ.fn 0 [.val (.tuple Z)] = some (.val (.tuple (tl.map sD)), []) → bk Φ b_disk_mending_by [.val (.tuple Z), .emp] = some (.ret (.val (.tuple ((mendW (isNil h) tl).map wD))), [.val (.tuple Z), .emp]) := fun Φ e => by
    have ec : ev Φ (.cmp .eq (.ix (.slot 0) (.lit (.int 0))) (.tup .nil)) [.val (.tuple Z), .emp] = some (.val (.bool (isNil h)), [.val (.tuple Z), .emp]) := by
      generalize isNil h = b at eq
      simp [a0, eq, hz, ev_slot, ev_lit, ev_gc, ev_bin, ev_neg, ev_not, ev_and, ev_or, ev_cmp, ev_cmp2, ev_ite, ev_tup, ev_lst, ev_ix, ev_sl, ev_f1, ev_f2, ev_isT, ev_call, ev_callK, evs, evo, evo', evA, callD, argsOf, PArg.arg, ownsOf, putOuts, toB, R.get, R.sto, R.flat, cmpD, ltD, leD, isND, binD, addD, subD, modD, ixD, slD, f1D, f2D, lenD, absD, intD, retR, outsOf, Arg.slot, putP, putPs, evRs, setR, okSet, subR, isOwn, putT, putTs, Lit.d, isTD, isEmp, wipeS, compF, max2D, min2D, dmD, lstD, tupD]
    cases q : isNil h with
    | true =>
      rw [q] at ec
      refine bk_if ec ?_
      rw [if_pos rfl]
      simp [mendW, hz, bk, st, ev_slot, ev_lit, ev_gc, ev_bin, ev_neg, ev_not, ev_and, ev_or, ev_cmp, ev_cmp2, ev_ite, ev_tup, ev_lst, ev_ix, ev_sl, ev_f1, ev_f2, ev_isT, ev_call, ev_callK, evs, evo, evo', evA, callD, argsOf, PArg.arg, ownsOf, putOuts, toB, R.get, R.sto, R.flat, cmpD, ltD, leD, isND, binD, addD, subD, modD, ixD, slD, f1D, f2D, lenD, absD, intD, retR, outsOf, Arg.slot, putP, putPs, evRs, setR, okSet, subR, isOwn, putT, putTs, Lit.d, isTD, isEmp, wipeS, compF, max2D, min2D, dmD, lstD, tupD]
    | false =>
      rw [q] at ec
      refine bk_ifF ec (bk_ret (r := .val (.tuple ((mendW false tl).map wD))) ?_ rfl)
      have eI : evI Φ (.seq (.call 0 (.v (.slot 0) (.nil)))) [.val (.tuple Z), .emp] = some (tl.map sD, [.val (.tuple Z), .emp]) := by
        refine evI_seq ?_
        generalize tl.map sD = T at e
        simp [e, ev_slot, ev_lit, ev_gc, ev_bin, ev_neg, ev_not, ev_and, ev_or, ev_cmp, ev_cmp2, ev_ite, ev_tup, ev_lst, ev_ix, ev_sl, ev_f1, ev_f2, ev_isT, ev_call, ev_callK, evs, evo, evo', evA, callD, argsOf, PArg.arg, ownsOf, putOuts, toB, R.get, R.sto, R.flat, cmpD, ltD, leD, isND, binD, addD, subD, modD, ixD, slD, f1D, f2D, lenD, absD, intD, retR, outsOf, Arg.slot, putP, putPs, evRs, setR, okSet, subR, isOwn, putT, putTs, Lit.d, isTD, isEmp, wipeS, compF, max2D, min2D, dmD, lstD, tupD]
      have c := ev_comp (Φ := Φ) (own := [("slot", 1)]) (tg := .name 1) (co := .none) (e := .tup (.cons (.ix (.slot 1) (.lit (.int 0))) (.cons (.sl (.slot 1) (.some (.lit (.int 1))) .none) (.nil)))) (s := [.val (.tuple Z), .emp]) sW eI rfl (fun d hd => by
        obtain ⟨w, hw, rfl⟩ := List.mem_map.mp hd
        obtain ⟨bl, hbl⟩ : ∃ bl, sD w = .tuple (.int (w.1 : Int) :: bl) := ⟨_, rfl⟩
        rw [hbl]
        refine ⟨[.val (.tuple Z), .val (.tuple (.int (w.1 : Int) :: bl))], ?_, rfl⟩
        have q' : L2.atI (PyData.int w.1 :: bl) 0 = some (.int w.1) := L2.atI_nat (xs := PyData.int w.1 :: bl) (j := 0) (v := .int w.1) rfl
        have c1 : cutD (PyData.int (w.1 : Int) :: bl) (some 1) none = bl := cut_at (PyData.int (w.1 : Int) :: bl) 1
        simp [q', c1, hz2, sW, ev_slot, ev_lit, ev_gc, ev_bin, ev_neg, ev_not, ev_and, ev_or, ev_cmp, ev_cmp2, ev_ite, ev_tup, ev_lst, ev_ix, ev_sl, ev_f1, ev_f2, ev_isT, ev_call, ev_callK, evs, evo, evo', evA, callD, argsOf, PArg.arg, ownsOf, putOuts, toB, R.get, R.sto, R.flat, cmpD, ltD, leD, isND, binD, addD, subD, modD, ixD, slD, f1D, f2D, lenD, absD, intD, retR, outsOf, Arg.slot, putP, putPs, evRs, setR, okSet, subR, isOwn, putT, putTs, Lit.d, isTD, isEmp, wipeS, compF, max2D, min2D, dmD, lstD, tupD]) (by rw [List.length_map]; exact sl_le (by omega))
      rw [sW_map] at c
      have c2 : ev Φ (.f1 .tuple (.comp [("slot", 1)] (.name 1) (.seq (.call 0 (.v (.slot 0) (.nil)))) .none (.tup (.cons (.ix (.slot 1) (.lit (.int 0))) (.cons (.sl (.slot 1) (.some (.lit (.int 1))) .none) (.nil)))))) [.val (.tuple Z), .emp] = some (.val (.tuple (tl.map wD)), [.val (.tuple Z), .emp]) := by
        rw [ev_f1, c]
        rfl
      have c3 : ev Φ (.tup (.cons (.tup (.cons (.lit (.int 0)) (.cons (.tup .nil) (.nil)))) (.nil))) [.val (.tuple Z), .emp] = some (.val (.tuple [wD (0, [])]), [.val (.tuple Z), .emp]) := by
        simp [hz, hz1, hz2, ev_slot, ev_lit, ev_gc, ev_bin, ev_neg, ev_not, ev_and, ev_or, ev_cmp, ev_cmp2, ev_ite, ev_tup, ev_lst, ev_ix, ev_sl, ev_f1, ev_f2, ev_isT, ev_call, ev_callK, evs, evo, evo', evA, callD, argsOf, PArg.arg, ownsOf, putOuts, toB, R.get, R.sto, R.flat, cmpD, ltD, leD, isND, binD, addD, subD, modD, ixD, slD, f1D, f2D, lenD, absD, intD, retR, outsOf, Arg.slot, putP, putPs, evRs, setR, okSet, subR, isOwn, putT, putTs, Lit.d, isTD, isEmp, wipeS, compF, max2D, min2D, dmD, lstD, tupD]
      have ad : binD .add (.tuple (tl.map wD)) (.tuple [wD (0, [])]) = some (.val (.tuple ((mendW false tl).map wD))) := by
        show addD (.tuple (tl.map wD)) (.tuple [wD (0, [])]) = _
        rw [add_tup (by rw [List.length_map]; show tl.length + 1 ≤ 2000; omega)]
        simp [mendW]
      rw [ev_bin, c2, Option.bind_some]
      simp only [c3, Option.bind_some, R.get, ad, Option.map_some]
  exact run_ok (Nat.le_of_ble_eq_true rfl) (key p_disk_mending_by (by rw [q_disk_mending_by_0]; exact ts)) rfl rfl
theorem mend_places (S : Sound h k r tl) : ∀ w ∈ mendW (isNil h) tl, w.1 < (h :: r).length := fun w hw => by
  have : (h :: r).length = r.length + 1 := rfl
  unfold mendW at hw
  split at hw
  · cases hw
  · rcases List.mem_append.mp hw with z | z
    · have := S.p w z
      omega
    · have := List.mem_singleton.mp z
      subst this
      show 0 < _
      omega
theorem mended_disk_by_ok (S : Sound h k r tl) : m_mended_disk_by [.val (.tuple (h :: r))] = some (.val (.tuple (setAll (h :: r) (mendW (isNil h) tl))), []) := by
  have dm := disk_mending_by_ok S
  have rb := run_by_ok (ds := h :: r) (ws := mendW (isNil h) tl) (c := (mendW (isNil h) tl).length) (t := false) (mend_places S)
  have er : runF (h :: r) (mendW (isNil h) tl) (mendW (isNil h) tl).length false = setAll (h :: r) (mendW (isNil h) tl) := by
    unfold runF
    simp
  rw [er] at rb
  have ln : ((mendW (isNil h) tl).map wD).length = (mendW (isNil h) tl).length := List.length_map _
  rw [← ln] at rb
  generalize (mendW (isNil h) tl).map wD = Wd at dm rb
  generalize setAll (h :: r) (mendW (isNil h) tl) = out at rb
  generalize h :: r = Z at dm rb
  have key : ∀ Φ : Phi, Φ.fn 0 [.val (.tuple Z)] = some (.val (.tuple Wd), []) → Φ.fn 1 [.val (.tuple Z), .val (.tuple Wd), .val (.int Wd.length), .val (.bool false)] = some (.val (.tuple out), []) → bk Φ b_mended_disk_by [.val (.tuple Z), .emp] = some (.ret (.val (.tuple out)), [.val (.tuple Z), .val (.tuple Wd)]) := fun Φ e0 e1 => by
    simp [b_mended_disk_by, e0, e1, bk, st, ev_slot, ev_lit, ev_gc, ev_bin, ev_neg, ev_not, ev_and, ev_or, ev_cmp, ev_cmp2, ev_ite, ev_tup, ev_lst, ev_ix, ev_sl, ev_f1, ev_f2, ev_isT, ev_call, ev_callK, evs, evo, evo', evA, callD, argsOf, PArg.arg, ownsOf, putOuts, toB, R.get, R.sto, R.flat, cmpD, ltD, leD, isND, binD, addD, subD, modD, ixD, slD, f1D, f2D, lenD, absD, intD, retR, outsOf, Arg.slot, putP, putPs, evRs, setR, okSet, subR, isOwn, putT, putTs, Lit.d, isTD, isEmp, wipeS, compF, max2D, min2D, dmD, lstD, tupD]
  exact run_ok (Nat.le_of_ble_eq_true rfl) (key p_mended_disk_by (by rw [q_mended_disk_by_0]; exact dm) (by rw [q_mended_disk_by_1]; exact rb)) rfl rfl
/-! ### the told functions -/
theorem check_sound_ok (S : Sound h k r tl) : m_check_sound [.val (.tuple (h :: r))] = some (.val .none, []) := by
  have key : ∀ (Φ : Phi) (z : D), Φ.fn 0 [.val z] = some (.val (.bool true), []) → bk Φ b_check_sound [.val z] = some (.nx, [.val z]) := fun Φ z e => by
    simp [b_check_sound, e, bk, st, ev_slot, ev_lit, ev_gc, ev_bin, ev_neg, ev_not, ev_and, ev_or, ev_cmp, ev_cmp2, ev_ite, ev_tup, ev_lst, ev_ix, ev_sl, ev_f1, ev_f2, ev_isT, ev_call, ev_callK, evs, evo, evo', evA, callD, argsOf, PArg.arg, ownsOf, putOuts, toB, R.get, R.sto, R.flat, cmpD, ltD, leD, isND, binD, addD, subD, modD, ixD, slD, f1D, f2D, lenD, absD, intD, retR, outsOf, Arg.slot, putP, putPs, evRs, setR, okSet, subR, isOwn, putT, putTs, Lit.d, isTD, isEmp, wipeS, compF, max2D, min2D, dmD, lstD, tupD]
  exact run_ok (Nat.le_of_ble_eq_true rfl) (key p_check_sound _ (by rw [q_check_sound_0]; exact is_sound_by_ok S)) rfl rfl
theorem is_sound_ok (S : Sound h k r tl) : m_is_sound [.val (.tuple (h :: r))] = some (.val (.bool true), []) := by
  have key : ∀ (Φ : Phi) (z : D), Φ.fn 0 [.val z] = some (.val (.bool true), []) → bk Φ b_is_sound [.val z] = some (.ret (.val (.bool true)), [.val z]) := fun Φ z e => by
    simp [b_is_sound, e, bk, st, ev_slot, ev_lit, ev_gc, ev_bin, ev_neg, ev_not, ev_and, ev_or, ev_cmp, ev_cmp2, ev_ite, ev_tup, ev_lst, ev_ix, ev_sl, ev_f1, ev_f2, ev_isT, ev_call, ev_callK, evs, evo, evo', evA, callD, argsOf, PArg.arg, ownsOf, putOuts, toB, R.get, R.sto, R.flat, cmpD, ltD, leD, isND, binD, addD, subD, modD, ixD, slD, f1D, f2D, lenD, absD, intD, retR, outsOf, Arg.slot, putP, putPs, evRs, setR, okSet, subR, isOwn, putT, putTs, Lit.d, isTD, isEmp, wipeS, compF, max2D, min2D, dmD, lstD, tupD]
  exact run_ok (Nat.le_of_ble_eq_true rfl) (key p_is_sound _ (by rw [q_is_sound_0]; exact is_sound_by_ok S)) rfl rfl
theorem two_ok {n : Nat} {b : Bk} {m : FnSem} {p : Phi} {z v : D} (hm : m = runFn p 1 b) (hb : b = .cons (.expr (.call 0 (.v (.slot 0) (.nil)))) (.cons (.ret (.call 1 (.v (.slot 0) (.nil)))) (.nil))) (h0 : p.fn 0 [.val z] = some (.val .none, [])) (h1 : p.fn 1 [.val z] = some (.val v, [])) : m [.val z] = some (.val v, []) := by
  have key : ∀ (Φ : Phi), Φ.fn 0 [.val z] = some (.val .none, []) → Φ.fn 1 [.val z] = some (.val v, []) → bk Φ b [.val z] = some (.ret (.val v), [.val z]) := fun Φ e0 e1 => by
    rw [hb]
    simp [e0, e1, bk, st, ev_slot, ev_lit, ev_gc, ev_bin, ev_neg, ev_not, ev_and, ev_or, ev_cmp, ev_cmp2, ev_ite, ev_tup, ev_lst, ev_ix, ev_sl, ev_f1, ev_f2, ev_isT, ev_call, ev_callK, evs, evo, evo', evA, callD, argsOf, PArg.arg, ownsOf, putOuts, toB, R.get, R.sto, R.flat, cmpD, ltD, leD, isND, binD, addD, subD, modD, ixD, slD, f1D, f2D, lenD, absD, intD, retR, outsOf, Arg.slot, putP, putPs, evRs, setR, okSet, subR, isOwn, putT, putTs, Lit.d, isTD, isEmp, wipeS, compF, max2D, min2D, dmD, lstD, tupD]
  rw [hm]
  exact run_ok (Nat.le_of_ble_eq_true rfl) (key p h0 h1) rfl rfl
theorem contents_ok (S : Sound h k r tl) : m_contents [.val (.tuple (h :: r))] = some (.val (.tuple (contF (h :: r) tl)), []) :=
  two_ok (n := 0) rfl rfl (by rw [q_contents_0]; exact check_sound_ok S) (by rw [q_contents_1]; exact contents_by_ok S)
end
end L23

set_option maxRecDepth 100000
set_option linter.all false
set_option maxHeartbeats 4000000
namespace L23
open Mi PySem
/-! ### batches -/
structure Batch (n : Nat) (ws : List (Nat × List Int)) : Prop where
  a : 1 ≤ ws.length
  b : ws.length ≤ 8
  w : ∀ w ∈ ws, 9 ≤ w.1 ∧ w.1 < n ∧ OkI 80 w.2
  u : (ws.map (·.1)).Nodup
theorem at0 (p : Nat) (b : D) : L2.atI [PyData.int (p : Int), b] 0 = some (.int p) := rfl
theorem at1 (p : Nat) (b : D) : L2.atI [PyData.int (p : Int), b] 1 = some b := rfl
theorem is_batched_ok {w : Nat × List Int} (h : OkI 80 w.2) : m_is_batched [.val (wD w)] = some (.val (.bool true), []) := by
  obtain ⟨p, xs⟩ := w
  have key : ∀ (Φ : Phi) (b : D), Φ.gc 0 = .int 80 → Φ.fn 0 [.val b, .val (.int 0), .val (.int 80)] = some (.val (.bool true), []) → bk Φ b_is_batched [.val (.tuple [.int p, b])] = some (.ret (.val (.bool true)), [.val (.tuple [.int p, b])]) := fun Φ b g e => by
    simp [b_is_batched, g, e, eqq_int, at1, bk, st, ev_slot, ev_lit, ev_gc, ev_bin, ev_neg, ev_not, ev_and, ev_or, ev_cmp, ev_cmp2, ev_ite, ev_tup, ev_lst, ev_ix, ev_sl, ev_f1, ev_f2, ev_isT, ev_call, ev_callK, evs, evo, evo', evA, callD, argsOf, PArg.arg, ownsOf, putOuts, toB, R.get, R.sto, R.flat, cmpD, ltD, leD, isND, binD, addD, subD, modD, ixD, slD, f1D, f2D, lenD, absD, intD, retR, outsOf, Arg.slot, putP, putPs, evRs, setR, okSet, subR, isOwn, putT, putTs, Lit.d, isTD, isEmp, wipeS, compF, max2D, min2D, dmD, lstD, tupD]
  exact run_ok (Nat.le_of_ble_eq_true rfl) (key p_is_batched (tI xs) rfl (by rw [q_is_batched_0]; exact are_numbers_ok (m := 80) h (by decide))) rfl rfl
theorem wD_heads : ∀ ws : List (Nat × List Int), (ws.map wD).filterMap headD = (ws.map (·.1)).map nI
  | [] => rfl
  | w :: ws => congrArg (nI w.1 :: ·) (wD_heads ws)
theorem is_batch_by_ok {n : Nat} {ws : List (Nat × List Int)} (h : Batch n ws) (hn : n ≤ 70) : m_is_batch_by [.val (.tuple (ws.map wD)), .val (.int n)] = some (.val (.bool true), []) := by
  have ha := h.a
  have hb := h.b
  have an := are_named_ok (ps := ws.map (·.1)) (m := n) h.u (by rw [List.length_map]; omega) (fun p hp => by
    obtain ⟨w, hw, rfl⟩ := List.mem_map.mp hp
    exact ⟨(h.w w hw).1, (h.w w hw).2.1⟩)
  have heads := wD_heads ws
  obtain ⟨P, hP⟩ : ∃ P, (ws.map (·.1)).map nI = P := ⟨_, rfl⟩
  rw [hP] at an heads
  obtain ⟨T, hT⟩ : ∃ T, ws.map wD = T := ⟨_, rfl⟩
  have hTl : T.length = ws.length := by rw [← hT, List.length_map]
  have hm : ∀ d ∈ T, ∃ (p : Nat) (b : D), d = .tuple [.int (p : Int), b] ∧ 9 ≤ p ∧ p < n ∧ m_is_batched [.val d] = some (.val (.bool true), []) := fun d hd => by
    rw [← hT] at hd
    obtain ⟨w, hw, rfl⟩ := List.mem_map.mp hd
    exact ⟨w.1, tI w.2, rfl, (h.w w hw).1, (h.w w hw).2.1, is_batched_ok (h.w w hw).2.2⟩
  rw [hT] at heads ⊢
  have key : ∀ Φ : Phi, Φ.gc 0 = .int 8 → Φ.gc 1 = .int 9 → Φ.fn 0 = m_is_between → Φ.fn 1 = m_is_batched → Φ.fn 2 [.val (.list P), .val (.int n)] = some (.val (.bool true), []) → bk Φ b_is_batch_by [.val (.tuple T), .val (.int n), .emp] = some (.ret (.val (.bool true)), [.val (.tuple T), .val (.int n), .emp]) := fun Φ g0 g1 e0 e1 e2 => by
    have eb := between_yes (v := (T.length : Int)) (l := 1) (h := 8) (by omega) (by omega)
    refine bk_ifF (s1 := [.val (.tuple T), .val (.int n), .emp]) ?_ (bk_ifF (s1 := [.val (.tuple T), .val (.int n), .emp]) ?_ (bk_ret (r := .val (.bool true)) ?_ rfl))
    · simp [g0, e0, eb, ev_slot, ev_lit, ev_gc, ev_bin, ev_neg, ev_not, ev_and, ev_or, ev_cmp, ev_cmp2, ev_ite, ev_tup, ev_lst, ev_ix, ev_sl, ev_f1, ev_f2, ev_isT, ev_call, ev_callK, evs, evo, evo', evA, callD, argsOf, PArg.arg, ownsOf, putOuts, toB, R.get, R.sto, R.flat, cmpD, ltD, leD, isND, binD, addD, subD, modD, ixD, slD, f1D, f2D, lenD, absD, intD, retR, outsOf, Arg.slot, putP, putPs, evRs, setR, okSet, subR, isOwn, putT, putTs, Lit.d, isTD, isEmp, wipeS, compF, max2D, min2D, dmD, lstD, tupD]
    · rw [ev_not, all_comp (ds := T) rfl rfl (fun d hd => ?_) (sl_le (by omega))]
      · rfl
      · obtain ⟨p, b, rfl, h1, h2, h3⟩ := hm d hd
        have ei := between_yes (v := (p : Int)) (l := 9) (h := (n : Int) - 1) (by omega) (by omega)
        refine ⟨[.val (.tuple T), .val (.int n), .val (.tuple [.int (p : Int), b])], ?_, rfl⟩
        simp [g1, e0, e1, h3, ei, at0, ev_slot, ev_lit, ev_gc, ev_bin, ev_neg, ev_not, ev_and, ev_or, ev_cmp, ev_cmp2, ev_ite, ev_tup, ev_lst, ev_ix, ev_sl, ev_f1, ev_f2, ev_isT, ev_call, ev_callK, evs, evo, evo', evA, callD, argsOf, PArg.arg, ownsOf, putOuts, toB, R.get, R.sto, R.flat, cmpD, ltD, leD, isND, binD, addD, subD, modD, ixD, slD, f1D, f2D, lenD, absD, intD, retR, outsOf, Arg.slot, putP, putPs, evRs, setR, okSet, subR, isOwn, putT, putTs, Lit.d, isTD, isEmp, wipeS, compF, max2D, min2D, dmD, lstD, tupD]
    · have c := ev_comp (Φ := Φ) (own := [("each", 2)]) (tg := .name 2) (it := .seq (.slot 0)) (co := .none) (e := .ix (.slot 2) (.lit (.int 0))) (s := [.val (.tuple T), .val (.int n), .emp]) (s1 := [.val (.tuple T), .val (.int n), .emp]) headD (ds := T) rfl rfl (fun d hd => by
        obtain ⟨p, b, rfl, _⟩ := hm d hd
        refine ⟨[.val (.tuple T), .val (.int n), .val (.tuple [.int (p : Int), b])], ?_, rfl⟩
        simp [at0, headD, ev_slot, ev_lit, ev_gc, ev_bin, ev_neg, ev_not, ev_and, ev_or, ev_cmp, ev_cmp2, ev_ite, ev_tup, ev_lst, ev_ix, ev_sl, ev_f1, ev_f2, ev_isT, ev_call, ev_callK, evs, evo, evo', evA, callD, argsOf, PArg.arg, ownsOf, putOuts, toB, R.get, R.sto, R.flat, cmpD, ltD, leD, isND, binD, addD, subD, modD, ixD, slD, f1D, f2D, lenD, absD, intD, retR, outsOf, Arg.slot, putP, putPs, evRs, setR, okSet, subR, isOwn, putT, putTs, Lit.d, isTD, isEmp, wipeS, compF, max2D, min2D, dmD, lstD, tupD]) (sl_le (by omega))
      rw [heads] at c
      rw [ev_call]
      simp only [evA, c, Option.bind_some, R.sto, Option.map_some]
      simp [e2, ev_slot, ev_lit, ev_gc, ev_bin, ev_neg, ev_not, ev_and, ev_or, ev_cmp, ev_cmp2, ev_ite, ev_tup, ev_lst, ev_ix, ev_sl, ev_f1, ev_f2, ev_isT, ev_call, ev_callK, evs, evo, evo', evA, callD, argsOf, PArg.arg, ownsOf, putOuts, toB, R.get, R.sto, R.flat, cmpD, ltD, leD, isND, binD, addD, subD, modD, ixD, slD, f1D, f2D, lenD, absD, intD, retR, outsOf, Arg.slot, putP, putPs, evRs, setR, okSet, subR, isOwn, putT, putTs, Lit.d, isTD, isEmp, wipeS, compF, max2D, min2D, dmD, lstD, tupD]
  exact run_ok (Nat.le_of_ble_eq_true rfl) (key p_is_batch_by rfl rfl q_is_batch_by_0 q_is_batch_by_1 (by rw [q_is_batch_by_2]; exact an)) rfl rfl
/-! ### the steps of a batch -/
def slotsW (ws : List (Nat × List Int)) : List (Nat × List Int) := ((List.range ws.length).zip ws).map fun p => (p.1 + 1, (p.2.1 : Int) :: p.2.2)
def stepsW (ws : List (Nat × List Int)) : List (Nat × List Int) := slotsW ws ++ [(0, [(ws.length : Int)])] ++ ws ++ [(0, [])]
def slotOf : D → Option D
  | .tuple [.int i, .tuple [.int p, .tuple b]] => some (.tuple [.int (i + 1), .tuple (.int p :: b)])
  | _ => none
theorem slots_map (ws : List (Nat × List Int)) : (((rgD 0 (ws.map wD).length).zip (ws.map wD)).map fun (p : D × D) => PyData.tuple [p.1, p.2]).filterMap slotOf = (slotsW ws).map wD := by
  unfold slotsW rgD
  rw [List.length_map, List.zip_map, List.map_map, List.map_map, List.filterMap_map]
  induction (List.range ws.length).zip ws with
  | nil => rfl
  | cons a l ih =>
    obtain ⟨i, w⟩ := a
    rw [List.map_cons, List.filterMap_cons]
    have e : (slotOf ∘ ((fun (p : D × D) => PyData.tuple [p.1, p.2]) ∘ Prod.map (fun (k : Nat) => PyData.int (0 + (k : Int))) wD)) (i, w) = some (wD (i + 1, (w.1 : Int) :: w.2)) := by
      show some (PyData.tuple [.int (0 + (i : Int) + 1), .tuple (.int w.1 :: w.2.map .int)]) = _
      rw [show (0 + (i : Int) + 1) = ((i + 1 : Nat) : Int) by omega]
      rfl
    rw [e, ih]
    rfl
theorem slotsW_len (ws : List (Nat × List Int)) : (slotsW ws).length = ws.length := by simp [slotsW]
theorem enum_mem {ds : List D} {d : D} (h : d ∈ ((rgD 0 ds.length).zip ds).map fun (p : D × D) => PyData.tuple [p.1, p.2]) : ∃ (i : Nat) (x : D), x ∈ ds ∧ d = .tuple [.int (0 + (i : Int)), x] := by
  obtain ⟨p, hp, rfl⟩ := List.mem_map.mp h
  obtain ⟨a, b⟩ := p
  have h1 := (List.of_mem_zip hp).1
  have h2 := (List.of_mem_zip hp).2
  simp only [rgD, List.mem_map] at h1
  obtain ⟨i, _, rfl⟩ := h1
  exact ⟨i, b, h2, rfl⟩
theorem steps_parts {ws : List (Nat × List Int)} : (stepsW ws).map wD = (slotsW ws).map wD ++ [wD (0, [(ws.length : Int)])] ++ ws.map wD ++ [wD (0, [])] := by
  simp [stepsW]
theorem steps_by_ok {ws : List (Nat × List Int)} (hl : ws.length ≤ 8) (hw : ∀ w ∈ ws, w.2.length ≤ 100) : m_steps_by [.val (.tuple (ws.map wD))] = some (.val (.tuple ((stepsW ws).map wD)), []) := by
  have hz : (0 : Nat) ≤ sizeLine := Nat.zero_le _
  have hz2 : (2 : Nat) ≤ sizeLine := sl_le (by decide)
  have hz1 : (1 : Nat) ≤ sizeLine := sl_le (by decide)
  have sm := slots_map ws
  have sl := slotsW_len ws
  have hm : ∀ d ∈ ws.map wD, ∃ (p : Int) (b : List D), d = .tuple [.int p, .tuple b] ∧ b.length ≤ 100 := fun d hd => by
    obtain ⟨w, h, rfl⟩ := List.mem_map.mp hd
    exact ⟨w.1, w.2.map .int, rfl, by rw [List.length_map]; exact hw w h⟩
  have parts := steps_parts (ws := ws)
  obtain ⟨T, hT⟩ : ∃ T, ws.map wD = T := ⟨_, rfl⟩
  have hTl : T.length = ws.length := by rw [← hT, List.length_map]
  obtain ⟨SW, hSW⟩ : ∃ SW, (slotsW ws).map wD = SW := ⟨_, rfl⟩
  have hSl : SW.length = ws.length := by rw [← hSW, List.length_map, sl]
  rw [hT, hSW] at parts
  rw [hT] at sm hm ⊢
  rw [hSW] at sm
  rw [parts]
  have key : ∀ Φ : Phi, bk Φ b_steps_by [.val (.tuple T), .emp, .emp, .emp, .emp] = some (.ret (.val (.tuple (SW ++ [wD (0, [(ws.length : Int)])] ++ T ++ [wD (0, [])]))), [.val (.tuple T), .own false SW, .emp, .emp, .emp]) := fun Φ => by
    have c := ev_comp (Φ := Φ) (own := [("at", 2), ("place", 3), ("block", 4)]) (tg := .tup (.cons (.name 2) (.cons (.tup (.cons (.name 3) (.cons (.name 4) (.nil)))) (.nil)))) (it := .enum (.slot 0)) (co := .none) (e := .tup (.cons (.bin .add (.slot 2) (.lit (.int 1))) (.cons (.bin .add (.tup (.cons (.slot 3) (.nil))) (.slot 4)) (.nil)))) (s := [.val (.tuple T), .emp, .emp, .emp, .emp]) (s1 := [.val (.tuple T), .emp, .emp, .emp, .emp]) slotOf (evI_enumT rfl) rfl (fun d hd => by
      obtain ⟨i, x, hx, rfl⟩ := enum_mem hd
      obtain ⟨p, b, rfl, hbl⟩ := hm x hx
      refine ⟨[.val (.tuple T), .emp, .val (.int (0 + (i : Int))), .val (.int p), .val (.tuple b)], ?_, rfl⟩
      generalize (0 + (i : Int)) = j
      have hsz : 1 + b.length ≤ sizeLine := sl_le (by omega)
      simp [hz2, hz1, hsz, slotOf, ev_slot, ev_lit, ev_gc, ev_bin, ev_neg, ev_not, ev_and, ev_or, ev_cmp, ev_cmp2, ev_ite, ev_tup, ev_lst, ev_ix, ev_sl, ev_f1, ev_f2, ev_isT, ev_call, ev_callK, evs, evo, evo', evA, callD, argsOf, PArg.arg, ownsOf, putOuts, toB, R.get, R.sto, R.flat, cmpD, ltD, leD, isND, binD, addD, subD, modD, ixD, slD, f1D, f2D, lenD, absD, intD, retR, outsOf, Arg.slot, putP, putPs, evRs, setR, okSet, subR, isOwn, putT, putTs, Lit.d, isTD, isEmp, wipeS, compF, max2D, min2D, dmD, lstD, tupD]) (by rw [List.length_map, List.length_zip, rgD_len, Nat.min_self]; exact sl_le (by omega))
    rw [sm] at c
    refine bk_asg c (s2 := [.val (.tuple T), .own false SW, .emp, .emp, .emp]) rfl (bk_ret (r := .val (.tuple (SW ++ [wD (0, [(ws.length : Int)])] ++ T ++ [wD (0, [])]))) ?_ rfl)
    have a1 : SW.length + 1 ≤ sizeLine := sl_le (by omega)
    have a2 : SW.length + 1 + T.length ≤ sizeLine := sl_le (by omega)
    have a3 : SW.length + (T.length + 1) + 1 ≤ sizeLine := sl_le (by omega)
    have a4 : SW.length + (T.length + (1 + 1)) ≤ sizeLine := sl_le (by omega)
    have e0 : wD (0, []) = .tuple [.int 0, .tuple []] := rfl
    have e1 : wD (0, [(ws.length : Int)]) = .tuple [.int 0, .tuple [.int (T.length : Int)]] := by
      rw [hTl]
      rfl
    rw [e0, e1]
    have f1 : ev Φ (.f1 .tuple (.slot 1)) [.val (.tuple T), .own false SW, .emp, .emp, .emp] = some (.val (.tuple SW), [.val (.tuple T), .own false SW, .emp, .emp, .emp]) := rfl
    have f2 : ev Φ (.tup (.cons (.tup (.cons (.lit (.int 0)) (.cons (.tup (.cons (.f1 .len (.slot 0)) (.nil))) (.nil)))) (.nil))) [.val (.tuple T), .own false SW, .emp, .emp, .emp] = some (.val (.tuple [.tuple [.int 0, .tuple [.int (T.length : Int)]]]), [.val (.tuple T), .own false SW, .emp, .emp, .emp]) := by
      simp [hz, hz1, hz2, ev_slot, ev_lit, ev_gc, ev_bin, ev_neg, ev_not, ev_and, ev_or, ev_cmp, ev_cmp2, ev_ite, ev_tup, ev_lst, ev_ix, ev_sl, ev_f1, ev_f2, ev_isT, ev_call, ev_callK, evs, evo, evo', evA, callD, argsOf, PArg.arg, ownsOf, putOuts, toB, R.get, R.sto, R.flat, cmpD, ltD, leD, isND, binD, addD, subD, modD, ixD, slD, f1D, f2D, lenD, absD, intD, retR, outsOf, Arg.slot, putP, putPs, evRs, setR, okSet, subR, isOwn, putT, putTs, Lit.d, isTD, isEmp, wipeS, compF, max2D, min2D, dmD, lstD, tupD]
    have f3 : ev Φ (.slot 0) [.val (.tuple T), .own false SW, .emp, .emp, .emp] = some (.val (.tuple T), [.val (.tuple T), .own false SW, .emp, .emp, .emp]) := rfl
    have f4 : ev Φ (.tup (.cons (.tup (.cons (.lit (.int 0)) (.cons (.tup .nil) (.nil)))) (.nil))) [.val (.tuple T), .own false SW, .emp, .emp, .emp] = some (.val (.tuple [.tuple [.int 0, .tuple []]]), [.val (.tuple T), .own false SW, .emp, .emp, .emp]) := by
      simp [hz, hz1, hz2, ev_slot, ev_lit, ev_gc, ev_bin, ev_neg, ev_not, ev_and, ev_or, ev_cmp, ev_cmp2, ev_ite, ev_tup, ev_lst, ev_ix, ev_sl, ev_f1, ev_f2, ev_isT, ev_call, ev_callK, evs, evo, evo', evA, callD, argsOf, PArg.arg, ownsOf, putOuts, toB, R.get, R.sto, R.flat, cmpD, ltD, leD, isND, binD, addD, subD, modD, ixD, slD, f1D, f2D, lenD, absD, intD, retR, outsOf, Arg.slot, putP, putPs, evRs, setR, okSet, subR, isOwn, putT, putTs, Lit.d, isTD, isEmp, wipeS, compF, max2D, min2D, dmD, lstD, tupD]
    have d1 : binD .add (.tuple SW) (.tuple [.tuple [.int 0, .tuple [.int (T.length : Int)]]]) = some (.val (.tuple (SW ++ [.tuple [.int 0, .tuple [.int (T.length : Int)]]]))) := if_pos a1
    generalize hA : SW ++ [PyData.tuple [.int 0, .tuple [.int (T.length : Int)]]] = A at d1
    have hAl : A.length = SW.length + 1 := by rw [← hA]; simp
    have d2 : binD .add (.tuple A) (.tuple T) = some (.val (.tuple (A ++ T))) := if_pos (by rw [hAl]; exact a2)
    have d3 : binD .add (.tuple (A ++ T)) (.tuple [.tuple [.int 0, .tuple []]]) = some (.val (.tuple (A ++ T ++ [.tuple [.int 0, .tuple []]]))) := if_pos (by rw [List.length_append, hAl]; exact sl_le (by simp; omega))
    have g1 : ev Φ (.bin .add (.f1 .tuple (.slot 1)) (.tup (.cons (.tup (.cons (.lit (.int 0)) (.cons (.tup (.cons (.f1 .len (.slot 0)) (.nil))) (.nil)))) (.nil)))) [.val (.tuple T), .own false SW, .emp, .emp, .emp] = some (.val (.tuple A), [.val (.tuple T), .own false SW, .emp, .emp, .emp]) := by
      rw [ev_bin, f1, Option.bind_some]
      simp only [f2, Option.bind_some, R.get, d1, Option.map_some]
    have g2 : ev Φ (.bin .add (.bin .add (.f1 .tuple (.slot 1)) (.tup (.cons (.tup (.cons (.lit (.int 0)) (.cons (.tup (.cons (.f1 .len (.slot 0)) (.nil))) (.nil)))) (.nil)))) (.slot 0)) [.val (.tuple T), .own false SW, .emp, .emp, .emp] = some (.val (.tuple (A ++ T)), [.val (.tuple T), .own false SW, .emp, .emp, .emp]) := by
      rw [ev_bin, g1, Option.bind_some]
      simp only [f3, Option.bind_some, R.get, d2, Option.map_some]
    rw [ev_bin, g2, Option.bind_some]
    simp only [f4, Option.bind_some, R.get, d3, Option.map_some]
  exact run_ok (Nat.le_of_ble_eq_true rfl) (key p_steps_by) rfl rfl
section
variable {h : D} {k : Nat} {r : List D} {tl : List (Nat × List Int)}
end
end L23

set_option maxRecDepth 100000
set_option linter.all false
set_option maxHeartbeats 4000000
namespace L23
open Mi PySem
abbrev W (a b c : Int) : List D := [.int a, .int b, .int c]
theorem draw_ok (a b c : Int) {n : Int} (h0 : 0 < n) (h1 : n < 1073741824) : ∃ a' b' c' r, 0 ≤ r ∧ r < n ∧ m_law_draw [.own (W a b c), .val (.int n)] = some (.val (.int r), [W a' b' c']) := by
  by_cases ha : 0 < a
  · refine ⟨a / n, b, c, a % n, Int.emod_nonneg a (by omega), Int.emod_lt_of_pos a h0, ?_⟩
    simp [m_law_draw, b_law_draw, p_law_draw, ha, h0, h1, runFn, bk, st, L2.atI, L2.ixN, ev_slot, ev_lit, ev_gc, ev_bin, ev_neg, ev_not, ev_and, ev_or, ev_cmp, ev_cmp2, ev_ite, ev_tup, ev_lst, ev_ix, ev_sl, ev_f1, ev_f2, ev_isT, ev_call, ev_callK, evs, evo, evo', evA, callD, argsOf, PArg.arg, ownsOf, putOuts, toB, R.get, R.sto, R.flat, cmpD, ltD, leD, isND, binD, addD, subD, modD, ixD, slD, f1D, f2D, lenD, absD, intD, retR, outsOf, Arg.slot, putP, putPs, evRs, setR, okSet, subR, isOwn, putT, putTs, Lit.d, isTD, isEmp, wipeS, compF, max2D, min2D, dmD, lstD, tupD]
  · have hb : ∀ x : Int, -(2 ^ 64) < x.fmod 5003 + 40009 ∧ x.fmod 5003 + 40009 < 2 ^ 64 := fun x => by
      have := Int.fmod_nonneg_of_pos x (b := 5003) (by decide)
      have := Int.fmod_lt_of_pos x (b := 5003) (by decide)
      omega
    let se := (b * 48017 + 12347 * (c + 1)).fmod 2147483249
    let b' := (se * (se.fmod 5003 + 40009) + (c + 1)).fmod 2147483249
    refine ⟨a, b', c + 1, (b'.fdiv 811).fmod n, Int.fmod_nonneg_of_pos _ h0, Int.fmod_lt_of_pos _ h0, ?_⟩
    have m1 := fun x => mulD_r (i := x) (j := 48017) (by decide) (by decide)
    have m2 := fun x => mulD_l (i := 12347) (j := x) (by decide) (by decide)
    have m3 := fun x y => mulD_r (i := x) (j := y.fmod 5003 + 40009) (hb y).1 (hb y).2
    simp [m_law_draw, b_law_draw, p_law_draw, ha, m1, m2, m3, fdivD, runFn, bk, st, L2.atI, L2.ixN, se, b', Int.ne_of_gt h0, ev_slot, ev_lit, ev_gc, ev_bin, ev_neg, ev_not, ev_and, ev_or, ev_cmp, ev_cmp2, ev_ite, ev_tup, ev_lst, ev_ix, ev_sl, ev_f1, ev_f2, ev_isT, ev_call, ev_callK, evs, evo, evo', evA, callD, argsOf, PArg.arg, ownsOf, putOuts, toB, R.get, R.sto, R.flat, cmpD, ltD, leD, isND, binD, addD, subD, modD, ixD, slD, f1D, f2D, lenD, absD, intD, retR, outsOf, Arg.slot, putP, putPs, evRs, setR, okSet, subR, isOwn, putT, putTs, Lit.d, isTD, isEmp, wipeS, compF, max2D, min2D, dmD, lstD, tupD]
theorem any_of_ok (a b c : Int) {ds : List D} (h0 : ds ≠ []) (h1 : ds.length < 1000) : ∃ a' b' c' d, d ∈ ds ∧ m_law_any_of [.own (W a b c), .val (.tuple ds)] = some (.val d, [W a' b' c']) := by
  have hl : 0 < ds.length := List.length_pos_iff.mpr h0
  obtain ⟨a', b', c', r, r0, r1, e⟩ := draw_ok a b c (n := (ds.length : Int)) (by omega) (by omega)
  obtain ⟨k, rfl⟩ := Int.eq_ofNat_of_zero_le r0
  have hk : k < ds.length := by omega
  refine ⟨a', b', c', ds[k], List.getElem_mem hk, ?_⟩
  have hx : L2.atI ds (k : Int) = some ds[k] := by
    rw [L2.atI_nat (j := k) (List.getElem?_eq_getElem hk)]
  simp [m_law_any_of, b_law_any_of, p_law_any_of, e, hx, runFn, bk, st, ev_slot, ev_lit, ev_gc, ev_bin, ev_neg, ev_not, ev_and, ev_or, ev_cmp, ev_cmp2, ev_ite, ev_tup, ev_lst, ev_ix, ev_sl, ev_f1, ev_f2, ev_isT, ev_call, ev_callK, evs, evo, evo', evA, callD, argsOf, PArg.arg, ownsOf, putOuts, toB, R.get, R.sto, R.flat, cmpD, ltD, leD, isND, binD, addD, subD, modD, ixD, slD, f1D, f2D, lenD, absD, intD, retR, outsOf, Arg.slot, putP, putPs, evRs, setR, okSet, subR, isOwn, putT, putTs, Lit.d, isTD, isEmp, wipeS, compF, max2D, min2D, dmD, lstD, tupD]
theorem cut_ints {ns : List Int} {lo hi : Option Int} {d : D} (h : d ∈ cutD (ns.map PyData.int) lo hi) : ∃ i : Int, d = .int i := by
  have := List.mem_of_mem_drop (List.mem_of_mem_take h)
  obtain ⟨i, _, rfl⟩ := List.mem_map.mp this
  exact ⟨i, rfl⟩
theorem well_ok (ns : List Int) {t : Int} (ht : 0 ≤ t) : ∃ a b c, m_law_well [.val (scr (ns.map PyData.int)), .val (.int t)] = some (.new (W a b c), []) := by
  have m1 := fun x => mulD_l (i := 7433) (j := x) (by decide) (by decide)
  have m2 := fun x => mulD_r (i := x) (j := 61001) (by decide) (by decide)
  have m3 := fun x => mulD_r (i := x) (j := 3) (by decide) (by decide)
  have m4 := fun x => mulD_r (i := x) (j := 37) (by decide) (by decide)
  have m5 := fun x => mulD_r (i := x) (j := 27011) (by decide) (by decide)
  obtain ⟨s', e, sd, y, hi, hy⟩ := forL_inv (put := fun d s => putT (.name 3) d s) (body := fun s => bk p_law_well (.cons (.asg (.name 2) (.bin .mod (.f1 .int (.bin .add (.bin .add (.bin .mul (.slot 2) (.lit (.int 61001))) (.bin .mul (.bin .mod (.f1 .int (.slot 3)) (.lit (.int 2147483237))) (.lit (.int 3)))) (.lit (.int 19)))) (.lit (.int 2147483249)))) (.nil)) s) (cutD (ns.map PyData.int) none (some 8))
    (fun i s => ∃ sd y, s = [.val (scr (ns.map PyData.int)), .val (.int t), .val (.int sd), y, .emp] ∧ ∀ q xs, y ≠ .own q xs) (by
      rintro i d s hd ⟨sd, y, rfl, hy⟩
      obtain ⟨ce, rfl⟩ := cut_ints (List.mem_of_getElem? hd)
      refine ⟨[.val (scr (ns.map PyData.int)), .val (.int t), .val (.int sd), .val (.int ce), .emp], [.val (scr (ns.map PyData.int)), .val (.int t), .val (.int ((sd * 61001 + ce.fmod 2147483237 * 3 + 19).fmod 2147483249)), .val (.int ce), .emp], ?_, ?_, ⟨_, _, rfl, nofun⟩⟩
      · cases y <;> first | rfl | exact absurd rfl (hy _ _)
      · simp [m2, m3, bk, st, ev_slot, ev_lit, ev_gc, ev_bin, ev_neg, ev_not, ev_and, ev_or, ev_cmp, ev_cmp2, ev_ite, ev_tup, ev_lst, ev_ix, ev_sl, ev_f1, ev_f2, ev_isT, ev_call, ev_callK, evs, evo, evo', evA, callD, argsOf, PArg.arg, ownsOf, putOuts, toB, R.get, R.sto, R.flat, cmpD, ltD, leD, isND, binD, addD, subD, modD, ixD, slD, f1D, f2D, lenD, absD, intD, retR, outsOf, Arg.slot, putP, putPs, evRs, setR, okSet, subR, isOwn, putT, putTs, Lit.d, isTD, isEmp, wipeS, compF, max2D, min2D, dmD, lstD, tupD]) 0 [.val (scr (ns.map PyData.int)), .val (.int t), .val (.int (55085 + 7433 * t)), .emp, .emp] (Nat.zero_le _) ⟨_, .emp, rfl, nofun⟩
  subst hi
  rw [List.drop_zero] at e
  have own : ∃ o : Int, ev p_law_well (.ite (.cmp .lt (.slot 1) (.f1 .len (.slot 0))) (.f1 .int (.ix (.slot 0) (.slot 1))) (.lit (.int 0))) [.val (scr (ns.map PyData.int)), .val (.int t), .val (.int sd), y, .emp] = some (.val (.int o), [.val (scr (ns.map PyData.int)), .val (.int t), .val (.int sd), y, .emp]) := by
    by_cases q : t < (ns.length : Int)
    · obtain ⟨k, rfl⟩ := Int.eq_ofNat_of_zero_le ht
      have hk : k < ns.length := by omega
      have hx : L2.atI (ns.map PyData.int) (k : Int) = some (.int ns[k]) := by
        rw [L2.atI_nat (j := k)]
        rw [List.getElem?_map, List.getElem?_eq_getElem hk]
        rfl
      exact ⟨ns[k], by simp [scr, q, hk, hx, ev_slot, ev_lit, ev_gc, ev_bin, ev_neg, ev_not, ev_and, ev_or, ev_cmp, ev_cmp2, ev_ite, ev_tup, ev_lst, ev_ix, ev_sl, ev_f1, ev_f2, ev_isT, ev_call, ev_callK, evs, evo, evo', evA, callD, argsOf, PArg.arg, ownsOf, putOuts, toB, R.get, R.sto, R.flat, cmpD, ltD, leD, isND, binD, addD, subD, modD, ixD, slD, f1D, f2D, lenD, absD, intD, retR, outsOf, Arg.slot, putP, putPs, evRs, setR, okSet, subR, isOwn, putT, putTs, Lit.d, isTD, isEmp, wipeS, compF, max2D, min2D, dmD, lstD, tupD]⟩
    · exact ⟨0, by simp [scr, q, ev_slot, ev_lit, ev_gc, ev_bin, ev_neg, ev_not, ev_and, ev_or, ev_cmp, ev_cmp2, ev_ite, ev_tup, ev_lst, ev_ix, ev_sl, ev_f1, ev_f2, ev_isT, ev_call, ev_callK, evs, evo, evo', evA, callD, argsOf, PArg.arg, ownsOf, putOuts, toB, R.get, R.sto, R.flat, cmpD, ltD, leD, isND, binD, addD, subD, modD, ixD, slD, f1D, f2D, lenD, absD, intD, retR, outsOf, Arg.slot, putP, putPs, evRs, setR, okSet, subR, isOwn, putT, putTs, Lit.d, isTD, isEmp, wipeS, compF, max2D, min2D, dmD, lstD, tupD]⟩
  obtain ⟨o, ho⟩ := own
  have hz : (3 : Nat) ≤ sizeLine := sl_le (by decide)
  have hpow : powD (.int 10) (.int 15) = some (.val (.int 1000000000000000)) := by
    show (if (0 : Int) ≤ 15 ∧ (15 : Int) ≤ 1000000 ∧ (10 : Int).natAbs < 2 ^ 64 then some (R.val (.int (10 ^ (15 : Int).toNat))) else none) = _
    rw [if_pos (by decide)]
    rfl
  have fin : ∃ a b c, ev p_law_well (.lst (.cons (.ite (.or (.cmp .lt (.slot 4) (.lit (.int 0))) (.cmp .ge (.slot 4) (.bin .pow (.lit (.int 10)) (.lit (.int 15))))) (.f1 .abs (.slot 4)) (.lit (.int 0))) (.cons (.slot 2) (.cons (.lit (.int 0)) (.nil))))) [.val (scr (ns.map PyData.int)), .val (.int t), .val (.int ((sd * 37 + o.fmod 2147483237 * 27011 + 5).fmod 2147483249)), y, .val (.int o)] = some (.new (W a b c), [.val (scr (ns.map PyData.int)), .val (.int t), .val (.int ((sd * 37 + o.fmod 2147483237 * 27011 + 5).fmod 2147483249)), y, .val (.int o)]) := by
    by_cases q1 : o < 0
    · exact ⟨-o, (sd * 37 + o.fmod 2147483237 * 27011 + 5).fmod 2147483249, 0, by simp [hpow, q1, hz, ev_slot, ev_lit, ev_gc, ev_bin, ev_neg, ev_not, ev_and, ev_or, ev_cmp, ev_cmp2, ev_ite, ev_tup, ev_lst, ev_ix, ev_sl, ev_f1, ev_f2, ev_isT, ev_call, ev_callK, evs, evo, evo', evA, callD, argsOf, PArg.arg, ownsOf, putOuts, toB, R.get, R.sto, R.flat, cmpD, ltD, leD, isND, binD, addD, subD, modD, ixD, slD, f1D, f2D, lenD, absD, intD, retR, outsOf, Arg.slot, putP, putPs, evRs, setR, okSet, subR, isOwn, putT, putTs, Lit.d, isTD, isEmp, wipeS, compF, max2D, min2D, dmD, lstD, tupD]⟩
    · by_cases q2 : 1000000000000000 ≤ o
      · exact ⟨o, (sd * 37 + o.fmod 2147483237 * 27011 + 5).fmod 2147483249, 0, by simp [hpow, q1, q2, hz, ev_slot, ev_lit, ev_gc, ev_bin, ev_neg, ev_not, ev_and, ev_or, ev_cmp, ev_cmp2, ev_ite, ev_tup, ev_lst, ev_ix, ev_sl, ev_f1, ev_f2, ev_isT, ev_call, ev_callK, evs, evo, evo', evA, callD, argsOf, PArg.arg, ownsOf, putOuts, toB, R.get, R.sto, R.flat, cmpD, ltD, leD, isND, binD, addD, subD, modD, ixD, slD, f1D, f2D, lenD, absD, intD, retR, outsOf, Arg.slot, putP, putPs, evRs, setR, okSet, subR, isOwn, putT, putTs, Lit.d, isTD, isEmp, wipeS, compF, max2D, min2D, dmD, lstD, tupD]⟩
      · exact ⟨0, (sd * 37 + o.fmod 2147483237 * 27011 + 5).fmod 2147483249, 0, by simp [hpow, q1, q2, hz, ev_slot, ev_lit, ev_gc, ev_bin, ev_neg, ev_not, ev_and, ev_or, ev_cmp, ev_cmp2, ev_ite, ev_tup, ev_lst, ev_ix, ev_sl, ev_f1, ev_f2, ev_isT, ev_call, ev_callK, evs, evo, evo', evA, callD, argsOf, PArg.arg, ownsOf, putOuts, toB, R.get, R.sto, R.flat, cmpD, ltD, leD, isND, binD, addD, subD, modD, ixD, slD, f1D, f2D, lenD, absD, intD, retR, outsOf, Arg.slot, putP, putPs, evRs, setR, okSet, subR, isOwn, putT, putTs, Lit.d, isTD, isEmp, wipeS, compF, max2D, min2D, dmD, lstD, tupD]⟩
  obtain ⟨a, b, c, hf⟩ := fin
  refine ⟨a, b, c, run_ok (fl := .ret (.new (W a b c))) (s1 := [.val (scr (ns.map PyData.int)), .val (.int t), .val (.int ((sd * 37 + o.fmod 2147483237 * 27011 + 5).fmod 2147483249)), y, .val (.int o)]) (Nat.le_of_ble_eq_true rfl) ?_ rfl rfl⟩
  refine bk_asg (r := .val (.int (55085 + 7433 * t))) (s1 := [.val (scr (ns.map PyData.int)), .val (.int t), .emp, .emp, .emp]) ?_ (s2 := [.val (scr (ns.map PyData.int)), .val (.int t), .val (.int (55085 + 7433 * t)), .emp, .emp]) rfl (bk_for rfl e ?_)
  · simp [m1, ev_slot, ev_lit, ev_gc, ev_bin, ev_neg, ev_not, ev_and, ev_or, ev_cmp, ev_cmp2, ev_ite, ev_tup, ev_lst, ev_ix, ev_sl, ev_f1, ev_f2, ev_isT, ev_call, ev_callK, evs, evo, evo', evA, callD, argsOf, PArg.arg, ownsOf, putOuts, toB, R.get, R.sto, R.flat, cmpD, ltD, leD, isND, binD, addD, subD, modD, ixD, slD, f1D, f2D, lenD, absD, intD, retR, outsOf, Arg.slot, putP, putPs, evRs, setR, okSet, subR, isOwn, putT, putTs, Lit.d, isTD, isEmp, wipeS, compF, max2D, min2D, dmD, lstD, tupD]
  · refine bk_asg ho (s2 := [.val (scr (ns.map PyData.int)), .val (.int t), .val (.int sd), y, .val (.int o)]) rfl (bk_asg (r := .val (.int ((sd * 37 + o.fmod 2147483237 * 27011 + 5).fmod 2147483249))) (s1 := [.val (scr (ns.map PyData.int)), .val (.int t), .val (.int sd), y, .val (.int o)]) ?_ (s2 := [.val (scr (ns.map PyData.int)), .val (.int t), .val (.int ((sd * 37 + o.fmod 2147483237 * 27011 + 5).fmod 2147483249)), y, .val (.int o)]) rfl (bk_ret hf rfl))
    simp [m4, m5, ev_slot, ev_lit, ev_gc, ev_bin, ev_neg, ev_not, ev_and, ev_or, ev_cmp, ev_cmp2, ev_ite, ev_tup, ev_lst, ev_ix, ev_sl, ev_f1, ev_f2, ev_isT, ev_call, ev_callK, evs, evo, evo', evA, callD, argsOf, PArg.arg, ownsOf, putOuts, toB, R.get, R.sto, R.flat, cmpD, ltD, leD, isND, binD, addD, subD, modD, ixD, slD, f1D, f2D, lenD, absD, intD, retR, outsOf, Arg.slot, putP, putPs, evRs, setR, okSet, subR, isOwn, putT, putTs, Lit.d, isTD, isEmp, wipeS, compF, max2D, min2D, dmD, lstD, tupD]
end L23

set_option maxRecDepth 100000
set_option linter.all false
set_option maxHeartbeats 4000000
namespace L23
open Mi PySem
/-! ### writes, plainly -/
theorem setAll_app (ds : List D) (a b : List (Nat × List Int)) : setAll ds (a ++ b) = setAll (setAll ds a) b := List.foldl_append
theorem setAll_not {ws : List (Nat × List Int)} {j : Nat} : ∀ {ds : List D}, (∀ w ∈ ws, w.1 ≠ j) → (setAll ds ws)[j]? = ds[j]? := by
  induction ws with
  | nil => intro ds _; rfl
  | cons w ws ih =>
    intro ds h
    show (setAll (ds.set w.1 (tI w.2)) ws)[j]? = _
    rw [ih fun v hv => h v (List.mem_cons_of_mem _ hv), List.getElem?_set_ne (h w List.mem_cons_self)]
theorem setAll_mem {ws : List (Nat × List Int)} {w : Nat × List Int} : ∀ {ds : List D}, (ws.map (·.1)).Nodup → w ∈ ws → w.1 < ds.length → (setAll ds ws)[w.1]? = some (tI w.2) := by
  induction ws with
  | nil => intro ds _ h; cases h
  | cons v ws ih =>
    intro ds hn h hl
    rw [List.map_cons, List.nodup_cons] at hn
    show (setAll (ds.set v.1 (tI v.2)) ws)[w.1]? = _
    rcases List.mem_cons.mp h with rfl | h
    · rw [setAll_not fun u hu z => hn.1 (List.mem_map.mpr ⟨u, hu, z⟩), List.getElem?_set_self hl]
    · exact ih hn.2 h (by rw [List.length_set]; exact hl)
theorem setAll_same {a b : List (Nat × List Int)} {ds : List D} (ha : (a.map (·.1)).Nodup) (hb : (b.map (·.1)).Nodup) (hab : ∀ w, w ∈ a ↔ w ∈ b) (hl : ∀ w ∈ a, w.1 < ds.length) : setAll ds a = setAll ds b := by
  apply List.ext_getElem?
  intro j
  by_cases q : ∃ w ∈ a, w.1 = j
  · obtain ⟨w, hw, rfl⟩ := q
    rw [setAll_mem ha hw (hl w hw), setAll_mem hb ((hab w).mp hw) (hl w hw)]
  · rw [setAll_not fun w hw z => q ⟨w, hw, z⟩, setAll_not fun w hw z => q ⟨w, (hab w).mpr hw, z⟩]
theorem setAll_all {ws : List (Nat × List Int)} {P : D → Prop} : ∀ {ds : List D}, (∀ d ∈ ds, P d) → (∀ w ∈ ws, P (tI w.2)) → ∀ d ∈ setAll ds ws, P d := by
  induction ws with
  | nil => intro ds h _; exact h
  | cons w ws ih =>
    intro ds h hw
    show ∀ d ∈ setAll (ds.set w.1 (tI w.2)) ws, P d
    refine ih (fun d hd => ?_) fun v hv => hw v (List.mem_cons_of_mem _ hv)
    rcases List.mem_or_eq_of_mem_set hd with z | z
    · exact h d z
    · rw [z]
      exact hw w List.mem_cons_self
/-! ### unlike ones -/
theorem unlike_ok (a b c : Int) {ps : List Nat} {n : Nat} (hn : n ≤ ps.length) (hl : ps.length ≤ 100) : ∃ (a' b' c' : Int) (qs : List Nat), (∃ ls : List Nat, (qs ++ ls).Perm ps) ∧ qs.length = n ∧ m_law_unlike [.own (W a b c), .val (.list (ps.map nI)), .val (.int n)] = some (.new (qs.map nI), [W a' b' c']) := by
  have key : ∀ Φ : Phi, Φ.fn 0 = m_law_draw → ∃ (a' b' c' : Int) (qs ls : List Nat) (y y' : Mi.Slot), (qs ++ ls).Perm ps ∧ qs.length = n ∧ bk Φ b_law_unlike [.own true (W a b c), .val (.list (ps.map nI)), .val (.int n), .emp, .emp, .emp, .emp] = some (.ret (.new (qs.map nI)), [.own true (W a' b' c'), .val (.list (ps.map nI)), .val (.int n), y, .own false (ls.map nI), .own false (qs.map nI), y']) := fun Φ f0 => by
    obtain ⟨s', ef, a', b', c', qs, ls, y, y', rfl, hp, hq, hy, hy'⟩ := forL_inv (put := fun d s => putT (.name 3) d s) (body := fun s => bk Φ (.cons (.asg (.name 6) (.call 0 (.m 0 (.v (.f1 .len (.slot 4)) (.nil))))) (.cons (.app 5 (.ix (.slot 4) (.slot 6))) (.cons (.asg (.name 4) (.bin .add (.sl (.slot 4) .none (.some (.slot 6))) (.sl (.slot 4) (.some (.bin .add (.slot 6) (.lit (.int 1)))) .none))) (.nil)))) s) (rgD 0 n)
      (fun i s => ∃ (a' b' c' : Int) (qs ls : List Nat) (y y' : Mi.Slot), s = [.own true (W a' b' c'), .val (.list (ps.map nI)), .val (.int n), y, .own false (ls.map nI), .own false (qs.map nI), y'] ∧ (qs ++ ls).Perm ps ∧ qs.length = i ∧ (∀ o zs, y ≠ .own o zs) ∧ ∀ o zs, y' ≠ .own o zs) (by
        rintro i d s hd ⟨a', b', c', qs, ls, y, y', rfl, hp, hq, hy, hy'⟩
        have hi : i < n := by
          have := (List.getElem?_eq_some_iff.mp hd).1
          rw [rgD_len] at this
          exact this
        have hlen := hp.length_eq
        rw [List.length_append] at hlen
        obtain ⟨a2, b2, c2, r, r0, r1, e⟩ := draw_ok a' b' c' (n := (ls.length : Int)) (by omega) (by omega)
        obtain ⟨j, rfl⟩ := Int.eq_ofNat_of_zero_le r0
        have hj : j < ls.length := by omega
        have hx : L2.atI (ls.map nI) (j : Int) = some (nI ls[j]) := L2.atI_nat (by rw [List.getElem?_map, List.getElem?_eq_getElem hj]; rfl)
        have c1 : cutD (ls.map nI) none (some (j : Int)) = (ls.take j).map nI := by rw [cut_to, List.map_take]
        have c2' : cutD (ls.map nI) (some ((j : Int) + 1)) none = (ls.drop (j + 1)).map nI := by
          rw [show (j : Int) + 1 = ((j + 1 : Nat) : Int) by omega, cut_at, List.map_drop]
        have hsz : (ls.take j).length + (ls.drop (j + 1)).length ≤ sizeLine := sl_le (by rw [List.length_take, List.length_drop]; omega)
        have hq2 : qs.length < sizeLine := sl_le (show qs.length + 1 ≤ 2000 by omega)
        have hll : ((ls.length : Nat) : Int) = ((ls.map nI).length : Nat) := by rw [List.length_map]
        have perm : (qs ++ [ls[j]] ++ (ls.take j ++ ls.drop (j + 1))).Perm ps := by
          refine List.Perm.trans ?_ hp
          rw [List.append_assoc]
          refine List.Perm.append_left qs ?_
          have e1 : ls.take j ++ (ls[j] :: ls.drop (j + 1)) = ls := by rw [← List.drop_eq_getElem_cons hj, List.take_append_drop]
          have e2 : ([ls[j]] ++ (ls.take j ++ ls.drop (j + 1))).Perm (ls.take j ++ (ls[j] :: ls.drop (j + 1))) := by
            show (ls[j] :: (ls.take j ++ ls.drop (j + 1))).Perm _
            exact List.perm_middle.symm
          rw [e1] at e2
          exact e2
        have ad : addD (.list ((ls.take j).map nI)) (.list ((ls.drop (j + 1)).map nI)) = some (.new ((ls.take j ++ ls.drop (j + 1)).map nI)) := by
          rw [List.map_append]
          exact if_pos (by rw [List.length_map, List.length_map]; exact hsz)
        have hqm : (qs.map nI).length < sizeLine := by rw [List.length_map]; exact hq2
        have eq2 : (qs ++ [ls[j]]).map nI = qs.map nI ++ [nI ls[j]] := by rw [List.map_append]; rfl
        refine ⟨[.own true (W a' b' c'), .val (.list (ps.map nI)), .val (.int n), .val d, .own false (ls.map nI), .own false (qs.map nI), y'], [.own true (W a2 b2 c2), .val (.list (ps.map nI)), .val (.int n), .val d, .own false ((ls.take j ++ ls.drop (j + 1)).map nI), .own false ((qs ++ [ls[j]]).map nI), .val (.int j)], ?_, ?_, ⟨a2, b2, c2, qs ++ [ls[j]], ls.take j ++ ls.drop (j + 1), .val d, .val (.int j), rfl, perm, by rw [List.length_append, hq]; rfl, nofun, nofun⟩⟩
        · cases y <;> first | rfl | exact absurd rfl (hy _ _)
        · rw [hll] at e
          generalize ls.map nI = LS at e hx c1 c2'
          generalize (ls.take j).map nI = L1 at c1 ad
          generalize (ls.drop (j + 1)).map nI = L2' at c2' ad
          generalize (ls.take j ++ ls.drop (j + 1)).map nI = L3 at ad
          rw [eq2]
          generalize qs.map nI = Q at hqm
          generalize nI ls[j] = v at hx
          generalize (j : Int) = ji at e hx c1 c2'
          refine bk_asg (r := .val (.int ji)) (s1 := [.own true (W a2 b2 c2), .val (.list (ps.map nI)), .val (.int n), .val d, .own false LS, .own false Q, y']) ?_ (s2 := [.own true (W a2 b2 c2), .val (.list (ps.map nI)), .val (.int n), .val d, .own false LS, .own false Q, .val (.int ji)]) ?_ ?_
          · simp [f0, e, ev_slot, ev_lit, ev_gc, ev_bin, ev_neg, ev_not, ev_and, ev_or, ev_cmp, ev_cmp2, ev_ite, ev_tup, ev_lst, ev_ix, ev_sl, ev_f1, ev_f2, ev_isT, ev_call, ev_callK, evs, evo, evo', evA, callD, argsOf, PArg.arg, ownsOf, putOuts, toB, R.get, R.sto, R.flat, cmpD, ltD, leD, isND, binD, addD, subD, modD, ixD, slD, f1D, f2D, lenD, absD, intD, retR, outsOf, Arg.slot, putP, putPs, evRs, setR, okSet, subR, isOwn, putT, putTs, Lit.d, isTD, isEmp, wipeS, compF, max2D, min2D, dmD, lstD, tupD]
          · cases y' <;> first | rfl | exact absurd rfl (hy' _ _)
          refine bk_app (p := false) (xs := Q) (d := v) (r := .val v) (s1 := [.own true (W a2 b2 c2), .val (.list (ps.map nI)), .val (.int n), .val d, .own false LS, .own false Q, .val (.int ji)]) rfl ?_ rfl rfl hqm ?_
          · simp [hx, ev_slot, ev_lit, ev_gc, ev_bin, ev_neg, ev_not, ev_and, ev_or, ev_cmp, ev_cmp2, ev_ite, ev_tup, ev_lst, ev_ix, ev_sl, ev_f1, ev_f2, ev_isT, ev_call, ev_callK, evs, evo, evo', evA, callD, argsOf, PArg.arg, ownsOf, putOuts, toB, R.get, R.sto, R.flat, cmpD, ltD, leD, isND, binD, addD, subD, modD, ixD, slD, f1D, f2D, lenD, absD, intD, retR, outsOf, Arg.slot, putP, putPs, evRs, setR, okSet, subR, isOwn, putT, putTs, Lit.d, isTD, isEmp, wipeS, compF, max2D, min2D, dmD, lstD, tupD]
          show bk Φ _ [.own true (W a2 b2 c2), .val (.list (ps.map nI)), .val (.int n), .val d, .own false LS, .own false (Q ++ [v]), .val (.int ji)] = _
          refine bk_asg (r := .new L3) (s1 := [.own true (W a2 b2 c2), .val (.list (ps.map nI)), .val (.int n), .val d, .own false LS, .own false (Q ++ [v]), .val (.int ji)]) ?_ (s2 := [.own true (W a2 b2 c2), .val (.list (ps.map nI)), .val (.int n), .val d, .own false L3, .own false (Q ++ [v]), .val (.int ji)]) rfl rfl
          have ad' : binD .add (.list L1) (.list L2') = some (.new L3) := ad
          have g1 : ev Φ (.sl (.slot 4) .none (.some (.slot 6))) [.own true (W a2 b2 c2), .val (.list (ps.map nI)), .val (.int n), .val d, .own false LS, .own false (Q ++ [v]), .val (.int ji)] = some (.new L1, [.own true (W a2 b2 c2), .val (.list (ps.map nI)), .val (.int n), .val d, .own false LS, .own false (Q ++ [v]), .val (.int ji)]) := by
            simp [c1, ev_slot, ev_lit, ev_gc, ev_bin, ev_neg, ev_not, ev_and, ev_or, ev_cmp, ev_cmp2, ev_ite, ev_tup, ev_lst, ev_ix, ev_sl, ev_f1, ev_f2, ev_isT, ev_call, ev_callK, evs, evo, evo', evA, callD, argsOf, PArg.arg, ownsOf, putOuts, toB, R.get, R.sto, R.flat, cmpD, ltD, leD, isND, binD, addD, subD, modD, ixD, slD, f1D, f2D, lenD, absD, intD, retR, outsOf, Arg.slot, putP, putPs, evRs, setR, okSet, subR, isOwn, putT, putTs, Lit.d, isTD, isEmp, wipeS, compF, max2D, min2D, dmD, lstD, tupD]
          have g2 : ev Φ (.sl (.slot 4) (.some (.bin .add (.slot 6) (.lit (.int 1)))) .none) [.own true (W a2 b2 c2), .val (.list (ps.map nI)), .val (.int n), .val d, .own false LS, .own false (Q ++ [v]), .val (.int ji)] = some (.new L2', [.own true (W a2 b2 c2), .val (.list (ps.map nI)), .val (.int n), .val d, .own false LS, .own false (Q ++ [v]), .val (.int ji)]) := by
            simp [c2', ev_slot, ev_lit, ev_gc, ev_bin, ev_neg, ev_not, ev_and, ev_or, ev_cmp, ev_cmp2, ev_ite, ev_tup, ev_lst, ev_ix, ev_sl, ev_f1, ev_f2, ev_isT, ev_call, ev_callK, evs, evo, evo', evA, callD, argsOf, PArg.arg, ownsOf, putOuts, toB, R.get, R.sto, R.flat, cmpD, ltD, leD, isND, binD, addD, subD, modD, ixD, slD, f1D, f2D, lenD, absD, intD, retR, outsOf, Arg.slot, putP, putPs, evRs, setR, okSet, subR, isOwn, putT, putTs, Lit.d, isTD, isEmp, wipeS, compF, max2D, min2D, dmD, lstD, tupD]
          rw [ev_bin, g1, Option.bind_some]
          simp only [g2, Option.bind_some, R.get, ad', Option.map_some]) 0 [.own true (W a b c), .val (.list (ps.map nI)), .val (.int n), .emp, .own false (ps.map nI), .own false [], .emp] (Nat.zero_le _) ⟨a, b, c, [], ps, .emp, .emp, rfl, List.Perm.refl _, rfl, nofun, nofun⟩
    rw [rgD_len] at hq
    rw [List.drop_zero] at ef
    refine ⟨a', b', c', qs, ls, y, y', hp, hq, bk_par (rs := [.new (ps.map nI), .new []]) (s1 := [.own true (W a b c), .val (.list (ps.map nI)), .val (.int n), .emp, .emp, .emp, .emp]) (sl_le (by decide)) ?_ (s2 := [.own true (W a b c), .val (.list (ps.map nI)), .val (.int n), .emp, .own false (ps.map nI), .own false [], .emp]) rfl (bk_for (evI_rng0 (j := (n : Int)) rfl (by omega) (by omega)) (by simpa using ef) rfl)⟩
    generalize ps.map nI = P
    simp [ev_slot, ev_lit, ev_gc, ev_bin, ev_neg, ev_not, ev_and, ev_or, ev_cmp, ev_cmp2, ev_ite, ev_tup, ev_lst, ev_ix, ev_sl, ev_f1, ev_f2, ev_isT, ev_call, ev_callK, evs, evo, evo', evA, callD, argsOf, PArg.arg, ownsOf, putOuts, toB, R.get, R.sto, R.flat, cmpD, ltD, leD, isND, binD, addD, subD, modD, ixD, slD, f1D, f2D, lenD, absD, intD, retR, outsOf, Arg.slot, putP, putPs, evRs, setR, okSet, subR, isOwn, putT, putTs, Lit.d, isTD, isEmp, wipeS, compF, max2D, min2D, dmD, lstD, tupD]
  obtain ⟨a', b', c', qs, ls, y, y', hp, hq, e⟩ := key p_law_unlike q_law_unlike_0
  exact ⟨a', b', c', qs, ⟨ls, hp⟩, hq, run_ok (Nat.le_of_ble_eq_true rfl) e rfl rfl⟩
end L23

set_option maxRecDepth 100000
set_option linter.all false
set_option maxHeartbeats 4000000
namespace L23
open Mi PySem
/-! ### drawn blocks -/
theorem lay_ints (ys : List Int) : PyData.canLay0 (.list (ys.map PyData.int)) = true ∧ PyData.depthAll (ys.map PyData.int) = 0 := by
  induction ys with
  | nil => exact ⟨by simp [PyData.canLay0, PyData.canLayAll0], by simp [PyData.depthAll]⟩
  | cons y ys ih =>
    refine ⟨?_, ?_⟩
    · have := ih.1
      simp only [List.map_cons, PyData.canLay0, PyData.canLayAll0] at this ⊢
      simp [this]
    · have := ih.2
      simp only [List.map_cons, PyData.depthAll, PyData.depth] at this ⊢
      omega
theorem eqq_list (xs : List Int) : eqqD (.list (xs.map .int)) (.list []) = some xs.isEmpty := by
  have sh : ∀ ys : List Int, SeqAt.shaped (.list (ys.map PyData.int)) = true := fun ys => by
    unfold SeqAt.shaped
    rw [(lay_ints ys).1, Bool.true_and]
    refine decide_eq_true ?_
    have := (lay_ints ys).2
    simp only [PyData.depth]
    omega
  have e : eqqD (.list (xs.map .int)) (.list []) = if SeqAt.shaped (.list (xs.map PyData.int)) = true ∧ SeqAt.shaped (.list []) = true then some (PyData.eqv (.list (xs.map .int)) (.list [])) else none := rfl
  rw [e, if_pos ⟨sh xs, sh []⟩]
  cases xs <;> rfl
theorem pow9 : powD (.int 10) (.int 9) = some (.val (.int 1000000000)) := by
  show (if (0 : Int) ≤ 9 ∧ (9 : Int) ≤ 1000000 ∧ (10 : Int).natAbs < 2 ^ 64 then some (R.val (.int (10 ^ (9 : Int).toNat))) else none) = _
  rw [if_pos (by decide)]
  rfl
theorem pow60 : ∃ g : Int, powD (.int 10) (.int 60) = some (.val (.int g)) ∧ 0 < g ∧ g ≤ 10 ^ 60 := by
  refine ⟨10 ^ 60, ?_, by decide, by decide⟩
  show (if (0 : Int) ≤ 60 ∧ (60 : Int) ≤ 1000000 ∧ (10 : Int).natAbs < 2 ^ 64 then some (R.val (.int (10 ^ (60 : Int).toNat))) else none) = _
  rw [if_pos (by decide)]
  rfl
theorem big_ok {r g : Int} (h0 : 0 ≤ r) (h1 : r < 30) (g0 : 0 < g) (g1 : g ≤ 10 ^ 60) : 0 ≤ r * g ∧ r * g < big := by
  have a := Int.mul_nonneg h0 (show 0 ≤ g by omega)
  have b : r * g ≤ 29 * g := Int.mul_le_mul_of_nonneg_right (by omega) (by omega)
  have c : (29 : Int) * 10 ^ 60 < big := by decide
  have d : 29 * g ≤ 29 * 10 ^ 60 := Int.mul_le_mul_of_nonneg_left g1 (by decide)
  exact ⟨a, by omega⟩
theorem numbers_ok (a b c : Int) {n : Nat} (hn : n ≤ 100) (hn4 : 4 ≤ n) : ∃ (a' b' c' : Int) (xs : List Int), OkI n xs ∧ m_law_numbers [.own (W a b c), .val (.int n)] = some (.val (tI xs), [W a' b' c']) := by
  have hz0 : (0 : Nat) ≤ sizeLine := Nat.zero_le _
  have hz6 : (6 : Nat) ≤ sizeLine := sl_le (by decide)
  obtain ⟨g60, p60, g0, g1⟩ := pow60
  obtain ⟨a1, b1, c1, gd, hgd, e1⟩ := any_of_ok a b c (ds := [.int 1, .int 1, .int 1, .int 1, .int 1000000000, .int g60]) (by simp) (by simp)
  obtain ⟨gr, hgr, gr0, gr1⟩ : ∃ gr : Int, gd = .int gr ∧ 0 < gr ∧ gr ≤ 10 ^ 60 := by
    simp only [List.mem_cons, List.mem_nil_iff, or_false] at hgd
    rcases hgd with rfl | rfl | rfl | rfl | rfl | rfl
    · exact ⟨_, rfl, by decide, by decide⟩
    · exact ⟨_, rfl, by decide, by decide⟩
    · exact ⟨_, rfl, by decide, by decide⟩
    · exact ⟨_, rfl, by decide, by decide⟩
    · exact ⟨_, rfl, by decide, by decide⟩
    · exact ⟨_, rfl, g0, g1⟩
  subst hgr
  obtain ⟨a2, b2, c2, r5, r50, r51, e2⟩ := draw_ok a1 b1 c1 (n := 5) (by decide) (by decide)
  obtain ⟨N, hN⟩ := Int.eq_ofNat_of_zero_le r50
  obtain ⟨ni, hni⟩ : ∃ ni : Int, (n : Int) = ni := ⟨_, rfl⟩
  have key : ∀ Φ : Phi, Φ.fn 0 = m_law_any_of → Φ.fn 1 = m_law_draw → ∃ (a' b' c' : Int) (xs : List Int) (y : Mi.Slot) (z : List D), OkI n xs ∧ bk Φ b_law_numbers [.own true (W a b c), .val (.int ni), .emp, .emp, .emp] = some (.ret (.val (tI xs)), [.own true (W a' b' c'), .val (.int ni), y, .own false z, .val (.int gr)]) := fun Φ f0 f1 => by
    obtain ⟨s', ef, a3, b3, c3, y, xs, rfl, hl, hx, hy⟩ := forL_inv (put := fun d s => putT (.name 2) d s) (body := fun s => bk Φ (.cons (.app 3 (.bin .mul (.call 1 (.m 0 (.v (.lit (.int 30)) (.nil)))) (.slot 4))) (.nil)) s) (rgD 0 N)
      (fun i s => ∃ (a' b' c' : Int) (y : Mi.Slot) (xs : List Int), s = [.own true (W a' b' c'), .val (.int ni), y, .own false (xs.map .int), .val (.int gr)] ∧ xs.length = i ∧ (∀ x ∈ xs, 0 ≤ x ∧ x < big) ∧ ∀ o zs, y ≠ .own o zs) (by
        rintro i d s hd ⟨a', b', c', y, xs, rfl, hl, hx, hy⟩
        have hi : i < N := by
          have := (List.getElem?_eq_some_iff.mp hd).1
          rw [rgD_len] at this
          exact this
        obtain ⟨a4, b4, c4, r, r0, r1, e⟩ := draw_ok a' b' c' (n := 30) (by decide) (by decide)
        have mu := mulD_l (i := r) (j := gr) (by omega) (by omega)
        have bo := big_ok r0 r1 gr0 gr1
        have hsz : (xs.map PyData.int).length < sizeLine := by
          rw [List.length_map]
          exact sl_le (show xs.length + 1 ≤ 2000 by omega)
        refine ⟨[.own true (W a' b' c'), .val (.int ni), .val d, .own false (xs.map .int), .val (.int gr)], [.own true (W a4 b4 c4), .val (.int ni), .val d, .own false ((xs ++ [r * gr]).map .int), .val (.int gr)], ?_, ?_, ⟨a4, b4, c4, .val d, xs ++ [r * gr], rfl, by simp [hl], fun x h => ?_, nofun⟩⟩
        · cases y <;> first | rfl | exact absurd rfl (hy _ _)
        · rw [List.map_append]
          generalize xs.map PyData.int = X at hsz
          refine bk_app (p := false) (xs := X) (d := .int (r * gr)) (r := .val (.int (r * gr))) (s1 := [.own true (W a4 b4 c4), .val (.int ni), .val d, .own false X, .val (.int gr)]) rfl ?_ rfl rfl hsz rfl
          simp [f1, e, mu, ev_slot, ev_lit, ev_gc, ev_bin, ev_neg, ev_not, ev_and, ev_or, ev_cmp, ev_cmp2, ev_ite, ev_tup, ev_lst, ev_ix, ev_sl, ev_f1, ev_f2, ev_isT, ev_call, ev_callK, evs, evo, evo', evA, callD, argsOf, PArg.arg, ownsOf, putOuts, toB, R.get, R.sto, R.flat, cmpD, ltD, leD, isND, binD, addD, subD, modD, ixD, slD, f1D, f2D, lenD, absD, intD, retR, outsOf, Arg.slot, putP, putPs, evRs, setR, okSet, subR, isOwn, putT, putTs, Lit.d, isTD, isEmp, wipeS, compF, max2D, min2D, dmD, lstD, tupD]
        · rcases List.mem_append.mp h with z | z
          · exact hx x z
          · rw [List.mem_singleton.mp z]
            exact bo) 0 [.own true (W a2 b2 c2), .val (.int ni), .emp, .own false [], .val (.int gr)] (Nat.zero_le _) ⟨a2, b2, c2, .emp, [], rfl, rfl, nofun, nofun⟩
    rw [rgD_len] at hl
    rw [List.drop_zero] at ef
    have head : ∀ o, bk Φ (.cons (.ife (.and (.cmp .ne (.slot 3) (.lst .nil)) (.cmp .eq (.call 1 (.m 0 (.v (.lit (.int 60)) (.nil)))) (.lit (.int 0)))) (.cons (.asg (.name 3) (.sl (.bin .mul (.slot 3) (.slot 1)) .none (.some (.slot 1)))) (.nil)) (.nil)) (.cons (.ret (.f1 .tuple (.slot 3))) (.nil))) [.own true (W a3 b3 c3), .val (.int ni), y, .own false (xs.map .int), .val (.int gr)] = o →
        bk Φ b_law_numbers [.own true (W a b c), .val (.int ni), .emp, .emp, .emp] = o := fun o ho => by
      refine bk_par (rs := [.new [], .val (.int gr)]) (s1 := [.own true (W a1 b1 c1), .val (.int ni), .emp, .emp, .emp]) (sl_le (by decide)) ?_ (s2 := [.own true (W a1 b1 c1), .val (.int ni), .emp, .own false [], .val (.int gr)]) rfl (bk_for (evI_rng0 (j := (N : Int)) (s1 := [.own true (W a2 b2 c2), .val (.int ni), .emp, .own false [], .val (.int gr)]) ?_ (by omega) (by omega)) (by simpa using ef) (by rw [Option.bind_some]; exact ho))
      · simp [f0, pow9, p60, e1, hz0, hz6, ev_slot, ev_lit, ev_gc, ev_bin, ev_neg, ev_not, ev_and, ev_or, ev_cmp, ev_cmp2, ev_ite, ev_tup, ev_lst, ev_ix, ev_sl, ev_f1, ev_f2, ev_isT, ev_call, ev_callK, evs, evo, evo', evA, callD, argsOf, PArg.arg, ownsOf, putOuts, toB, R.get, R.sto, R.flat, cmpD, ltD, leD, isND, binD, addD, subD, modD, ixD, slD, f1D, f2D, lenD, absD, intD, retR, outsOf, Arg.slot, putP, putPs, evRs, setR, okSet, subR, isOwn, putT, putTs, Lit.d, isTD, isEmp, wipeS, compF, max2D, min2D, dmD, lstD, tupD]
      · rw [hN] at e2
        simp [f1, e2, ev_slot, ev_lit, ev_gc, ev_bin, ev_neg, ev_not, ev_and, ev_or, ev_cmp, ev_cmp2, ev_ite, ev_tup, ev_lst, ev_ix, ev_sl, ev_f1, ev_f2, ev_isT, ev_call, ev_callK, evs, evo, evo', evA, callD, argsOf, PArg.arg, ownsOf, putOuts, toB, R.get, R.sto, R.flat, cmpD, ltD, leD, isND, binD, addD, subD, modD, ixD, slD, f1D, f2D, lenD, absD, intD, retR, outsOf, Arg.slot, putP, putPs, evRs, setR, okSet, subR, isOwn, putT, putTs, Lit.d, isTD, isEmp, wipeS, compF, max2D, min2D, dmD, lstD, tupD]
    have eq := eqq_list xs
    cases xs with
    | nil =>
      refine ⟨a3, b3, c3, [], y, [], ⟨nofun, Nat.zero_le _⟩, head _ ?_⟩
      refine bk_ifF (s1 := [.own true (W a3 b3 c3), .val (.int ni), y, .own false [], .val (.int gr)]) ?_ rfl
      have eq' : eqqD (.list []) (.list []) = some true := eq
      simp [eq', hz0, ev_slot, ev_lit, ev_gc, ev_bin, ev_neg, ev_not, ev_and, ev_or, ev_cmp, ev_cmp2, ev_ite, ev_tup, ev_lst, ev_ix, ev_sl, ev_f1, ev_f2, ev_isT, ev_call, ev_callK, evs, evo, evo', evA, callD, argsOf, PArg.arg, ownsOf, putOuts, toB, R.get, R.sto, R.flat, cmpD, ltD, leD, isND, binD, addD, subD, modD, ixD, slD, f1D, f2D, lenD, absD, intD, retR, outsOf, Arg.slot, putP, putPs, evRs, setR, okSet, subR, isOwn, putT, putTs, Lit.d, isTD, isEmp, wipeS, compF, max2D, min2D, dmD, lstD, tupD]
    | cons x xs =>
      obtain ⟨a4, b4, c4, q, q0, q1, e4⟩ := draw_ok a3 b3 c3 (n := 60) (by decide) (by decide)
      have eq' : eqqD (.list ((x :: xs).map .int)) (.list []) = some false := eq
      by_cases hq : q = 0
      · subst hq
        have mu : mulD (.list ((x :: xs).map .int)) (.int ni) = some (.new (List.replicate n ((x :: xs).map PyData.int)).flatten) := by
          have e9 : ni.toNat = n := by omega
          show (if _ then some (R.new (List.replicate ni.toNat _).flatten) else none) = _
          rw [if_pos ⟨by omega, by omega, sl_le (by
            rw [List.length_map, hl, e9]
            have := Nat.mul_le_mul (show N ≤ 4 by omega) hn
            omega)⟩, e9]
        have fl : (List.replicate n ((x :: xs).map PyData.int)).flatten = ((List.replicate n (x :: xs)).flatten).map .int := by
          rw [List.map_flatten, List.map_replicate]
        rw [fl] at mu
        have ct : cutD (((List.replicate n (x :: xs)).flatten).map PyData.int) none (some ni) = (((List.replicate n (x :: xs)).flatten).take n).map .int := by
          rw [← hni, cut_to, List.map_take]
        refine ⟨a4, b4, c4, ((List.replicate n (x :: xs)).flatten).take n, y, (((List.replicate n (x :: xs)).flatten).take n).map .int, ⟨fun z hz => ?_, by rw [List.length_take]; omega⟩, head _ ?_⟩
        · have := List.mem_of_mem_take hz
          rw [List.mem_flatten] at this
          obtain ⟨l, h1, h2⟩ := this
          rw [(List.mem_replicate.mp h1).2] at h2
          exact hx z h2
        · rw [show tI (((List.replicate n (x :: xs)).flatten).take n) = .tuple ((((List.replicate n (x :: xs)).flatten).take n).map PyData.int) from rfl]
          generalize (x :: xs).map PyData.int = X at eq' mu
          generalize ((List.replicate n (x :: xs)).flatten).map PyData.int = Y at mu ct
          generalize (((List.replicate n (x :: xs)).flatten).take n).map PyData.int = Z at ct
          refine bk_if (t := true) (s1 := [.own true (W a4 b4 c4), .val (.int ni), y, .own false X, .val (.int gr)]) ?_ ?_
          · simp [f1, eq', e4, eqq_int, hz0, ev_slot, ev_lit, ev_gc, ev_bin, ev_neg, ev_not, ev_and, ev_or, ev_cmp, ev_cmp2, ev_ite, ev_tup, ev_lst, ev_ix, ev_sl, ev_f1, ev_f2, ev_isT, ev_call, ev_callK, evs, evo, evo', evA, callD, argsOf, PArg.arg, ownsOf, putOuts, toB, R.get, R.sto, R.flat, cmpD, ltD, leD, isND, binD, addD, subD, modD, ixD, slD, f1D, f2D, lenD, absD, intD, retR, outsOf, Arg.slot, putP, putPs, evRs, setR, okSet, subR, isOwn, putT, putTs, Lit.d, isTD, isEmp, wipeS, compF, max2D, min2D, dmD, lstD, tupD]
          · rw [if_pos rfl]
            have st1 : bk Φ (.cons (.asg (.name 3) (.sl (.bin .mul (.slot 3) (.slot 1)) .none (.some (.slot 1)))) (.nil)) [.own true (W a4 b4 c4), .val (.int ni), y, .own false X, .val (.int gr)] = some (.nx, [.own true (W a4 b4 c4), .val (.int ni), y, .own false Z, .val (.int gr)]) := by
              refine bk_asg (r := .new Z) (s1 := [.own true (W a4 b4 c4), .val (.int ni), y, .own false X, .val (.int gr)]) ?_ rfl rfl
              have mu' : binD .mul (.list X) (.int ni) = some (.new Y) := mu
              have g3 : ev Φ (.bin .mul (.slot 3) (.slot 1)) [.own true (W a4 b4 c4), .val (.int ni), y, .own false X, .val (.int gr)] = some (.new Y, [.own true (W a4 b4 c4), .val (.int ni), y, .own false X, .val (.int gr)]) := by
                rw [ev_bin]
                show ((binD .mul (.list X) (.int ni)).map _) = _
                rw [mu']
                rfl
              rw [ev_sl, g3, Option.bind_some]
              show some (R.new (cutD Y none (some ni)), _) = _
              rw [ct]
            rw [st1, Option.bind_some]
            rfl
      · refine ⟨a4, b4, c4, x :: xs, y, (x :: xs).map .int, ⟨hx, by omega⟩, head _ ?_⟩
        rw [show tI (x :: xs) = .tuple ((x :: xs).map PyData.int) from rfl]
        generalize (x :: xs).map PyData.int = X at eq'
        refine bk_ifF (s1 := [.own true (W a4 b4 c4), .val (.int ni), y, .own false X, .val (.int gr)]) ?_ rfl
        simp [f1, eq', e4, eqq_int, hq, hz0, ev_slot, ev_lit, ev_gc, ev_bin, ev_neg, ev_not, ev_and, ev_or, ev_cmp, ev_cmp2, ev_ite, ev_tup, ev_lst, ev_ix, ev_sl, ev_f1, ev_f2, ev_isT, ev_call, ev_callK, evs, evo, evo', evA, callD, argsOf, PArg.arg, ownsOf, putOuts, toB, R.get, R.sto, R.flat, cmpD, ltD, leD, isND, binD, addD, subD, modD, ixD, slD, f1D, f2D, lenD, absD, intD, retR, outsOf, Arg.slot, putP, putPs, evRs, setR, okSet, subR, isOwn, putT, putTs, Lit.d, isTD, isEmp, wipeS, compF, max2D, min2D, dmD, lstD, tupD]
  obtain ⟨a', b', c', xs, y, z, ho, e⟩ := key p_law_numbers q_law_numbers_0 q_law_numbers_1
  rw [hni]
  exact ⟨a', b', c', xs, ho, run_ok (Nat.le_of_ble_eq_true rfl) e rfl rfl⟩
end L23

set_option maxRecDepth 100000
set_option linter.all false
set_option maxHeartbeats 4000000
namespace L23
open Mi PySem
/-- a block that is not torn -/
def NB (d : D) : Prop := ∃ xs, d = tI xs ∧ OkI 90 xs
theorem NB.blk {d : D} (h : NB d) : Blk d := .inr h
theorem NB.ne {d : D} (h : NB d) : d ≠ .none := by
  obtain ⟨xs, rfl, _⟩ := h
  nofun
theorem quiet_sound {fs gs : List D} (h8 : fs.length = 8) (hf : ∀ d ∈ fs, Blk d) (g3 : 2 ≤ gs.length) (g61 : gs.length ≤ 61) (hg : ∀ d ∈ gs, NB d) : Sound (.tuple []) 0 (fs ++ gs) [] := by
  refine ⟨⟨by simp; omega, by simp; omega, fun d hd => ?_⟩, .inr (.inl ⟨rfl, rfl⟩), rfl, List.nodup_nil, nofun, fun i hi h => ?_, Nat.zero_le _⟩
  · rcases List.mem_cons.mp hd with rfl | hd
    · exact .inr ⟨[], rfl, nofun, Nat.zero_le _⟩
    · rcases List.mem_append.mp hd with z | z
      · exact hf d z
      · exact (hg d z).blk
  · exfalso
    obtain ⟨j, rfl⟩ : ∃ j, i = j + 1 := ⟨i - 1, by omega⟩
    rw [List.getElem?_cons_succ, List.getElem?_append_right (by omega)] at h
    exact (hg _ (List.mem_of_getElem? h)).ne rfl
theorem rep_len (n : Nat) (gs : List D) : (List.replicate n gs).flatten.length = n * gs.length := by simp
theorem quiet_ok (a b c : Int) {most : Int} (m0 : 2 ≤ most) (m1 : most ≤ 50) : ∃ (a' b' c' : Int) (fs gs : List D), fs.length = 8 ∧ (∀ d ∈ fs, Blk d) ∧ 2 ≤ gs.length ∧ gs.length ≤ 61 ∧ (∀ d ∈ gs, NB d) ∧ m_law_quiet [.own (W a b c), .val (.int most)] = some (.val (.tuple (.tuple [] :: (fs ++ gs))), [W a' b' c']) := by
  have hz0 : (0 : Nat) ≤ sizeLine := Nat.zero_le _
  have hz1 : (1 : Nat) ≤ sizeLine := sl_le (by decide)
  have key : ∀ Φ : Phi, Φ.fn 0 = m_law_numbers → Φ.fn 1 = m_law_draw → ∃ (a' b' c' : Int) (fs gs : List D) (y : Mi.Slot), fs.length = 8 ∧ (∀ d ∈ fs, Blk d) ∧ 2 ≤ gs.length ∧ gs.length ≤ 61 ∧ (∀ d ∈ gs, NB d) ∧
      bk Φ b_law_quiet [.own true (W a b c), .val (.int most), .emp, .emp] = some (.ret (.val (.tuple (.tuple [] :: (fs ++ gs)))), [.own true (W a' b' c'), .val (.int most), .own false (.tuple [] :: (fs ++ gs)), y]) := fun Φ f0 f1 => by
    obtain ⟨s', ef, a1, b1, c1, y, fs, rfl, hl, hx, hy⟩ := forL_inv (put := fun d s => putT (.name 3) d s) (body := fun s => bk Φ (.cons (.app 2 (.ite (.cmp .eq (.call 1 (.m 0 (.v (.lit (.int 4)) (.nil)))) (.lit (.int 0))) (.lit .none) (.call 0 (.m 0 (.v (.lit (.int 90)) (.nil)))))) (.nil)) s) (rgD 0 8)
      (fun i s => ∃ (a' b' c' : Int) (y : Mi.Slot) (fs : List D), s = [.own true (W a' b' c'), .val (.int most), .own false (.tuple [] :: fs), y] ∧ fs.length = i ∧ (∀ d ∈ fs, Blk d) ∧ ∀ o zs, y ≠ .own o zs) (by
        rintro i d s hd ⟨a', b', c', y, fs, rfl, hl, hx, hy⟩
        have hi : i < 8 := by
          have := (List.getElem?_eq_some_iff.mp hd).1
          rw [rgD_len] at this
          exact this
        have hsz : (PyData.tuple [] :: fs).length < sizeLine := sl_le (show fs.length + 1 + 1 ≤ 2000 by omega)
        have e1 : putT (.name 3) d [.own true (W a' b' c'), .val (.int most), .own false (.tuple [] :: fs), y] = some [.own true (W a' b' c'), .val (.int most), .own false (.tuple [] :: fs), .val d] := by
          cases y <;> first | rfl | exact absurd rfl (hy _ _)
        obtain ⟨a2, b2, c2, r, r0, r1, e⟩ := draw_ok a' b' c' (n := 4) (by decide) (by decide)
        by_cases q : r = 0
        · subst q
          refine ⟨_, [.own true (W a2 b2 c2), .val (.int most), .own false (.tuple [] :: (fs ++ [.none])), .val d], e1, ?_, ⟨a2, b2, c2, .val d, fs ++ [.none], rfl, by simp [hl], fun z hz => ?_, nofun⟩⟩
          · refine bk_app (p := false) (xs := .tuple [] :: fs) (d := .none) (r := .val .none) (s1 := [.own true (W a2 b2 c2), .val (.int most), .own false (.tuple [] :: fs), .val d]) rfl ?_ rfl rfl hsz rfl
            simp [f1, e, eqq_int, ev_slot, ev_lit, ev_gc, ev_bin, ev_neg, ev_not, ev_and, ev_or, ev_cmp, ev_cmp2, ev_ite, ev_tup, ev_lst, ev_ix, ev_sl, ev_f1, ev_f2, ev_isT, ev_call, ev_callK, evs, evo, evo', evA, callD, argsOf, PArg.arg, ownsOf, putOuts, toB, R.get, R.sto, R.flat, cmpD, ltD, leD, isND, binD, addD, subD, modD, ixD, slD, f1D, f2D, lenD, absD, intD, retR, outsOf, Arg.slot, putP, putPs, evRs, setR, okSet, subR, isOwn, putT, putTs, Lit.d, isTD, isEmp, wipeS, compF, max2D, min2D, dmD, lstD, tupD]
          · rcases List.mem_append.mp hz with z1 | z1
            · exact hx z z1
            · rw [List.mem_singleton.mp z1]
              exact .inl rfl
        · obtain ⟨a3, b3, c3, xs, ho, e3⟩ := numbers_ok a2 b2 c2 (n := 90) (by decide) (by decide)
          obtain ⟨bl, hbl⟩ : ∃ bl, tI xs = bl := ⟨_, rfl⟩
          have hB : Blk bl := .inr ⟨xs, hbl.symm, ho⟩
          rw [hbl] at e3
          have e3 : m_law_numbers [.own (W a2 b2 c2), .val (.int 90)] = some (.val bl, [W a3 b3 c3]) := e3
          refine ⟨_, [.own true (W a3 b3 c3), .val (.int most), .own false (.tuple [] :: (fs ++ [bl])), .val d], e1, ?_, ⟨a3, b3, c3, .val d, fs ++ [bl], rfl, by simp [hl], fun z hz => ?_, nofun⟩⟩
          · refine bk_app (p := false) (xs := .tuple [] :: fs) (d := bl) (r := .val bl) (s1 := [.own true (W a3 b3 c3), .val (.int most), .own false (.tuple [] :: fs), .val d]) rfl ?_ rfl rfl hsz rfl
            simp [f0, f1, e, e3, q, eqq_int, ev_slot, ev_lit, ev_gc, ev_bin, ev_neg, ev_not, ev_and, ev_or, ev_cmp, ev_cmp2, ev_ite, ev_tup, ev_lst, ev_ix, ev_sl, ev_f1, ev_f2, ev_isT, ev_call, ev_callK, evs, evo, evo', evA, callD, argsOf, PArg.arg, ownsOf, putOuts, toB, R.get, R.sto, R.flat, cmpD, ltD, leD, isND, binD, addD, subD, modD, ixD, slD, f1D, f2D, lenD, absD, intD, retR, outsOf, Arg.slot, putP, putPs, evRs, setR, okSet, subR, isOwn, putT, putTs, Lit.d, isTD, isEmp, wipeS, compF, max2D, min2D, dmD, lstD, tupD]
          · rcases List.mem_append.mp hz with z1 | z1
            · exact hx z z1
            · rw [List.mem_singleton.mp z1]
              exact hB) 0 [.own true (W a b c), .val (.int most), .own false [.tuple []], .emp] (Nat.zero_le _) ⟨a, b, c, .emp, [], rfl, rfl, nofun, nofun⟩
    rw [rgD_len] at hl
    rw [List.drop_zero] at ef
    obtain ⟨a2, b2, c2, r, r0, r1, e2⟩ := draw_ok a1 b1 c1 (n := most - 1) (by omega) (by omega)
    obtain ⟨N, hN⟩ := Int.eq_ofNat_of_zero_le (show 0 ≤ 3 + r by omega)
    obtain ⟨s', eg, a3, b3, c3, y', gs, rfl, hl', hx', hy'⟩ := forL_inv (put := fun d s => putT (.name 3) d s) (body := fun s => bk Φ (.cons (.app 2 (.call 0 (.m 0 (.v (.lit (.int 90)) (.nil))))) (.nil)) s) (rgD 0 N)
      (fun i s => ∃ (a' b' c' : Int) (y : Mi.Slot) (gs : List D), s = [.own true (W a' b' c'), .val (.int most), .own false (.tuple [] :: (fs ++ gs)), y] ∧ gs.length = i ∧ (∀ d ∈ gs, NB d) ∧ ∀ o zs, y ≠ .own o zs) (by
        rintro i d s hd ⟨a', b', c', y, gs, rfl, hl2, hx, hy⟩
        have hi : i < N := by
          have := (List.getElem?_eq_some_iff.mp hd).1
          rw [rgD_len] at this
          exact this
        have hsz : (PyData.tuple [] :: (fs ++ gs)).length < sizeLine := sl_le (show (fs ++ gs).length + 1 + 1 ≤ 2000 by rw [List.length_append]; omega)
        have e1 : putT (.name 3) d [.own true (W a' b' c'), .val (.int most), .own false (.tuple [] :: (fs ++ gs)), y] = some [.own true (W a' b' c'), .val (.int most), .own false (.tuple [] :: (fs ++ gs)), .val d] := by
          cases y <;> first | rfl | exact absurd rfl (hy _ _)
        obtain ⟨a3, b3, c3, xs, ho, e3⟩ := numbers_ok a' b' c' (n := 90) (by decide) (by decide)
        obtain ⟨bl, hbl⟩ : ∃ bl, tI xs = bl := ⟨_, rfl⟩
        have hB : NB bl := ⟨xs, hbl.symm, ho⟩
        rw [hbl] at e3
        have e3 : m_law_numbers [.own (W a' b' c'), .val (.int 90)] = some (.val bl, [W a3 b3 c3]) := e3
        refine ⟨_, [.own true (W a3 b3 c3), .val (.int most), .own false (.tuple [] :: (fs ++ (gs ++ [bl]))), .val d], e1, ?_, ⟨a3, b3, c3, .val d, gs ++ [bl], rfl, by simp [hl2], fun z hz => ?_, nofun⟩⟩
        · rw [← List.append_assoc]
          refine bk_app (p := false) (xs := .tuple [] :: (fs ++ gs)) (d := bl) (r := .val bl) (s1 := [.own true (W a3 b3 c3), .val (.int most), .own false (.tuple [] :: (fs ++ gs)), .val d]) rfl ?_ rfl rfl hsz rfl
          simp [f0, e3, ev_slot, ev_lit, ev_gc, ev_bin, ev_neg, ev_not, ev_and, ev_or, ev_cmp, ev_cmp2, ev_ite, ev_tup, ev_lst, ev_ix, ev_sl, ev_f1, ev_f2, ev_isT, ev_call, ev_callK, evs, evo, evo', evA, callD, argsOf, PArg.arg, ownsOf, putOuts, toB, R.get, R.sto, R.flat, cmpD, ltD, leD, isND, binD, addD, subD, modD, ixD, slD, f1D, f2D, lenD, absD, intD, retR, outsOf, Arg.slot, putP, putPs, evRs, setR, okSet, subR, isOwn, putT, putTs, Lit.d, isTD, isEmp, wipeS, compF, max2D, min2D, dmD, lstD, tupD]
        · rcases List.mem_append.mp hz with z1 | z1
          · exact hx z z1
          · rw [List.mem_singleton.mp z1]
            exact hB) 0 [.own true (W a2 b2 c2), .val (.int most), .own false (.tuple [] :: (fs ++ [])), y] (Nat.zero_le _) ⟨a2, b2, c2, y, [], rfl, rfl, nofun, hy⟩
    rw [rgD_len] at hl'
    rw [List.drop_zero, List.append_nil] at eg
    obtain ⟨a4, b4, c4, q, q0, q1, e4⟩ := draw_ok a3 b3 c3 (n := 24) (by decide) (by decide)
    have head : ∀ o, bk Φ (.cons (.ife (.cmp .eq (.call 1 (.m 0 (.v (.lit (.int 24)) (.nil)))) (.lit (.int 0))) (.cons (.asg (.name 2) (.sl (.bin .add (.slot 2) (.bin .mul (.sl (.slot 2) (.some (.lit (.int 9))) .none) (.lit (.int 30)))) .none (.some (.lit (.int 70))))) (.nil)) (.nil)) (.cons (.ret (.f1 .tuple (.slot 2))) (.nil))) [.own true (W a3 b3 c3), .val (.int most), .own false (.tuple [] :: (fs ++ gs)), y'] = o →
        bk Φ b_law_quiet [.own true (W a b c), .val (.int most), .emp, .emp] = o := fun o ho => by
      refine bk_asg (r := .new [.tuple []]) (s1 := [.own true (W a b c), .val (.int most), .emp, .emp]) ?_ (s2 := [.own true (W a b c), .val (.int most), .own false [.tuple []], .emp]) rfl (bk_for (evI_rng0 (j := 8) (s1 := [.own true (W a b c), .val (.int most), .own false [.tuple []], .emp]) rfl (by decide) (by decide)) ef ?_)
      · simp [hz0, hz1, ev_slot, ev_lit, ev_gc, ev_bin, ev_neg, ev_not, ev_and, ev_or, ev_cmp, ev_cmp2, ev_ite, ev_tup, ev_lst, ev_ix, ev_sl, ev_f1, ev_f2, ev_isT, ev_call, ev_callK, evs, evo, evo', evA, callD, argsOf, PArg.arg, ownsOf, putOuts, toB, R.get, R.sto, R.flat, cmpD, ltD, leD, isND, binD, addD, subD, modD, ixD, slD, f1D, f2D, lenD, absD, intD, retR, outsOf, Arg.slot, putP, putPs, evRs, setR, okSet, subR, isOwn, putT, putTs, Lit.d, isTD, isEmp, wipeS, compF, max2D, min2D, dmD, lstD, tupD]
      rw [Option.bind_some]
      refine bk_for (evI_rng0 (j := (N : Int)) (s1 := [.own true (W a2 b2 c2), .val (.int most), .own false (.tuple [] :: fs), y]) ?_ (by omega) (by omega)) (by simpa using eg) (by rw [Option.bind_some]; exact ho)
      rw [← hN]
      simp [f1, e2, ev_slot, ev_lit, ev_gc, ev_bin, ev_neg, ev_not, ev_and, ev_or, ev_cmp, ev_cmp2, ev_ite, ev_tup, ev_lst, ev_ix, ev_sl, ev_f1, ev_f2, ev_isT, ev_call, ev_callK, evs, evo, evo', evA, callD, argsOf, PArg.arg, ownsOf, putOuts, toB, R.get, R.sto, R.flat, cmpD, ltD, leD, isND, binD, addD, subD, modD, ixD, slD, f1D, f2D, lenD, absD, intD, retR, outsOf, Arg.slot, putP, putPs, evRs, setR, okSet, subR, isOwn, putT, putTs, Lit.d, isTD, isEmp, wipeS, compF, max2D, min2D, dmD, lstD, tupD]
    by_cases hq : q = 0
    · subst hq
      refine ⟨a4, b4, c4, fs, (gs ++ (List.replicate 30 gs).flatten).take 61, y', hl, hx, ?_, ?_, fun d hd => ?_, head _ ?_⟩
      · rw [List.length_take, List.length_append]
        omega
      · rw [List.length_take]
        omega
      · have := List.mem_of_mem_take hd
        rcases List.mem_append.mp this with z | z
        · exact hx' d z
        · rw [List.mem_flatten] at z
          obtain ⟨l, h1, h2⟩ := z
          rw [(List.mem_replicate.mp h1).2] at h2
          exact hx' d h2
      · obtain ⟨F, hF⟩ : ∃ F, PyData.tuple [] :: (fs ++ gs) = F := ⟨_, rfl⟩
        have c1 : cutD F (some 9) none = gs := by
          have := cut_at F 9
          rw [← hF] at this ⊢
          refine this.trans ?_
          show (fs ++ gs).drop 8 = gs
          rw [← hl]
          exact List.drop_left
        have mu : mulD (.list gs) (.int 30) = some (.new (List.replicate 30 gs).flatten) := if_pos ⟨by decide, by decide, sl_le (by show gs.length * 30 ≤ 2000; omega)⟩
        have fl : F.length = gs.length + 9 := by rw [← hF]; simp; omega
        have rl : (List.replicate 30 gs).flatten.length = 30 * gs.length := rep_len 30 gs
        have ad : addD (.list F) (.list (List.replicate 30 gs).flatten) = some (.new (F ++ (List.replicate 30 gs).flatten)) := if_pos (sl_le (by rw [rl]; omega))
        have c2 : cutD (F ++ (List.replicate 30 gs).flatten) none (some 70) = PyData.tuple [] :: (fs ++ (gs ++ (List.replicate 30 gs).flatten).take 61) := by
          have := cut_to (F ++ (List.replicate 30 gs).flatten) 70
          refine this.trans ?_
          rw [← hF]
          show PyData.tuple [] :: ((fs ++ gs) ++ (List.replicate 30 gs).flatten).take 69 = _
          rw [List.append_assoc, show (69 : Nat) = fs.length + 61 by omega, List.take_length_add_append]
        rw [hF]
        generalize PyData.tuple [] :: (fs ++ (gs ++ (List.replicate 30 gs).flatten).take 61) = G at c2
        generalize (List.replicate 30 gs).flatten = R9 at mu ad c2
        refine bk_if (t := true) (s1 := [.own true (W a4 b4 c4), .val (.int most), .own false F, y']) ?_ ?_
        · simp [f1, e4, eqq_int, ev_slot, ev_lit, ev_gc, ev_bin, ev_neg, ev_not, ev_and, ev_or, ev_cmp, ev_cmp2, ev_ite, ev_tup, ev_lst, ev_ix, ev_sl, ev_f1, ev_f2, ev_isT, ev_call, ev_callK, evs, evo, evo', evA, callD, argsOf, PArg.arg, ownsOf, putOuts, toB, R.get, R.sto, R.flat, cmpD, ltD, leD, isND, binD, addD, subD, modD, ixD, slD, f1D, f2D, lenD, absD, intD, retR, outsOf, Arg.slot, putP, putPs, evRs, setR, okSet, subR, isOwn, putT, putTs, Lit.d, isTD, isEmp, wipeS, compF, max2D, min2D, dmD, lstD, tupD]
        · rw [if_pos rfl]
          have mu' : binD .mul (.list gs) (.int 30) = some (.new R9) := mu
          have ad' : binD .add (.list F) (.list R9) = some (.new (F ++ R9)) := ad
          have g0 : ev Φ (.slot 2) [.own true (W a4 b4 c4), .val (.int most), .own false F, y'] = some (.bor 2, [.own true (W a4 b4 c4), .val (.int most), .own false F, y']) := rfl
          have g1 : ev Φ (.sl (.slot 2) (.some (.lit (.int 9))) .none) [.own true (W a4 b4 c4), .val (.int most), .own false F, y'] = some (.new gs, [.own true (W a4 b4 c4), .val (.int most), .own false F, y']) := by
            simp [c1, ev_slot, ev_lit, ev_gc, ev_bin, ev_neg, ev_not, ev_and, ev_or, ev_cmp, ev_cmp2, ev_ite, ev_tup, ev_lst, ev_ix, ev_sl, ev_f1, ev_f2, ev_isT, ev_call, ev_callK, evs, evo, evo', evA, callD, argsOf, PArg.arg, ownsOf, putOuts, toB, R.get, R.sto, R.flat, cmpD, ltD, leD, isND, binD, addD, subD, modD, ixD, slD, f1D, f2D, lenD, absD, intD, retR, outsOf, Arg.slot, putP, putPs, evRs, setR, okSet, subR, isOwn, putT, putTs, Lit.d, isTD, isEmp, wipeS, compF, max2D, min2D, dmD, lstD, tupD]
          have g2 : ev Φ (.bin .mul (.sl (.slot 2) (.some (.lit (.int 9))) .none) (.lit (.int 30))) [.own true (W a4 b4 c4), .val (.int most), .own false F, y'] = some (.new R9, [.own true (W a4 b4 c4), .val (.int most), .own false F, y']) := by
            rw [ev_bin, g1, Option.bind_some]
            show ((binD .mul (.list gs) (.int 30)).map _) = _
            rw [mu']
            rfl
          have g3 : ev Φ (.bin .add (.slot 2) (.bin .mul (.sl (.slot 2) (.some (.lit (.int 9))) .none) (.lit (.int 30)))) [.own true (W a4 b4 c4), .val (.int most), .own false F, y'] = some (.new (F ++ R9), [.own true (W a4 b4 c4), .val (.int most), .own false F, y']) := by
            rw [ev_bin, g0, Option.bind_some]
            show ((ev Φ (.bin .mul _ _) _).bind _) = _
            rw [g2, Option.bind_some]
            show ((binD .add (.list F) (.list R9)).map _) = _
            rw [ad']
            rfl
          have st1 : bk Φ (.cons (.asg (.name 2) (.sl (.bin .add (.slot 2) (.bin .mul (.sl (.slot 2) (.some (.lit (.int 9))) .none) (.lit (.int 30)))) .none (.some (.lit (.int 70))))) (.nil)) [.own true (W a4 b4 c4), .val (.int most), .own false F, y'] = some (.nx, [.own true (W a4 b4 c4), .val (.int most), .own false G, y']) := by
            refine bk_asg (r := .new G) (s1 := [.own true (W a4 b4 c4), .val (.int most), .own false F, y']) ?_ rfl rfl
            rw [ev_sl, g3, Option.bind_some]
            show some (R.new (cutD (F ++ R9) none (some 70)), _) = _
            rw [c2]
          rw [st1, Option.bind_some]
          rfl
    · refine ⟨a4, b4, c4, fs, gs, y', hl, hx, by omega, by omega, hx', head _ ?_⟩
      generalize PyData.tuple [] :: (fs ++ gs) = F
      refine bk_ifF (s1 := [.own true (W a4 b4 c4), .val (.int most), .own false F, y']) ?_ rfl
      simp [f1, e4, hq, eqq_int, ev_slot, ev_lit, ev_gc, ev_bin, ev_neg, ev_not, ev_and, ev_or, ev_cmp, ev_cmp2, ev_ite, ev_tup, ev_lst, ev_ix, ev_sl, ev_f1, ev_f2, ev_isT, ev_call, ev_callK, evs, evo, evo', evA, callD, argsOf, PArg.arg, ownsOf, putOuts, toB, R.get, R.sto, R.flat, cmpD, ltD, leD, isND, binD, addD, subD, modD, ixD, slD, f1D, f2D, lenD, absD, intD, retR, outsOf, Arg.slot, putP, putPs, evRs, setR, okSet, subR, isOwn, putT, putTs, Lit.d, isTD, isEmp, wipeS, compF, max2D, min2D, dmD, lstD, tupD]
  obtain ⟨a', b', c', fs, gs, y, h1, h2, h3, h4, h5, e⟩ := key p_law_quiet q_law_quiet_0 q_law_quiet_1
  exact ⟨a', b', c', fs, gs, h1, h2, h3, h4, h5, run_ok (Nat.le_of_ble_eq_true rfl) e rfl rfl⟩
end L23

set_option maxRecDepth 100000
set_option linter.all false
set_option maxHeartbeats 4000000
namespace L23
open Mi PySem
def spotsN (n : Nat) : List Nat := (List.range (n - 9)).map fun k => 9 + k
theorem spots_rg {n : Nat} : rgD 9 ((n : Int) - 9).toNat = (spotsN n).map nI := by
  unfold rgD spotsN
  rw [List.map_map, show ((n : Int) - 9).toNat = n - 9 by omega]
  apply List.map_congr_left
  intro k _
  show PyData.int (9 + (k : Int)) = .int ((9 + k : Nat) : Int)
  rw [show (9 : Int) + (k : Int) = ((9 + k : Nat) : Int) by omega]
theorem spots_nodup (n : Nat) : (spotsN n).Nodup := List.pairwise_map.mpr (List.nodup_range.imp fun h z => h (by omega))
theorem spots_mem {n p : Nat} (h : p ∈ spotsN n) : 9 ≤ p ∧ p < n := by
  obtain ⟨k, hk, rfl⟩ := List.mem_map.mp h
  have := List.mem_range.mp hk
  omega
theorem spots_len (n : Nat) : (spotsN n).length = n - 9 := by simp [spotsN]
theorem ev_rng9 {Φ : Phi} {b : E} {s s1 : Sl} {j : Int} (h : ev Φ b s = some (.val (.int j), s1)) (h0 : 9 ≤ j) (h1 : j ≤ 1000) : ev Φ (.rng false (.some (.lit (.int 9))) b) s = some (.new (rgD 9 (j - 9).toNat), s1) := by
  show (ev Φ b s).bind _ = _
  rw [h]
  exact (if_pos ⟨by decide, by decide, by show -(2 ^ 62) ≤ j; omega, by show j < 2 ^ 62; omega, sl_le (by show (j - 9).toNat ≤ 2000; omega)⟩).trans rfl
theorem batch_ok (a b c : Int) {n : Nat} (n0 : 11 ≤ n) (n1 : n ≤ 70) {most : Int} (m0 : 1 ≤ most) (m1 : most ≤ 8) : ∃ (a' b' c' : Int) (ws : List (Nat × List Int)), Batch n ws ∧ m_law_batch [.own (W a b c), .val (.int n), .val (.int most)] = some (.val (.tuple (ws.map wD)), [W a' b' c']) := by
  have hz2 : (2 : Nat) ≤ sizeLine := sl_le (by decide)
  have hz0 : (0 : Nat) ≤ sizeLine := Nat.zero_le _
  have pl := spots_len n
  have pm : ∀ p ∈ spotsN n, 9 ≤ p ∧ p < n := fun p h => spots_mem h
  have pn := spots_nodup n
  have pr := spots_rg (n := n)
  generalize spotsN n = ps at pl pm pn pr
  obtain ⟨P, hP⟩ : ∃ P, ps.map nI = P := ⟨_, rfl⟩
  obtain ⟨ni, hni⟩ : ∃ ni : Int, (n : Int) = ni := ⟨_, rfl⟩
  rw [hni] at pr ⊢
  have hPl : P.length = n - 9 := by rw [← hP, List.length_map, pl]
  have mm0 : 1 ≤ min3I 8 most (P.length : Int) := by unfold min3I; split <;> split <;> omega
  have mm1 : min3I 8 most (P.length : Int) ≤ 8 := by unfold min3I; split <;> split <;> omega
  have mm2 : min3I 8 most (P.length : Int) ≤ (P.length : Int) := by unfold min3I; split <;> split <;> omega
  obtain ⟨mm, hmm⟩ : ∃ mm, min3I 8 most (P.length : Int) = mm := ⟨_, rfl⟩
  rw [hmm] at mm0 mm1 mm2
  obtain ⟨a1, b1, c1, r, r0, r1, e1⟩ := draw_ok a b c (n := mm) (by omega) (by omega)
  obtain ⟨N, hN⟩ := Int.eq_ofNat_of_zero_le (show 0 ≤ 1 + r by omega)
  obtain ⟨a2, b2, c2, qs, ⟨ls, hperm⟩, hql, e2⟩ := unlike_ok a1 b1 c1 (ps := ps) (n := N) (by omega) (by omega)
  rw [hP] at e2
  have qn : qs.Nodup := (List.nodup_append.mp (hperm.nodup_iff.mpr pn)).1
  have qm : ∀ p ∈ qs, 9 ≤ p ∧ p < n := fun p h => pm p (hperm.mem_iff.mp (List.mem_append_left _ h))
  have key : ∀ Φ : Phi, Φ.fn 0 = m_law_unlike → Φ.fn 1 = m_law_draw → Φ.fn 2 = m_law_numbers → ∃ (a' b' c' : Int) (ws : List (Nat × List Int)) (y : Mi.Slot), ws.map (·.1) = qs ∧ (∀ w ∈ ws, OkI 80 w.2) ∧
      bk Φ b_law_batch [.own true (W a b c), .val (.int ni), .val (.int most), .emp, .emp, .emp] = some (.ret (.val (.tuple (ws.map wD))), [.own true (W a' b' c'), .val (.int ni), .val (.int most), y, .val (.list P), .own false (ws.map wD)]) := fun Φ f0 f1 f2 => by
    obtain ⟨s', ef, a3, b3, c3, y, ws, rfl, hw, hx, hy⟩ := forL_inv (put := fun d s => putT (.name 3) d s) (body := fun s => bk Φ (.cons (.app 5 (.tup (.cons (.slot 3) (.cons (.call 2 (.m 0 (.v (.lit (.int 80)) (.nil)))) (.nil))))) (.nil)) s) (qs.map nI)
      (fun i s => ∃ (a' b' c' : Int) (y : Mi.Slot) (ws : List (Nat × List Int)), s = [.own true (W a' b' c'), .val (.int ni), .val (.int most), y, .val (.list P), .own false (ws.map wD)] ∧ ws.map (·.1) = qs.take i ∧ (∀ w ∈ ws, OkI 80 w.2) ∧ ∀ o zs, y ≠ .own o zs) (by
        rintro i d s hd ⟨a', b', c', y, ws, rfl, hw, hx, hy⟩
        have hi : i < qs.length := by
          have := (List.getElem?_eq_some_iff.mp hd).1
          rw [List.length_map] at this
          exact this
        rw [List.getElem?_map, List.getElem?_eq_getElem hi] at hd
        cases hd
        obtain ⟨a3, b3, c3, xs, ho, e3⟩ := numbers_ok a' b' c' (n := 80) (by decide) (by decide)
        have e3 : m_law_numbers [.own (W a' b' c'), .val (.int 80)] = some (.val (tI xs), [W a3 b3 c3]) := e3
        have hwl : ws.length = i := by
          have := congrArg List.length hw
          rw [List.length_map, List.length_take] at this
          omega
        have hsz : (ws.map wD).length < sizeLine := by
          rw [List.length_map]
          exact sl_le (show ws.length + 1 ≤ 2000 by omega)
        refine ⟨[.own true (W a' b' c'), .val (.int ni), .val (.int most), .val (nI qs[i]), .val (.list P), .own false (ws.map wD)], [.own true (W a3 b3 c3), .val (.int ni), .val (.int most), .val (nI qs[i]), .val (.list P), .own false ((ws ++ [(qs[i], xs)]).map wD)], ?_, ?_, ⟨a3, b3, c3, .val (nI qs[i]), ws ++ [(qs[i], xs)], rfl, ?_, fun w h => ?_, nofun⟩⟩
        · cases y <;> first | rfl | exact absurd rfl (hy _ _)
        · rw [List.map_append]
          show _ = some (Fl.nx, [_, _, _, _, _, Mi.Slot.own false (ws.map wD ++ [PyData.tuple [nI qs[i], tI xs]])])
          generalize ws.map wD = WD at hsz
          generalize tI xs = bl at e3
          generalize nI qs[i] = v
          refine bk_app (p := false) (xs := WD) (d := .tuple [v, bl]) (r := .val (.tuple [v, bl])) (s1 := [.own true (W a3 b3 c3), .val (.int ni), .val (.int most), .val v, .val (.list P), .own false WD]) rfl ?_ rfl rfl hsz rfl
          simp [f2, e3, hz2, ev_slot, ev_lit, ev_gc, ev_bin, ev_neg, ev_not, ev_and, ev_or, ev_cmp, ev_cmp2, ev_ite, ev_tup, ev_lst, ev_ix, ev_sl, ev_f1, ev_f2, ev_isT, ev_call, ev_callK, evs, evo, evo', evA, callD, argsOf, PArg.arg, ownsOf, putOuts, toB, R.get, R.sto, R.flat, cmpD, ltD, leD, isND, binD, addD, subD, modD, ixD, slD, f1D, f2D, lenD, absD, intD, retR, outsOf, Arg.slot, putP, putPs, evRs, setR, okSet, subR, isOwn, putT, putTs, Lit.d, isTD, isEmp, wipeS, compF, max2D, min2D, dmD, lstD, tupD]
        · rw [List.map_append, hw]
          exact (List.take_append_getElem hi)
        · rcases List.mem_append.mp h with z | z
          · exact hx w z
          · rw [List.mem_singleton.mp z]
            exact ho) 0 [.own true (W a2 b2 c2), .val (.int ni), .val (.int most), .emp, .val (.list P), .own false []] (Nat.zero_le _) ⟨a2, b2, c2, .emp, [], rfl, rfl, nofun, nofun⟩
    rw [List.length_map] at hw
    rw [List.take_length] at hw
    rw [List.drop_zero] at ef
    refine ⟨a3, b3, c3, ws, y, hw, hx, bk_par (rs := [.new P, .new []]) (s1 := [.own true (W a b c), .val (.int ni), .val (.int most), .emp, .emp, .emp]) (sl_le (by decide)) ?_ (s2 := [.own true (W a b c), .val (.int ni), .val (.int most), .emp, .own false P, .own false []]) rfl (bk_frz (xs := P) rfl (bk_for (s1 := [.own true (W a2 b2 c2), .val (.int ni), .val (.int most), .emp, .val (.list P), .own false []]) (evI_seqN ?_) ef rfl))⟩
    · have er : ev Φ (.rng false (.some (.lit (.int 9))) (.slot 1)) [.own true (W a b c), .val (.int ni), .val (.int most), .emp, .emp, .emp] = some (.new P, [.own true (W a b c), .val (.int ni), .val (.int most), .emp, .emp, .emp]) := by
        rw [ev_rng9 (j := ni) rfl (by omega) (by omega), pr, hP]
      simp only [evRs, er, Option.bind_some]
      simp [hz0, ev_slot, ev_lit, ev_gc, ev_bin, ev_neg, ev_not, ev_and, ev_or, ev_cmp, ev_cmp2, ev_ite, ev_tup, ev_lst, ev_ix, ev_sl, ev_f1, ev_f2, ev_isT, ev_call, ev_callK, evs, evo, evo', evA, callD, argsOf, PArg.arg, ownsOf, putOuts, toB, R.get, R.sto, R.flat, cmpD, ltD, leD, isND, binD, addD, subD, modD, ixD, slD, f1D, f2D, lenD, absD, intD, retR, outsOf, Arg.slot, putP, putPs, evRs, setR, okSet, subR, isOwn, putT, putTs, Lit.d, isTD, isEmp, wipeS, compF, max2D, min2D, dmD, lstD, tupD]
    · show ev Φ _ [.own true (W a b c), .val (.int ni), .val (.int most), .emp, .val (.list P), .own false []] = _
      have g1 : ev Φ (.min3 (.lit (.int 8)) (.slot 2) (.f1 .len (.slot 4))) [.own true (W a b c), .val (.int ni), .val (.int most), .emp, .val (.list P), .own false []] = some (.val (.int mm), [.own true (W a b c), .val (.int ni), .val (.int most), .emp, .val (.list P), .own false []]) := by
        rw [← hmm]
        rfl
      have g2 : ev Φ (.bin .add (.lit (.int 1)) (.call 1 (.m 0 (.v (.min3 (.lit (.int 8)) (.slot 2) (.f1 .len (.slot 4))) (.nil))))) [.own true (W a b c), .val (.int ni), .val (.int most), .emp, .val (.list P), .own false []] = some (.val (.int N), [.own true (W a1 b1 c1), .val (.int ni), .val (.int most), .emp, .val (.list P), .own false []]) := by
        have hN' : 1 + r = (N : Int) := hN
        generalize (E.min3 (.lit (.int 8)) (.slot 2) (.f1 .len (.slot 4))) = m3 at g1 ⊢
        rw [← hN']
        simp [g1, f1, e1, ev_slot, ev_lit, ev_gc, ev_bin, ev_neg, ev_not, ev_and, ev_or, ev_cmp, ev_cmp2, ev_ite, ev_tup, ev_lst, ev_ix, ev_sl, ev_f1, ev_f2, ev_isT, ev_call, ev_callK, evs, evo, evo', evA, callD, argsOf, PArg.arg, ownsOf, putOuts, toB, R.get, R.sto, R.flat, cmpD, ltD, leD, isND, binD, addD, subD, modD, ixD, slD, f1D, f2D, lenD, absD, intD, retR, outsOf, Arg.slot, putP, putPs, evRs, setR, okSet, subR, isOwn, putT, putTs, Lit.d, isTD, isEmp, wipeS, compF, max2D, min2D, dmD, lstD, tupD]
      generalize (E.bin BOp.add (.lit (.int 1)) (.call 1 (.m 0 (.v (.min3 (.lit (.int 8)) (.slot 2) (.f1 .len (.slot 4))) (.nil))))) = ec at g2 ⊢
      generalize qs.map nI = Q at e2 ⊢
      generalize (N : Int) = Ni at g2 e2
      have e2' : Φ.fn 0 [.own (W a1 b1 c1), .val (.list P), .val (.int Ni)] = some (.new Q, [W a2 b2 c2]) := by
        rw [f0]
        exact e2
      clear f0 e2
      simp [g2, e2', ev_slot, ev_lit, ev_gc, ev_bin, ev_neg, ev_not, ev_and, ev_or, ev_cmp, ev_cmp2, ev_ite, ev_tup, ev_lst, ev_ix, ev_sl, ev_f1, ev_f2, ev_isT, ev_call, ev_callK, evs, evo, evo', evA, callD, argsOf, PArg.arg, ownsOf, putOuts, toB, R.get, R.sto, R.flat, cmpD, ltD, leD, isND, binD, addD, subD, modD, ixD, slD, f1D, f2D, lenD, absD, intD, retR, outsOf, Arg.slot, putP, putPs, evRs, setR, okSet, subR, isOwn, putT, putTs, Lit.d, isTD, isEmp, wipeS, compF, max2D, min2D, dmD, lstD, tupD]
  obtain ⟨a', b', c', ws, y, hw, hx, e⟩ := key p_law_batch q_law_batch_0 q_law_batch_1 q_law_batch_2
  have wl : ws.length = N := by rw [← hql, ← hw, List.length_map]
  refine ⟨a', b', c', ws, ⟨by omega, by omega, fun w h => ?_, by rw [hw]; exact qn⟩, run_ok (Nat.le_of_ble_eq_true rfl) e rfl rfl⟩
  have := qm w.1 (by rw [← hw]; exact List.mem_map.mpr ⟨w, h, rfl⟩)
  exact ⟨this.1, this.2, hx w h⟩
/-! ### fresh disks -/
/-! ### the law's own steps -/
def slotOf2 : D → Option D
  | .tuple [.int i, .tuple [.int p, .tuple b]] => some (.tuple [.int (i + 1), .tuple (.int p :: b)])
  | _ => none
theorem law_steps_ok {ws : List (Nat × List Int)} (hl : ws.length ≤ 8) (hw : ∀ w ∈ ws, w.2.length ≤ 100) : m_law_steps [.val (.tuple (ws.map wD))] = some (.val (.tuple ((stepsW ws).map wD)), []) := by
  have hz : (0 : Nat) ≤ sizeLine := Nat.zero_le _
  have hz2 : (2 : Nat) ≤ sizeLine := sl_le (by decide)
  have hz1 : (1 : Nat) ≤ sizeLine := sl_le (by decide)
  have sm := slots_map ws
  have sl := slotsW_len ws
  have hm : ∀ d ∈ ws.map wD, ∃ (p : Int) (b : List D), d = .tuple [.int p, .tuple b] ∧ b.length ≤ 100 := fun d hd => by
    obtain ⟨w, h, rfl⟩ := List.mem_map.mp hd
    exact ⟨w.1, w.2.map .int, rfl, by rw [List.length_map]; exact hw w h⟩
  have parts := steps_parts (ws := ws)
  obtain ⟨T, hT⟩ : ∃ T, ws.map wD = T := ⟨_, rfl⟩
  have hTl : T.length = ws.length := by rw [← hT, List.length_map]
  obtain ⟨SW, hSW⟩ : ∃ SW, (slotsW ws).map wD = SW := ⟨_, rfl⟩
  have hSl : SW.length = ws.length := by rw [← hSW, List.length_map, sl]
  rw [hT, hSW] at parts
  rw [hT] at sm hm ⊢
  rw [hSW] at sm
  rw [parts]
  have key : ∀ Φ : Phi, bk Φ b_law_steps [.val (.tuple T), .emp, .emp, .emp] = some (.ret (.val (.tuple (SW ++ [wD (0, [(ws.length : Int)])] ++ T ++ [wD (0, [])]))), [.val (.tuple T), .own false SW, .emp, .emp]) := fun Φ => by
    have c := ev_comp (Φ := Φ) (own := [("_law_at", 2), ("_law_one", 3)]) (tg := .tup (.cons (.name 2) (.cons (.name 3) (.nil)))) (it := .enum (.slot 0)) (co := .none) (e := .tup (.cons (.bin .add (.slot 2) (.lit (.int 1))) (.cons (.bin .add (.tup (.cons (.ix (.slot 3) (.lit (.int 0))) (.nil))) (.ix (.slot 3) (.lit (.int 1)))) (.nil)))) (s := [.val (.tuple T), .emp, .emp, .emp]) (s1 := [.val (.tuple T), .emp, .emp, .emp]) slotOf (evI_enumT rfl) rfl (fun d hd => by
      obtain ⟨i, x, hx, rfl⟩ := enum_mem hd
      obtain ⟨p, b, rfl, hbl⟩ := hm x hx
      refine ⟨[.val (.tuple T), .emp, .val (.int (0 + (i : Int))), .val (.tuple [.int p, .tuple b])], ?_, rfl⟩
      generalize (0 + (i : Int)) = j
      have hsz : 1 + b.length ≤ sizeLine := sl_le (by omega)
      have x0 : L2.atI [PyData.int p, .tuple b] 0 = some (.int p) := rfl
      have x1 : L2.atI [PyData.int p, .tuple b] 1 = some (.tuple b) := rfl
      simp [hz2, hz1, hsz, x0, x1, slotOf, ev_slot, ev_lit, ev_gc, ev_bin, ev_neg, ev_not, ev_and, ev_or, ev_cmp, ev_cmp2, ev_ite, ev_tup, ev_lst, ev_ix, ev_sl, ev_f1, ev_f2, ev_isT, ev_call, ev_callK, evs, evo, evo', evA, callD, argsOf, PArg.arg, ownsOf, putOuts, toB, R.get, R.sto, R.flat, cmpD, ltD, leD, isND, binD, addD, subD, modD, ixD, slD, f1D, f2D, lenD, absD, intD, retR, outsOf, Arg.slot, putP, putPs, evRs, setR, okSet, subR, isOwn, putT, putTs, Lit.d, isTD, isEmp, wipeS, compF, max2D, min2D, dmD, lstD, tupD]) (by rw [List.length_map, List.length_zip, rgD_len, Nat.min_self]; exact sl_le (by omega))
    rw [sm] at c
    refine bk_asg c (s2 := [.val (.tuple T), .own false SW, .emp, .emp]) rfl (bk_ret (r := .val (.tuple (SW ++ [wD (0, [(ws.length : Int)])] ++ T ++ [wD (0, [])]))) ?_ rfl)
    have a1 : SW.length + 1 ≤ sizeLine := sl_le (by omega)
    have a2 : SW.length + 1 + T.length ≤ sizeLine := sl_le (by omega)
    have e0 : wD (0, []) = .tuple [.int 0, .tuple []] := rfl
    have e1 : wD (0, [(ws.length : Int)]) = .tuple [.int 0, .tuple [.int (T.length : Int)]] := by
      rw [hTl]
      rfl
    rw [e0, e1]
    have f1 : ev Φ (.f1 .tuple (.slot 1)) [.val (.tuple T), .own false SW, .emp, .emp] = some (.val (.tuple SW), [.val (.tuple T), .own false SW, .emp, .emp]) := rfl
    have f2 : ev Φ (.tup (.cons (.tup (.cons (.lit (.int 0)) (.cons (.tup (.cons (.f1 .len (.slot 0)) (.nil))) (.nil)))) (.nil))) [.val (.tuple T), .own false SW, .emp, .emp] = some (.val (.tuple [.tuple [.int 0, .tuple [.int (T.length : Int)]]]), [.val (.tuple T), .own false SW, .emp, .emp]) := by
      simp [hz, hz1, hz2, ev_slot, ev_lit, ev_gc, ev_bin, ev_neg, ev_not, ev_and, ev_or, ev_cmp, ev_cmp2, ev_ite, ev_tup, ev_lst, ev_ix, ev_sl, ev_f1, ev_f2, ev_isT, ev_call, ev_callK, evs, evo, evo', evA, callD, argsOf, PArg.arg, ownsOf, putOuts, toB, R.get, R.sto, R.flat, cmpD, ltD, leD, isND, binD, addD, subD, modD, ixD, slD, f1D, f2D, lenD, absD, intD, retR, outsOf, Arg.slot, putP, putPs, evRs, setR, okSet, subR, isOwn, putT, putTs, Lit.d, isTD, isEmp, wipeS, compF, max2D, min2D, dmD, lstD, tupD]
    have f3 : ev Φ (.f1 .tuple (.slot 0)) [.val (.tuple T), .own false SW, .emp, .emp] = some (.val (.tuple T), [.val (.tuple T), .own false SW, .emp, .emp]) := rfl
    have f4 : ev Φ (.tup (.cons (.tup (.cons (.lit (.int 0)) (.cons (.tup .nil) (.nil)))) (.nil))) [.val (.tuple T), .own false SW, .emp, .emp] = some (.val (.tuple [.tuple [.int 0, .tuple []]]), [.val (.tuple T), .own false SW, .emp, .emp]) := by
      simp [hz, hz1, hz2, ev_slot, ev_lit, ev_gc, ev_bin, ev_neg, ev_not, ev_and, ev_or, ev_cmp, ev_cmp2, ev_ite, ev_tup, ev_lst, ev_ix, ev_sl, ev_f1, ev_f2, ev_isT, ev_call, ev_callK, evs, evo, evo', evA, callD, argsOf, PArg.arg, ownsOf, putOuts, toB, R.get, R.sto, R.flat, cmpD, ltD, leD, isND, binD, addD, subD, modD, ixD, slD, f1D, f2D, lenD, absD, intD, retR, outsOf, Arg.slot, putP, putPs, evRs, setR, okSet, subR, isOwn, putT, putTs, Lit.d, isTD, isEmp, wipeS, compF, max2D, min2D, dmD, lstD, tupD]
    have d1 : binD .add (.tuple SW) (.tuple [.tuple [.int 0, .tuple [.int (T.length : Int)]]]) = some (.val (.tuple (SW ++ [.tuple [.int 0, .tuple [.int (T.length : Int)]]]))) := if_pos a1
    generalize hA : SW ++ [PyData.tuple [.int 0, .tuple [.int (T.length : Int)]]] = A at d1
    have hAl : A.length = SW.length + 1 := by rw [← hA]; simp
    have d2 : binD .add (.tuple A) (.tuple T) = some (.val (.tuple (A ++ T))) := if_pos (by rw [hAl]; exact a2)
    have d3 : binD .add (.tuple (A ++ T)) (.tuple [.tuple [.int 0, .tuple []]]) = some (.val (.tuple (A ++ T ++ [.tuple [.int 0, .tuple []]]))) := if_pos (by rw [List.length_append, hAl]; exact sl_le (by simp; omega))
    have g1 : ev Φ (.bin .add (.f1 .tuple (.slot 1)) (.tup (.cons (.tup (.cons (.lit (.int 0)) (.cons (.tup (.cons (.f1 .len (.slot 0)) (.nil))) (.nil)))) (.nil)))) [.val (.tuple T), .own false SW, .emp, .emp] = some (.val (.tuple A), [.val (.tuple T), .own false SW, .emp, .emp]) := by
      rw [ev_bin, f1, Option.bind_some]
      simp only [f2, Option.bind_some, R.get, d1, Option.map_some]
    have g2 : ev Φ (.bin .add (.bin .add (.f1 .tuple (.slot 1)) (.tup (.cons (.tup (.cons (.lit (.int 0)) (.cons (.tup (.cons (.f1 .len (.slot 0)) (.nil))) (.nil)))) (.nil)))) (.f1 .tuple (.slot 0))) [.val (.tuple T), .own false SW, .emp, .emp] = some (.val (.tuple (A ++ T)), [.val (.tuple T), .own false SW, .emp, .emp]) := by
      rw [ev_bin, g1, Option.bind_some]
      simp only [f3, Option.bind_some, R.get, d2, Option.map_some]
    rw [ev_bin, g2, Option.bind_some]
    simp only [f4, Option.bind_some, R.get, d3, Option.map_some]
  exact run_ok (Nat.le_of_ble_eq_true rfl) (key p_law_steps) rfl rfl
end L23

set_option maxRecDepth 100000
set_option linter.all false
set_option maxHeartbeats 4000000
namespace L23
open Mi PySem
/-! ### what may be shown -/
structure Sm (e b : Nat) (d : D) : Prop where
  l : d.leavesShort 70 = true
  s : d.showable = true
  n : d.hasDict = false
  e : d.depth ≤ e
  b : d.bulk ≤ b
def Sh (d : D) : Prop := d.showable = true ∧ d.hasDict = false ∧ d.depth ≤ 60 ∧ d.shown.length ≤ sizeLine
theorem Sm.sh {e b : Nat} {d : D} (h : Sm e b d) (he : e ≤ 60) (hb : b ≤ 200000) : Sh d := by
  refine ⟨h.s, h.n, Nat.le_trans h.e he, ?_⟩
  have a := PyData.shown_le_bulk 70 (by decide) d h.l
  have c := h.b
  rw [sizeLine_eq]
  omega
theorem Sh.re {d : D} (h : Sh d) : reprD d = some (.val (.str d.shown)) := if_pos h
theorem eqv_str (x : Str) : eqqD (.str x) (.str x) = some true := by
  show some (decide (x = x)) = _
  rw [decide_eq_true rfl]
theorem Sm.int {i : Int} (h0 : 0 ≤ i) (h1 : i < big) : Sm 0 0 (.int i) := by
  have hb : i.natAbs < 10 ^ 62 := by
    have e : big = ((10 ^ 62 : Nat) : Int) := by decide
    omega
  refine ⟨?_, ?_, by simp only [PyData.hasDict], by simp [PyData.depth], by simp [PyData.bulk]⟩
  · have e : (toString i).length ≤ 62 + 1 := int_text_length_le10 (by decide) hb
    have e2 : (PyData.int i).shown.length ≤ 70 := by
      show (Str.ofString (toString i)).length ≤ 70
      rw [PySem.ofString_length]
      omega
    exact decide_eq_true e2
  · have : i.natAbs.log2 < 1920 := by
      by_cases z : i.natAbs = 0
      · rw [z]
        decide
      · have h2 : (10 : Nat) ^ 62 < 2 ^ 207 := by decide
        have := (Nat.log2_lt (k := 207) z).mpr (by omega)
        omega
    exact decide_eq_true this
theorem sm_all {e b : Nat} : ∀ {ds : List D}, (∀ d ∈ ds, Sm e b d) → PyData.leavesShortAll 70 ds = true ∧ PyData.showableAll ds = true ∧ PyData.hasDictAll ds = false ∧ PyData.depthAll ds ≤ e ∧ PyData.bulkAll ds ≤ ds.length * (b + 1)
  | [], _ => ⟨by simp [PyData.leavesShortAll], by simp [PyData.showableAll], by simp [PyData.hasDictAll], by simp [PyData.depthAll], by simp [PyData.bulkAll]⟩
  | d :: ds, h => by
    obtain ⟨h1, h2, h3, h4, h5⟩ := sm_all fun d z => h d (List.mem_cons_of_mem _ z)
    have k := h d List.mem_cons_self
    refine ⟨by simp [PyData.leavesShortAll, k.l, h1], by simp [PyData.showableAll, k.s, h2], by simp [PyData.hasDictAll, k.n, h3], ?_, ?_⟩
    · have := k.e
      simp only [PyData.depthAll]
      omega
    · have := k.b
      simp only [PyData.bulkAll, List.length_cons, Nat.add_mul]
      omega
theorem Sm.tup {e b n : Nat} {ds : List D} (h : ∀ d ∈ ds, Sm e b d) (hn : ds.length ≤ n) : Sm (e + 1) (n * (b + 1)) (.tuple ds) := by
  obtain ⟨h1, h2, h3, h4, h5⟩ := sm_all h
  have := Nat.mul_le_mul_right (b + 1) hn
  exact ⟨by simp only [PyData.leavesShort]; exact h1, by simp only [PyData.showable]; exact h2, by simp only [PyData.hasDict]; exact h3, by simp only [PyData.depth]; omega, by simp only [PyData.bulk]; omega⟩
theorem Sm.lst {e b n : Nat} {ds : List D} (h : ∀ d ∈ ds, Sm e b d) (hn : ds.length ≤ n) : Sm (e + 1) (n * (b + 1)) (.list ds) := by
  obtain ⟨h1, h2, h3, h4, h5⟩ := sm_all h
  have := Nat.mul_le_mul_right (b + 1) hn
  exact ⟨by simp only [PyData.leavesShort]; exact h1, by simp only [PyData.showable]; exact h2, by simp only [PyData.hasDict]; exact h3, by simp only [PyData.depth]; omega, by simp only [PyData.bulk]; omega⟩
theorem Sm.up {e b e' b' : Nat} {d : D} (h : Sm e b d) (he : e ≤ e') (hb : b ≤ b') : Sm e' b' d := ⟨h.l, h.s, h.n, Nat.le_trans h.e he, Nat.le_trans h.b hb⟩
theorem sm_block {m : Nat} {xs : List Int} (h : OkI m xs) (hm : m ≤ 90) : Sm 1 90 (tI xs) := by
  have := Sm.tup (e := 0) (b := 0) (n := 90) (ds := xs.map PyData.int) (fun d z => by
    obtain ⟨x, hx, rfl⟩ := List.mem_map.mp z
    exact Sm.int (h.1 x hx).1 (h.1 x hx).2) (by rw [List.length_map]; have := h.2; omega)
  simpa using this
theorem sm_blk {d : D} (h : Blk d) : Sm 1 90 d := by
  rcases h with rfl | ⟨xs, rfl, h⟩
  · exact ⟨rfl, rfl, rfl, by simp [PyData.depth], by simp [PyData.bulk]⟩
  · exact sm_block h (Nat.le_refl _)
theorem sm_disk {ds : List D} (h : ∀ d ∈ ds, Blk d) (hl : ds.length ≤ 70) : Sm 2 6400 (.tuple ds) := (Sm.tup (n := 70) (fun d z => sm_blk (h d z)) hl).up (by decide) (by decide)
theorem sm_write {w : Nat × List Int} (h : OkW 100 w) : Sm 2 182 (wD w) := by
  refine (Sm.tup (e := 1) (b := 90) (n := 2) (ds := [.int w.1, tI w.2]) (fun d z => ?_) (by simp))
  simp only [List.mem_cons, List.mem_nil_iff, or_false] at z
  have hw := h.1
  rcases z with rfl | rfl
  · refine (Sm.int (by omega) ?_).up (by decide) (by decide)
    have : (100 : Int) < big := by decide
    omega
  · exact sm_block h.2 (Nat.le_refl _)
theorem sm_writes {ws : List (Nat × List Int)} (h : ∀ w ∈ ws, OkW 100 w) (hl : ws.length ≤ 20) : Sm 3 3660 (.tuple (ws.map wD)) := by
  refine Sm.tup (e := 2) (b := 182) (n := 20) (ds := ws.map wD) (fun d z => ?_) (by rw [List.length_map]; exact hl)
  obtain ⟨w, hw, rfl⟩ := List.mem_map.mp z
  exact sm_write (h w hw)
/-! ### what is behind the steps -/
def dueW (ws : List (Nat × List Int)) : List (Nat × List Int) := ((List.range ws.length).zip ws).flatMap fun p => [p.2, (p.1 + 1, (p.2.1 : Int) :: p.2.2)]
theorem flat_pairs {α β : Type} (f g : α → β) : ∀ l : List α, (l.flatMap fun x => [f x, g x]).Perm (l.map f ++ l.map g)
  | [] => List.Perm.refl _
  | a :: l => by
    rw [List.flatMap_cons, List.map_cons, List.map_cons]
    show (f a :: g a :: _).Perm (f a :: (l.map f ++ g a :: l.map g))
    refine List.Perm.cons _ ?_
    exact ((flat_pairs f g l).cons (g a)).trans List.perm_middle.symm
theorem zip_snd {ws : List (Nat × List Int)} : ((List.range ws.length).zip ws).map (·.2) = ws := by
  rw [List.map_snd_zip]
  simp
theorem due_perm (ws : List (Nat × List Int)) : (dueW ws).Perm (ws ++ slotsW ws) := by
  have := flat_pairs (fun (p : Nat × Nat × List Int) => p.2) (fun p => (p.1 + 1, (p.2.1 : Int) :: p.2.2)) ((List.range ws.length).zip ws)
  rw [show ((List.range ws.length).zip ws).map (fun (p : Nat × Nat × List Int) => p.2) = ws from zip_snd] at this
  exact this
theorem slots_places (ws : List (Nat × List Int)) : (slotsW ws).map (·.1) = (List.range ws.length).map (· + 1) := by
  unfold slotsW
  have : ((List.range ws.length).zip ws).map (·.1) = List.range ws.length := by
    rw [List.map_fst_zip]
    simp
  have e2 : ∀ l : List (Nat × Nat × List Int), (l.map fun p => (p.1 + 1, (p.2.1 : Int) :: p.2.2)).map (·.1) = (l.map (·.1)).map (· + 1) := fun l => by
    rw [List.map_map, List.map_map]
    rfl
  rw [e2, this]
section
variable {n : Nat} {ws : List (Nat × List Int)} (B : Batch n ws) (hn : n ≤ 70)
include B hn
theorem slots_mem {w : Nat × List Int} (h : w ∈ slotsW ws) : 1 ≤ w.1 ∧ w.1 ≤ 8 ∧ OkI 81 w.2 := by
  have hb := B.b
  unfold slotsW at h
  obtain ⟨p, hp, rfl⟩ := List.mem_map.mp h
  obtain ⟨i, v⟩ := p
  have h1 := List.mem_range.mp (List.of_mem_zip hp).1
  have h2 := B.w v (List.of_mem_zip hp).2
  refine ⟨by show 1 ≤ i + 1; omega, by show i + 1 ≤ 8; omega, fun x hx => ?_, ?_⟩
  · rcases List.mem_cons.mp hx with rfl | hx
    · have : (100 : Int) < big := by decide
      have := h2.2.1
      show 0 ≤ (v.1 : Int) ∧ (v.1 : Int) < big
      omega
    · exact h2.2.2.1 x hx
  · show v.2.length + 1 ≤ 81
    have := h2.2.2.2
    omega
theorem all_nodup : ((ws ++ slotsW ws).map (·.1)).Nodup := by
  rw [List.map_append, List.nodup_append]
  refine ⟨B.u, ?_, fun a ha b hb => ?_⟩
  · rw [slots_places]
    exact List.pairwise_map.mpr (List.nodup_range.imp fun h z => h (by omega))
  · obtain ⟨w, hw, rfl⟩ := List.mem_map.mp ha
    obtain ⟨v, hv, rfl⟩ := List.mem_map.mp hb
    have := (B.w w hw).1
    have := (slots_mem B hn hv).2.1
    omega
theorem due_set {Z : List D} (hl : Z.length = n) (h11 : 11 ≤ n) : setAll Z (dueW ws) = setAll Z (ws ++ slotsW ws) := by
  have pm := due_perm ws
  refine setAll_same ((pm.map _).nodup_iff.mpr (all_nodup B hn)) (all_nodup B hn) (fun w => pm.mem_iff) fun w hw => ?_
  rcases List.mem_append.mp (pm.mem_iff.mp hw) with z | z
  · have := (B.w w z).2.1
    omega
  · have := (slots_mem B hn z).2.1
    omega
theorem steps_set {Z : List D} (hl : Z.length = n) (h11 : 11 ≤ n) (hZ : Z[0]? = some (.tuple [])) : setAll Z (stepsW ws) = setAll Z (ws ++ slotsW ws) := by
  have nd := all_nodup B hn
  have sn : ((slotsW ws).map (·.1)).Nodup := by
    rw [List.map_append, List.nodup_append] at nd
    exact nd.2.1
  have pos : ∀ w ∈ ws ++ slotsW ws, 1 ≤ w.1 ∧ w.1 < n := fun w hw => by
    rcases List.mem_append.mp hw with z | z
    · have := B.w w z
      omega
    · have := slots_mem B hn z
      omega
  apply List.ext_getElem?
  intro j
  unfold stepsW
  rw [setAll_app, setAll_app, setAll_app]
  show ((setAll ((setAll Z (slotsW ws)).set 0 (tI [(ws.length : Int)])) ws).set 0 (tI []))[j]? = _
  by_cases j0 : j = 0
  · subst j0
    rw [List.getElem?_set_self (by rw [setAll_len, List.length_set, setAll_len]; omega), setAll_not fun w hw => by have := pos w hw; omega, hZ]
    rfl
  · rw [List.getElem?_set_ne (fun z => j0 z.symm)]
    by_cases q : ∃ w ∈ ws, w.1 = j
    · obtain ⟨w, hw, rfl⟩ := q
      have hp := pos w (List.mem_append_left _ hw)
      rw [setAll_mem B.u hw (by rw [List.length_set, setAll_len]; omega), setAll_mem nd (List.mem_append_left _ hw) (by omega)]
    · rw [setAll_not fun w hw z => q ⟨w, hw, z⟩, List.getElem?_set_ne (fun z => j0 z.symm)]
      by_cases q2 : ∃ u ∈ slotsW ws, u.1 = j
      · obtain ⟨u, hu, rfl⟩ := q2
        have hp := pos u (List.mem_append_right _ hu)
        rw [setAll_mem sn hu (by omega), setAll_mem nd (List.mem_append_right _ hu) (by omega)]
      · rw [setAll_not fun w hw z => q2 ⟨w, hw, z⟩, setAll_not fun w hw z => by
          rcases List.mem_append.mp hw with y | y
          · exact q ⟨w, y, z⟩
          · exact q2 ⟨w, y, z⟩]
/-- behind a whole batch the disk is quiet -/
theorem behind_quiet {Z : List D} {fs gs : List D} (hZ : Z = .tuple [] :: (fs ++ gs)) (h8 : fs.length = 8) (hf : ∀ d ∈ fs, Blk d) (hg : ∀ d ∈ gs, NB d) (hl : Z.length = n) (h11 : 11 ≤ n) :
    ∃ r, setAll Z (ws ++ slotsW ws) = .tuple [] :: r ∧ Sound (.tuple []) 0 r [] := by
  obtain ⟨S, hS⟩ : ∃ S, setAll Z (ws ++ slotsW ws) = S := ⟨_, rfl⟩
  have nd := all_nodup B hn
  have sl : S.length = n := by rw [← hS, setAll_len, hl]
  have okw : ∀ w ∈ ws ++ slotsW ws, OkI 90 w.2 ∧ 1 ≤ w.1 ∧ w.1 < n := fun w hw => by
    rcases List.mem_append.mp hw with z | z
    · have h1 := B.w w z
      exact ⟨⟨h1.2.2.1, by have := h1.2.2.2; omega⟩, by omega, by omega⟩
    · have h1 := slots_mem B hn z
      exact ⟨⟨h1.2.2.1, by have := h1.2.2.2; omega⟩, by omega, by omega⟩
  have blk : ∀ d ∈ S, Blk d := by
    rw [← hS]
    refine setAll_all (fun d hd => ?_) fun w hw => .inr ⟨w.2, rfl, (okw w hw).1⟩
    rw [hZ] at hd
    rcases List.mem_cons.mp hd with rfl | hd
    · exact .inr ⟨[], rfl, nofun, Nat.zero_le _⟩
    · rcases List.mem_append.mp hd with z | z
      · exact hf d z
      · exact (hg d z).blk
  have s0 : S[0]? = some (.tuple []) := by
    rw [← hS, setAll_not fun w hw => by have := okw w hw; omega, hZ]
    rfl
  cases hSc : S with
  | nil =>
    rw [hSc] at s0
    cases s0
  | cons x r =>
    rw [hSc] at s0
    cases s0
    refine ⟨r, by rw [hS, hSc], ?_⟩
    have rl : r.length + 1 = n := by rw [← sl, hSc]; rfl
    have e : r = r.take 8 ++ r.drop 8 := (List.take_append_drop 8 r).symm
    rw [e]
    refine quiet_sound (by rw [List.length_take]; omega) (fun d hd => blk d (by rw [hSc]; exact List.mem_cons_of_mem _ (List.mem_of_mem_take hd))) (by rw [List.length_drop]; omega) (by rw [List.length_drop]; omega) fun d hd => ?_
    obtain ⟨i, hi⟩ := List.mem_iff_getElem?.mp hd
    have hj : S[9 + i]? = some d := by
      rw [hSc, show 9 + i = (8 + i) + 1 by omega, List.getElem?_cons_succ, ← List.getElem?_drop]
      exact hi
    by_cases q : ∃ w ∈ ws ++ slotsW ws, w.1 = 9 + i
    · obtain ⟨w, hw, hwi⟩ := q
      rw [← hS, ← hwi, setAll_mem nd hw (by have := (okw w hw).2.2; omega)] at hj
      exact ⟨w.2, (Option.some.inj hj).symm, (okw w hw).1⟩
    · rw [← hS, setAll_not fun w hw z => q ⟨w, hw, z⟩, hZ, show 9 + i = (8 + i) + 1 by omega, List.getElem?_cons_succ, List.getElem?_append_right (by omega)] at hj
      exact hg d (List.mem_of_getElem? hj)
end
end L23

set_option maxRecDepth 100000
set_option linter.all false
set_option maxHeartbeats 1000000
namespace L23
open Mi PySem
theorem drop_set9 (X : List D) (i : Nat) (v : D) (h : 9 ≤ i) : (X.set i v).drop 9 = (X.drop 9).set (i - 9) v := by
  apply List.ext_getElem?
  intro j
  rw [List.getElem?_drop]
  by_cases e : i = 9 + j
  · subst e
    rw [Nat.add_sub_cancel_left]
    by_cases q : 9 + j < X.length
    · rw [List.getElem?_set_self q, List.getElem?_set_self (by rw [List.length_drop]; omega)]
    · rw [List.getElem?_eq_none (by rw [List.length_set]; omega), List.getElem?_eq_none (by rw [List.length_set, List.length_drop]; omega)]
  · rw [List.getElem?_set_ne e, List.getElem?_set_ne (by omega), List.getElem?_drop]
theorem cont_drop : ∀ {ws : List (Nat × List Int)} (X : List D), (∀ w ∈ ws, 9 ≤ w.1) → contF X ws = (setAll X ws).drop 9
  | [], X, _ => rfl
  | w :: ws, X, h => by
    show ws.foldl _ ((X.drop 9).set (w.1 - 9) (tI w.2)) = (setAll (X.set w.1 (tI w.2)) ws).drop 9
    rw [← drop_set9 X w.1 _ (h w List.mem_cons_self)]
    exact cont_drop (X.set w.1 (tI w.2)) fun v hv => h v (List.mem_cons_of_mem _ hv)
theorem nil_blk : Blk (.tuple []) := .inr ⟨[], rfl, nofun, Nat.zero_le _⟩
/-- the writes that mend X -/
structure Rep (X ms fin : List D) : Prop where
  ex : ∃ h k r tl, X = h :: r ∧ Sound h k r tl ∧ setAll X (mendW (isNil h) tl) = fin ∧ contF X tl = fin.drop 9 ∧ ms = (mendW (isNil h) tl).map wD
/-- a head that tells of nothing -/
theorem rep_quiet {h : D} {r : List D} (S : Sound h 0 r []) (hh : h = .tuple [] ∨ h = .none) : ∃ ms, Rep (h :: r) ms (.tuple [] :: r) := by
  refine ⟨_, ⟨h, 0, r, [], rfl, S, ?_, rfl, rfl⟩⟩
  rcases hh with rfl | rfl <;> rfl
theorem sound_head {h h' : D} {r : List D} (S : Sound h 0 r []) (hb : Blk h') (hh : h' = .tuple [] ∨ h' = .none) : Sound h' 0 r [] := by
  refine ⟨⟨S.d.a, S.d.b, fun d hd => ?_⟩, ?_, rfl, List.nodup_nil, nofun, fun i hi e => ?_, Nat.zero_le _⟩
  · rcases List.mem_cons.mp hd with rfl | z
    · exact hb
    · exact S.d.k d (List.mem_cons_of_mem _ z)
  · rcases hh with rfl | rfl
    · exact .inr (.inl ⟨rfl, rfl⟩)
    · exact .inl ⟨rfl, rfl⟩
  · obtain ⟨j, rfl⟩ : ∃ j, i = j + 1 := ⟨i - 1, by omega⟩
    exact S.n (j + 1) hi (by rw [List.getElem?_cons_succ] at e ⊢; exact e)
section
variable {k : Nat} {r : List D} {tl : List (Nat × List Int)} (S : Sound (.tuple [.int (k : Int)]) k r tl) (hk1 : 1 ≤ k) (hk8 : k ≤ 8)
include S hk1 hk8
theorem told_len : tl.length = k := by
  have := congrArg List.length S.t
  have hb := S.d.a
  have : (PyData.tuple [.int (k : Int)] :: r).length = r.length + 1 := rfl
  rw [List.length_take, List.length_map] at *
  omega
/-- whatever is at the told places, the same comes of it -/
theorem rep_told {X : List D} (hl : X.length = r.length + 1) (hb : ∀ d ∈ X, Blk d) (lo : ∀ j, j ≤ 8 → X[j]? = (PyData.tuple [.int (k : Int)] :: r)[j]?) (ho : ∀ j, 9 ≤ j → (∀ w ∈ tl, w.1 ≠ j) → X[j]? = (PyData.tuple [.int (k : Int)] :: r)[j]?) :
    Rep X ((tl ++ [(0, [])]).map wD) (setAll (.tuple [.int (k : Int)] :: r) (tl ++ [(0, [])])) := by
  have hrl : 10 ≤ r.length := by have : (PyData.tuple [.int (k : Int)] :: r).length = r.length + 1 := rfl; have := S.d.a; omega
  cases hX : X with
  | nil =>
    rw [hX] at hl
    simp at hl
  | cons x r' =>
    have h0 := lo 0 (by omega)
    rw [hX] at h0
    have hx : x = .tuple [.int (k : Int)] := Option.some.inj h0
    subst hx
    have hl' : r'.length = r.length := by rw [hX] at hl; simpa using hl
    have out : ∀ j, (∀ w ∈ tl, w.1 ≠ j) → X[j]? = (PyData.tuple [.int (k : Int)] :: r)[j]? := fun j hn => by
      by_cases q : j ≤ 8
      · exact lo j q
      · exact ho j (by omega) hn
    have S' : Sound (.tuple [.int (k : Int)]) k r' tl := by
      refine ⟨⟨by show 11 ≤ r'.length + 1; omega, by show r'.length + 1 ≤ 70; have := S.d.b; have : (PyData.tuple [.int (k : Int)] :: r).length = r.length + 1 := rfl; omega, by rw [← hX]; exact hb⟩, S.hk, ?_, S.u, fun w hw => by have := S.p w hw; omega, fun i hi e => ?_, S.c⟩
      · rw [← S.t]
        apply List.ext_getElem?
        intro j
        by_cases q : j < k
        · rw [List.getElem?_take_of_lt q, List.getElem?_take_of_lt q]
          have := lo (j + 1) (by omega)
          rw [hX, List.getElem?_cons_succ, List.getElem?_cons_succ] at this
          exact this
        · rw [List.getElem?_eq_none (by rw [List.length_take]; omega), List.getElem?_eq_none (by rw [List.length_take]; omega)]
      · by_cases q : ∃ w ∈ tl, w.1 = i
        · exact q
        · rw [← hX, ho i hi fun w hw z => q ⟨w, hw, z⟩] at e
          exact S.n i hi e
    have fin : setAll X (tl ++ [(0, [])]) = setAll (.tuple [.int (k : Int)] :: r) (tl ++ [(0, [])]) := by
      apply List.ext_getElem?
      intro j
      rw [setAll_app, setAll_app]
      show ((setAll X tl).set 0 (tI []))[j]? = ((setAll (.tuple [.int (k : Int)] :: r) tl).set 0 (tI []))[j]?
      by_cases j0 : 0 = j
      · subst j0
        rw [List.getElem?_set_self (by rw [setAll_len, hl]; omega), List.getElem?_set_self (by rw [setAll_len]; simp)]
      · rw [List.getElem?_set_ne j0, List.getElem?_set_ne j0]
        by_cases q : ∃ w ∈ tl, w.1 = j
        · obtain ⟨w, hw, rfl⟩ := q
          have := S.p w hw
          rw [setAll_mem S.u hw (by omega), setAll_mem S.u hw (by show w.1 < r.length + 1; omega)]
        · have hn : ∀ w ∈ tl, w.1 ≠ j := fun w hw z => q ⟨w, hw, z⟩
          rw [setAll_not hn, setAll_not hn, out j hn]
    refine ⟨⟨.tuple [.int (k : Int)], k, r', tl, rfl, S', ?_, ?_, rfl⟩⟩
    · rw [← hX]
      exact fin
    · rw [← hX, cont_drop X fun w hw => (S.p w hw).1, ← fin, setAll_app]
      show _ = ((setAll X tl).set 0 (tI [])).drop 9
      cases hY : setAll X tl with
      | nil => rfl
      | cons y ys => rfl
end
end L23

set_option maxRecDepth 100000
set_option linter.all false
set_option maxHeartbeats 1000000
namespace L23
open Mi PySem
theorem runF_len (ds : List D) (ws : List (Nat × List Int)) (c : Nat) (t : Bool) : (runF ds ws c t).length = ds.length := by
  unfold runF
  split
  · rw [List.length_set, setAll_len]
  · rw [setAll_len]
theorem runF_blk {ds : List D} {ws : List (Nat × List Int)} (h : ∀ d ∈ ds, Blk d) (hw : ∀ w ∈ ws, OkI 90 w.2) (c : Nat) (t : Bool) : ∀ d ∈ runF ds ws c t, Blk d := by
  have hs : ∀ d ∈ setAll ds (ws.take c), Blk d := setAll_all h fun w z => .inr ⟨w.2, rfl, hw w (List.mem_of_mem_take z)⟩
  unfold runF
  split
  · intro d hd
    rcases List.mem_or_eq_of_mem_set hd with z | z
    · exact hs d z
    · exact .inl z
  · exact hs
theorem runF_not {ds : List D} {ws : List (Nat × List Int)} {c : Nat} {t : Bool} {j : Nat} (h : ∀ w ∈ ws.take (c + 1), w.1 ≠ j) : (runF ds ws c t)[j]? = ds[j]? := by
  have hs : (setAll ds (ws.take c))[j]? = ds[j]? := setAll_not fun w z => h w (List.mem_of_mem_take (by rw [List.take_take, Nat.min_eq_left (Nat.le_succ c)]; exact z))
  unfold runF
  split
  · rename_i w e
    have hm : w ∈ ws.take (c + 1) := by
      refine List.mem_of_getElem? (i := c) ?_
      rw [List.getElem?_take_of_lt (Nat.lt_succ_self c)]
      exact e
    rw [List.getElem?_set_ne (h w hm)]
    exact hs
  · exact hs
theorem runF_ge {ds : List D} {ws : List (Nat × List Int)} {c : Nat} (t : Bool) (h : ws.length ≤ c) : runF ds ws c t = setAll ds ws := by
  unfold runF
  rw [List.take_of_length_le h]
  split
  · rename_i w q
    rw [List.getElem?_eq_none h] at q
    cases q
  · rfl
theorem told_blk {h : D} {k : Nat} {r : List D} {tl : List (Nat × List Int)} (S : Sound h k r tl) {w : Nat × List Int} (hw : w ∈ tl) : OkI 89 w.2 := by
  have h1 : sD w ∈ r := List.mem_of_mem_take (by rw [S.t]; exact List.mem_map.mpr ⟨w, hw, rfl⟩)
  rcases S.d.k _ (List.mem_cons_of_mem _ h1) with z | ⟨xs, e, ok⟩
  · cases z
  · rw [sD_eq] at e
    have e2 : ((w.1 : Int) :: w.2).map PyData.int = xs.map .int := PyData.tuple.inj e
    have e3 := (List.map_inj_right fun x y z => PyData.int.inj z).mp e2
    subst e3
    refine ⟨fun x hx => ok.1 x (List.mem_cons_of_mem _ hx), ?_⟩
    have := ok.2
    rw [List.length_cons] at this
    omega
theorem mend_ok {h : D} {k : Nat} {r : List D} {tl : List (Nat × List Int)} (S : Sound h k r tl) (q : Bool) : ∀ w ∈ mendW q tl, OkW (h :: r).length w := fun w hw => by
  have e : (h :: r).length = r.length + 1 := rfl
  unfold mendW at hw
  split at hw
  · cases hw
  · rcases List.mem_append.mp hw with z | z
    · have := S.p w z
      have o := told_blk S z
      exact ⟨by omega, o.1, by have := o.2; omega⟩
    · rw [List.mem_singleton.mp z]
      exact ⟨by show 0 < _; omega, nofun, Nat.zero_le _⟩
theorem mend_len (q : Bool) {tl : List (Nat × List Int)} (h : tl.length ≤ 8) : (mendW q tl).length ≤ 9 := by
  unfold mendW
  split
  · exact Nat.zero_le _
  · rw [List.length_append]
    show tl.length + 1 ≤ 9
    omega
section
variable {k : Nat} {r : List D} {tl : List (Nat × List Int)} (S : Sound (.tuple [.int (k : Int)]) k r tl) (hk1 : 1 ≤ k) (hk8 : k ≤ 8)
include S hk1 hk8
theorem told_all : ∃ r', setAll (.tuple [.int (k : Int)] :: r) tl = .tuple [.int (k : Int)] :: r' ∧ r'.take 8 = r.take 8 ∧ Sound (.tuple []) 0 r' [] ∧ Sound .none 0 r' [] := by
  have lo : ∀ j, j ≤ 8 → (setAll (.tuple [.int (k : Int)] :: r) tl)[j]? = (PyData.tuple [.int (k : Int)] :: r)[j]? := fun j hj => setAll_not fun w hw => by have := S.p w hw; omega
  have hl := setAll_len (.tuple [.int (k : Int)] :: r) tl
  have hb : ∀ d ∈ setAll (.tuple [.int (k : Int)] :: r) tl, Blk d := setAll_all S.d.k fun w hw => .inr ⟨w.2, rfl, (told_blk S hw).1, by have := (told_blk S hw).2; omega⟩
  have hn : ∀ i, 9 ≤ i → (setAll (.tuple [.int (k : Int)] :: r) tl)[i]? ≠ some .none := fun i hi e => by
    by_cases q : ∃ w ∈ tl, w.1 = i
    · obtain ⟨w, hw, rfl⟩ := q
      have := S.p w hw
      rw [setAll_mem S.u hw (by show w.1 < r.length + 1; omega)] at e
      cases e
    · rw [setAll_not fun w hw z => q ⟨w, hw, z⟩] at e
      exact q (S.n i hi e)
  have da := S.d.a
  have db := S.d.b
  cases hX : setAll (.tuple [.int (k : Int)] :: r) tl with
  | nil =>
    rw [hX] at hl
    cases hl
  | cons x r' =>
    rw [hX] at hb hn hl
    have h0 := lo 0 (by omega)
    rw [hX] at h0
    have hx : x = .tuple [.int (k : Int)] := Option.some.inj h0
    have hl' : r'.length = r.length := by simpa using hl
    have S1 : Sound (.tuple []) 0 r' [] := by
      have e1 : (PyData.tuple [.int (k : Int)] :: r).length = r.length + 1 := rfl
      have e2 : (PyData.tuple [] :: r').length = r'.length + 1 := rfl
      refine ⟨⟨by omega, by omega, fun d hd => ?_⟩, .inr (.inl ⟨rfl, rfl⟩), rfl, List.nodup_nil, nofun, fun i hi e => ?_, Nat.zero_le _⟩
      · rcases List.mem_cons.mp hd with rfl | z
        · exact nil_blk
        · exact hb d (List.mem_cons_of_mem _ z)
      · obtain ⟨j, rfl⟩ : ∃ j, i = j + 1 := ⟨i - 1, by omega⟩
        exact absurd (by rw [List.getElem?_cons_succ] at e ⊢; exact e) (hn (j + 1) hi)
    refine ⟨r', by rw [hx], ?_, S1, sound_head S1 (.inl rfl) (.inr rfl)⟩
    apply List.ext_getElem?
    intro j
    by_cases q : j < 8
    · rw [List.getElem?_take_of_lt q, List.getElem?_take_of_lt q]
      have := lo (j + 1) (by omega)
      rw [hX, List.getElem?_cons_succ, List.getElem?_cons_succ] at this
      exact this
    · rw [List.getElem?_eq_none (by rw [List.length_take]; omega), List.getElem?_eq_none (by rw [List.length_take]; omega)]
theorem told_fin {r' : List D} (e : setAll (.tuple [.int (k : Int)] :: r) tl = .tuple [.int (k : Int)] :: r') : setAll (.tuple [.int (k : Int)] :: r) (tl ++ [(0, [])]) = .tuple [] :: r' := by
  rw [setAll_app, e]
  rfl
theorem rep_cut (c : Nat) (t : Bool) : ∃ ms, Rep (runF (.tuple [.int (k : Int)] :: r) (tl ++ [(0, [])]) c t) ms (setAll (.tuple [.int (k : Int)] :: r) (tl ++ [(0, [])])) := by
  obtain ⟨r', e, _, S1, S0⟩ := told_all S hk1 hk8
  have ef := told_fin S hk1 hk8 e
  have tlen := told_len S hk1 hk8
  have ok := mend_ok S false
  have ok : ∀ w ∈ tl ++ [(0, [])], OkW (PyData.tuple [.int (k : Int)] :: r).length w := ok
  have wl : (tl ++ [((0 : Nat), ([] : List Int))]).length = k + 1 := by rw [List.length_append, tlen]; rfl
  by_cases c1 : k + 1 ≤ c
  · rw [runF_ge t (by omega), ef]
    exact rep_quiet S1 (.inl rfl)
  · by_cases c2 : c = k ∧ t = true
    · obtain ⟨rfl, rfl⟩ := c2
      have g : runF (.tuple [.int (c : Int)] :: r) (tl ++ [(0, [])]) c true = .none :: r' := by
        unfold runF
        have e2 : (tl ++ [((0 : Nat), ([] : List Int))])[c]? = some (0, []) := by
          rw [List.getElem?_append_right (by omega), tlen, Nat.sub_self]
          rfl
        rw [e2]
        show (setAll _ (List.take c (tl ++ _))).set 0 .none = _
        rw [← tlen, List.take_left', tlen, e]
        · rfl
        · rfl
      rw [g, ef]
      exact rep_quiet S0 (.inr rfl)
    · refine ⟨_, rep_told S hk1 hk8 ?_ ?_ ?_ ?_⟩
      · rw [runF_len]
        rfl
      · exact runF_blk S.d.k (fun w hw => (ok w hw).2) c t
      · intro j hj
        by_cases c3 : c < k
        · refine runF_not fun w hw => ?_
          rw [List.take_append_of_le_length (by omega)] at hw
          have := S.p w (List.mem_of_mem_take hw)
          omega
        · have ck : c = k := by omega
          have tf : t = false := by
            cases t
            · rfl
            · exact absurd ⟨ck, rfl⟩ c2
          subst ck
          subst tf
          show (setAll _ (List.take c (tl ++ _)))[j]? = _
          rw [← tlen, List.take_left', tlen]
          · exact setAll_not fun w hw => by have := S.p w hw; omega
          · rfl
      · intro j hj hn
        refine runF_not fun w hw => ?_
        rcases List.mem_append.mp (List.mem_of_mem_take hw) with z | z
        · exact hn w z
        · rw [List.mem_singleton.mp z]
          show 0 ≠ j
          omega
end
theorem tl_nil {h : D} {r : List D} {tl : List (Nat × List Int)} (S : Sound h 0 r tl) : tl = [] := by
  have := S.t
  cases tl with
  | nil => rfl
  | cons w ws => cases this
/-! ### the law's own writing -/
def runTo (ds : List D) (ws : List (Nat × List Int)) (c : Nat) (t : Bool) (i : Nat) : List D := if i ≤ c then setAll ds (ws.take i) else runF ds ws c t
theorem enum_get {ds : List D} {i : Nat} {d : D} (h : (((rgD 0 ds.length).zip ds).map fun (p : D × D) => PyData.tuple [p.1, p.2])[i]? = some d) : ∃ x, ds[i]? = some x ∧ d = .tuple [.int (i : Int), x] := by
  rw [List.getElem?_map] at h
  obtain ⟨p, hp, rfl⟩ := Option.map_eq_some_iff.mp h
  obtain ⟨a, b⟩ := p
  have hz := List.getElem?_zip_eq_some.mp hp
  refine ⟨b, hz.2, ?_⟩
  have h1 := hz.1
  unfold rgD at h1
  rw [List.getElem?_map] at h1
  obtain ⟨j, hj, e⟩ := Option.map_eq_some_iff.mp h1
  rw [List.getElem?_range] at hj
  · cases hj
    show PyData.tuple [a, b] = _
    have e' : PyData.int (0 + (i : Int)) = a := e
    rw [← e', Int.zero_add]
  · have := (List.getElem?_eq_some_iff.mp hz.2).1
    exact this
theorem bk_ifT {Φ : Phi} {c : E} {x y k : Bk} {s s1 s2 : Sl} {o : Option (Fl × Sl)} (h : ev Φ c s = some (.val (.bool true), s1)) (hx : bk Φ x s1 = some (.nx, s2)) (h3 : bk Φ k s2 = o) : bk Φ (.cons (.ife c x y) k) s = o := bk_if (t := true) h (by rw [if_pos rfl, hx]; exact h3)
theorem bk_ifE {Φ : Phi} {c : E} {x y k : Bk} {s s1 s2 : Sl} {o : Option (Fl × Sl)} (h : ev Φ c s = some (.val (.bool false), s1)) (hy : bk Φ y s1 = some (.nx, s2)) (h3 : bk Φ k s2 = o) : bk Φ (.cons (.ife c x y) k) s = o := bk_if (t := false) h (by rw [if_neg (by decide), hy]; exact h3)
theorem bk_forN {Φ : Phi} {tg : Tg} {it : It'} {x k : Bk} {s s1 s2 : Sl} {ds : List D} {o : Option (Fl × Sl)} (h : evI Φ it s = some (ds, s1)) (h2 : forL (fun d s => putT tg d s) (fun s => bk Φ x s) ds s1 = some (.nx, s2)) (h3 : bk Φ k s2 = o) : bk Φ (.cons (.for_ tg it x) k) s = o := bk_for h h2 h3
theorem law_run_ok {ds : List D} {ws : List (Nat × List Int)} {c : Nat} {t : Bool} (h : ∀ w ∈ ws, w.1 < ds.length) (hl : ws.length ≤ 100) : m_law_run [.val (.tuple ds), .val (.tuple (ws.map wD)), .val (.int c), .val (.bool t)] = some (.val (.tuple (runF ds ws c t)), []) := by
  have key : ∀ Φ : Phi, ∃ z5 z6 z7, bk Φ b_law_run [.val (.tuple ds), .val (.tuple (ws.map wD)), .val (.int c), .val (.bool t), .emp, .emp, .emp, .emp] = some (.ret (.val (.tuple (runF ds ws c t))), [.val (.tuple ds), .val (.tuple (ws.map wD)), .val (.int c), .val (.bool t), .own false (runF ds ws c t), z5, z6, z7]) := fun Φ => by
    obtain ⟨s', ef, y5, y6, y7, rfl, _⟩ := forL_inv (put := fun d s => putT (.tup (.cons (.name 5) (.cons (.tup (.cons (.name 6) (.cons (.name 7) (.nil)))) (.nil)))) d s) (body := fun s => bk Φ (.cons (.ife (.cmp .lt (.slot 5) (.slot 2)) (.cons (.asg (.sub 4 (.slot 6)) (.slot 7)) (.nil)) (.cons (.ife (.and (.cmp .eq (.slot 5) (.slot 2)) (.slot 3)) (.cons (.asg (.sub 4 (.slot 6)) (.lit .none)) (.nil)) (.nil)) (.nil))) (.nil)) s) (((rgD 0 (ws.map wD).length).zip (ws.map wD)).map fun (p : D × D) => PyData.tuple [p.1, p.2])
      (fun i s => ∃ y5 y6 y7, s = [.val (.tuple ds), .val (.tuple (ws.map wD)), .val (.int c), .val (.bool t), .own false (runTo ds ws c t i), y5, y6, y7] ∧ (∀ o zs, y5 ≠ .own o zs) ∧ (∀ o zs, y6 ≠ .own o zs) ∧ ∀ o zs, y7 ≠ .own o zs) (by
        rintro i d s hd ⟨y5, y6, y7, rfl, h5, h6, h7⟩
        obtain ⟨x, hx, rfl⟩ := enum_get hd
        rw [List.getElem?_map] at hx
        obtain ⟨w, hw, rfl⟩ := Option.map_eq_some_iff.mp hx
        have hi : i < ws.length := (List.getElem?_eq_some_iff.mp hw).1
        have hwm := h w (List.mem_of_getElem? hw)
        have ix : L2.ixN (runTo ds ws c t i).length ((w.1 : Nat) : Int) = some w.1 := ixN_nat (by
          unfold runTo
          split
          · rw [setAll_len]
            exact hwm
          · rw [runF_len]
            exact hwm)
        have tk : ws.take (i + 1) = ws.take i ++ [w] := by
          rw [List.take_add_one, hw]
          rfl
        refine ⟨[.val (.tuple ds), .val (.tuple (ws.map wD)), .val (.int c), .val (.bool t), .own false (runTo ds ws c t i), .val (.int i), .val (.int w.1), .val (tI w.2)], [.val (.tuple ds), .val (.tuple (ws.map wD)), .val (.int c), .val (.bool t), .own false (runTo ds ws c t (i + 1)), .val (.int i), .val (.int w.1), .val (tI w.2)], ?_, ?_, ⟨_, _, _, rfl, nofun, nofun, nofun⟩⟩
        · cases y5 <;> cases y6 <;> cases y7 <;> first | rfl | exact absurd rfl (h5 _ _) | exact absurd rfl (h6 _ _) | exact absurd rfl (h7 _ _)
        · by_cases q1 : i < c
          · have e1 : runTo ds ws c t (i + 1) = (runTo ds ws c t i).set w.1 (tI w.2) := by
              unfold runTo
              rw [if_pos (by omega), if_pos (by omega), tk, setAll_app]
              rfl
            rw [e1]
            generalize runTo ds ws c t i = G at ix
            generalize tI w.2 = bl
            generalize ws.map wD = T
            have q2 : (i : Int) < (c : Int) := by omega
            generalize (i : Int) = ii at q2
            generalize (c : Int) = ci at q2
            refine bk_ifT (s1 := [.val (.tuple ds), .val (.tuple T), .val (.int ci), .val (.bool t), .own false G, .val (.int ii), .val (.int w.1), .val bl]) (s2 := [.val (.tuple ds), .val (.tuple T), .val (.int ci), .val (.bool t), .own false (G.set w.1 bl), .val (.int ii), .val (.int w.1), .val bl]) ?_ ?_ rfl
            · simp [q2, ev_slot, ev_lit, ev_gc, ev_bin, ev_neg, ev_not, ev_and, ev_or, ev_cmp, ev_cmp2, ev_ite, ev_tup, ev_lst, ev_ix, ev_sl, ev_f1, ev_f2, ev_isT, ev_call, ev_callK, evs, evo, evo', evA, callD, argsOf, PArg.arg, ownsOf, putOuts, toB, R.get, R.sto, R.flat, cmpD, ltD, leD, isND, binD, addD, subD, modD, ixD, slD, f1D, f2D, lenD, absD, intD, retR, outsOf, Arg.slot, putP, putPs, evRs, setR, okSet, subR, isOwn, putT, putTs, Lit.d, isTD, isEmp, wipeS, compF, max2D, min2D, dmD, lstD, tupD]
            · simp [ix, bk, st, ev_slot, ev_lit, ev_gc, ev_bin, ev_neg, ev_not, ev_and, ev_or, ev_cmp, ev_cmp2, ev_ite, ev_tup, ev_lst, ev_ix, ev_sl, ev_f1, ev_f2, ev_isT, ev_call, ev_callK, evs, evo, evo', evA, callD, argsOf, PArg.arg, ownsOf, putOuts, toB, R.get, R.sto, R.flat, cmpD, ltD, leD, isND, binD, addD, subD, modD, ixD, slD, f1D, f2D, lenD, absD, intD, retR, outsOf, Arg.slot, putP, putPs, evRs, setR, okSet, subR, isOwn, putT, putTs, Lit.d, isTD, isEmp, wipeS, compF, max2D, min2D, dmD, lstD, tupD]
          · have q2 : ¬ (i : Int) < (c : Int) := by omega
            by_cases q3 : i = c ∧ t = true
            · obtain ⟨rfl, rfl⟩ := q3
              have e1 : runTo ds ws i true (i + 1) = (runTo ds ws i true i).set w.1 .none := by
                unfold runTo
                rw [if_neg (by omega), if_pos (by omega)]
                unfold runF
                rw [hw]
              rw [e1]
              generalize runTo ds ws i true i = G at ix
              generalize tI w.2 = bl
              generalize ws.map wD = T
              generalize (i : Int) = ii at q2
              refine bk_ifE (s1 := [.val (.tuple ds), .val (.tuple T), .val (.int ii), .val (.bool true), .own false G, .val (.int ii), .val (.int w.1), .val bl]) (s2 := [.val (.tuple ds), .val (.tuple T), .val (.int ii), .val (.bool true), .own false (G.set w.1 .none), .val (.int ii), .val (.int w.1), .val bl]) ?_ ?_ rfl
              · simp [q2, ev_slot, ev_lit, ev_gc, ev_bin, ev_neg, ev_not, ev_and, ev_or, ev_cmp, ev_cmp2, ev_ite, ev_tup, ev_lst, ev_ix, ev_sl, ev_f1, ev_f2, ev_isT, ev_call, ev_callK, evs, evo, evo', evA, callD, argsOf, PArg.arg, ownsOf, putOuts, toB, R.get, R.sto, R.flat, cmpD, ltD, leD, isND, binD, addD, subD, modD, ixD, slD, f1D, f2D, lenD, absD, intD, retR, outsOf, Arg.slot, putP, putPs, evRs, setR, okSet, subR, isOwn, putT, putTs, Lit.d, isTD, isEmp, wipeS, compF, max2D, min2D, dmD, lstD, tupD]
              · refine bk_ifT (s1 := [.val (.tuple ds), .val (.tuple T), .val (.int ii), .val (.bool true), .own false G, .val (.int ii), .val (.int w.1), .val bl]) (s2 := [.val (.tuple ds), .val (.tuple T), .val (.int ii), .val (.bool true), .own false (G.set w.1 .none), .val (.int ii), .val (.int w.1), .val bl]) ?_ ?_ rfl
                · simp [eqq_int, ev_slot, ev_lit, ev_gc, ev_bin, ev_neg, ev_not, ev_and, ev_or, ev_cmp, ev_cmp2, ev_ite, ev_tup, ev_lst, ev_ix, ev_sl, ev_f1, ev_f2, ev_isT, ev_call, ev_callK, evs, evo, evo', evA, callD, argsOf, PArg.arg, ownsOf, putOuts, toB, R.get, R.sto, R.flat, cmpD, ltD, leD, isND, binD, addD, subD, modD, ixD, slD, f1D, f2D, lenD, absD, intD, retR, outsOf, Arg.slot, putP, putPs, evRs, setR, okSet, subR, isOwn, putT, putTs, Lit.d, isTD, isEmp, wipeS, compF, max2D, min2D, dmD, lstD, tupD]
                · simp [ix, bk, st, ev_slot, ev_lit, ev_gc, ev_bin, ev_neg, ev_not, ev_and, ev_or, ev_cmp, ev_cmp2, ev_ite, ev_tup, ev_lst, ev_ix, ev_sl, ev_f1, ev_f2, ev_isT, ev_call, ev_callK, evs, evo, evo', evA, callD, argsOf, PArg.arg, ownsOf, putOuts, toB, R.get, R.sto, R.flat, cmpD, ltD, leD, isND, binD, addD, subD, modD, ixD, slD, f1D, f2D, lenD, absD, intD, retR, outsOf, Arg.slot, putP, putPs, evRs, setR, okSet, subR, isOwn, putT, putTs, Lit.d, isTD, isEmp, wipeS, compF, max2D, min2D, dmD, lstD, tupD]
            · have e1 : runTo ds ws c t (i + 1) = runTo ds ws c t i := by
                unfold runTo
                rw [if_neg (by omega)]
                by_cases q4 : i = c
                · subst q4
                  have tf : t = false := by
                    cases t
                    · rfl
                    · exact absurd ⟨rfl, rfl⟩ q3
                  subst tf
                  rw [if_pos (by omega)]
                  rfl
                · rw [if_neg (by omega)]
              rw [e1]
              generalize runTo ds ws c t i = G at ix
              generalize tI w.2 = bl
              generalize ws.map wD = T
              refine bk_ifE (s1 := [.val (.tuple ds), .val (.tuple T), .val (.int c), .val (.bool t), .own false G, .val (.int i), .val (.int w.1), .val bl]) (s2 := [.val (.tuple ds), .val (.tuple T), .val (.int c), .val (.bool t), .own false G, .val (.int i), .val (.int w.1), .val bl]) ?_ (bk_ifF (s1 := [.val (.tuple ds), .val (.tuple T), .val (.int c), .val (.bool t), .own false G, .val (.int i), .val (.int w.1), .val bl]) ?_ rfl) rfl
              · generalize (i : Int) = ii at q2 ⊢
                generalize (c : Int) = ci at q2 ⊢
                simp [q2, ev_slot, ev_lit, ev_gc, ev_bin, ev_neg, ev_not, ev_and, ev_or, ev_cmp, ev_cmp2, ev_ite, ev_tup, ev_lst, ev_ix, ev_sl, ev_f1, ev_f2, ev_isT, ev_call, ev_callK, evs, evo, evo', evA, callD, argsOf, PArg.arg, ownsOf, putOuts, toB, R.get, R.sto, R.flat, cmpD, ltD, leD, isND, binD, addD, subD, modD, ixD, slD, f1D, f2D, lenD, absD, intD, retR, outsOf, Arg.slot, putP, putPs, evRs, setR, okSet, subR, isOwn, putT, putTs, Lit.d, isTD, isEmp, wipeS, compF, max2D, min2D, dmD, lstD, tupD]
              · have ee : (((i : Int) = (c : Int)) ∧ t = true) = False := by
                  apply eq_false
                  rintro ⟨z1, z2⟩
                  exact q3 ⟨by omega, z2⟩
                generalize (i : Int) = ii at ee ⊢
                generalize (c : Int) = ci at ee ⊢
                by_cases z : ii = ci
                · have tf : t = false := by
                    cases t
                    · rfl
                    · simp [z] at ee
                  subst tf
                  simp [z, eqq_int, ev_slot, ev_lit, ev_gc, ev_bin, ev_neg, ev_not, ev_and, ev_or, ev_cmp, ev_cmp2, ev_ite, ev_tup, ev_lst, ev_ix, ev_sl, ev_f1, ev_f2, ev_isT, ev_call, ev_callK, evs, evo, evo', evA, callD, argsOf, PArg.arg, ownsOf, putOuts, toB, R.get, R.sto, R.flat, cmpD, ltD, leD, isND, binD, addD, subD, modD, ixD, slD, f1D, f2D, lenD, absD, intD, retR, outsOf, Arg.slot, putP, putPs, evRs, setR, okSet, subR, isOwn, putT, putTs, Lit.d, isTD, isEmp, wipeS, compF, max2D, min2D, dmD, lstD, tupD]
                · simp [z, eqq_int, ev_slot, ev_lit, ev_gc, ev_bin, ev_neg, ev_not, ev_and, ev_or, ev_cmp, ev_cmp2, ev_ite, ev_tup, ev_lst, ev_ix, ev_sl, ev_f1, ev_f2, ev_isT, ev_call, ev_callK, evs, evo, evo', evA, callD, argsOf, PArg.arg, ownsOf, putOuts, toB, R.get, R.sto, R.flat, cmpD, ltD, leD, isND, binD, addD, subD, modD, ixD, slD, f1D, f2D, lenD, absD, intD, retR, outsOf, Arg.slot, putP, putPs, evRs, setR, okSet, subR, isOwn, putT, putTs, Lit.d, isTD, isEmp, wipeS, compF, max2D, min2D, dmD, lstD, tupD]) 0 [.val (.tuple ds), .val (.tuple (ws.map wD)), .val (.int c), .val (.bool t), .own false ds, .emp, .emp, .emp] (Nat.zero_le _) ⟨.emp, .emp, .emp, by unfold runTo; rw [if_pos (Nat.zero_le _)]; rfl, nofun, nofun, nofun⟩
    have el : (((rgD 0 (ws.map wD).length).zip (ws.map wD)).map fun (p : D × D) => PyData.tuple [p.1, p.2]).length = ws.length := by
      rw [List.length_map, List.length_zip, rgD_len, List.length_map, Nat.min_self]
    have er : runTo ds ws c t ws.length = runF ds ws c t := by
      unfold runTo
      split
      · rename_i q
        rw [List.take_length, runF_ge t q]
      · rfl
    rw [el, er] at ef
    rw [List.drop_zero] at ef
    refine ⟨y5, y6, y7, bk_asg (r := .new ds) (s1 := [.val (.tuple ds), .val (.tuple (ws.map wD)), .val (.int c), .val (.bool t), .emp, .emp, .emp, .emp]) rfl (s2 := [.val (.tuple ds), .val (.tuple (ws.map wD)), .val (.int c), .val (.bool t), .own false ds, .emp, .emp, .emp]) rfl (bk_forN (evI_enumT rfl) ef rfl)⟩
  obtain ⟨z5, z6, z7, e⟩ := key p_law_run
  exact run_ok (Nat.le_of_ble_eq_true rfl) e rfl rfl
/-- every cut of a mending leaves a disk that is mended to the same -/
theorem rep_run {X ms fin : List D} (R : Rep X ms fin) (c : Nat) (t : Bool) : ∃ X' ms', Rep X' ms' fin ∧ X'.length = X.length ∧ m_run_by [.val (.tuple X), .val (.tuple ms), .val (.int c), .val (.bool t)] = some (.val (.tuple X'), []) ∧ m_law_run [.val (.tuple X), .val (.tuple ms), .val (.int c), .val (.bool t)] = some (.val (.tuple X'), []) := by
  have R0 := R
  obtain ⟨h, k, r, tl, rfl, S, e1, e2, rfl⟩ := R
  have rn := run_by_ok (c := c) (t := t) fun w hw => (mend_ok S (isNil h) w hw).1
  have rl := law_run_ok (c := c) (t := t) (fun w hw => (mend_ok S (isNil h) w hw).1) (by have := mend_len (isNil h) S.c; omega)
  suffices hs : ∃ ms', Rep (runF (h :: r) (mendW (isNil h) tl) c t) ms' fin from ⟨_, hs.choose, hs.choose_spec, runF_len _ _ _ _, rn, rl⟩
  rcases S.hk with ⟨rfl, rfl⟩ | ⟨rfl, rfl⟩ | ⟨rfl, h1, h2⟩
  · have := tl_nil S
    subst this
    have ef : fin = .tuple [] :: r := e1.symm
    subst ef
    cases c with
    | zero =>
      have g : runF (.none :: r) (mendW (isNil .none) []) 0 t = .none :: r := by cases t <;> rfl
      rw [g]
      exact rep_quiet S (.inr rfl)
    | succ c =>
      have g : runF (.none :: r) (mendW (isNil .none) []) (c + 1) t = .tuple [] :: r := by
        rw [runF_ge t (by show 1 ≤ c + 1; omega)]
        rfl
      rw [g]
      exact rep_quiet (sound_head S nil_blk (.inl rfl)) (.inl rfl)
  · have := tl_nil S
    subst this
    have ef : fin = .tuple [] :: r := e1.symm
    subst ef
    have g : runF (.tuple [] :: r) (mendW (isNil (.tuple [])) []) c t = .tuple [] :: r := by
      rw [runF_ge t (by show 0 ≤ c; omega)]
      rfl
    rw [g]
    exact rep_quiet S (.inl rfl)
  · have ef : fin = setAll (.tuple [.int (k : Int)] :: r) (tl ++ [(0, [])]) := e1.symm
    rw [ef]
    exact rep_cut S h1 h2 c t
/-- what a mending ends at -/
theorem rep_fin {X ms fin : List D} (R : Rep X ms fin) : ∃ h r r', X = h :: r ∧ fin = .tuple [] :: r' ∧ r'.take 8 = r.take 8 ∧ Sound (.tuple []) 0 r' [] := by
  obtain ⟨h, k, r, tl, rfl, S, e1, e2, rfl⟩ := R
  refine ⟨h, r, ?_⟩
  rcases S.hk with ⟨rfl, rfl⟩ | ⟨rfl, rfl⟩ | ⟨rfl, h1, h2⟩
  · have := tl_nil S
    subst this
    exact ⟨r, rfl, e1.symm, rfl, sound_head S nil_blk (.inl rfl)⟩
  · have := tl_nil S
    subst this
    exact ⟨r, rfl, e1.symm, rfl, S⟩
  · obtain ⟨r', e, t8, S1, _⟩ := told_all S h1 h2
    refine ⟨r', rfl, ?_, t8, S1⟩
    rw [← told_fin S h1 h2 e]
    exact e1.symm
theorem sound_rep {h : D} {k : Nat} {r : List D} {tl : List (Nat × List Int)} (S : Sound h k r tl) : ∃ ms fin, Rep (h :: r) ms fin ∧ contF (h :: r) tl = fin.drop 9 := by
  rcases S.hk with ⟨rfl, rfl⟩ | ⟨rfl, rfl⟩ | ⟨rfl, h1, h2⟩
  · have := tl_nil S
    subst this
    obtain ⟨ms, R⟩ := rep_quiet S (.inr rfl)
    exact ⟨ms, _, R, rfl⟩
  · have := tl_nil S
    subst this
    obtain ⟨ms, R⟩ := rep_quiet S (.inl rfl)
    exact ⟨ms, _, R, rfl⟩
  · have R := rep_told S h1 h2 (X := .tuple [.int (k : Int)] :: r) rfl S.d.k (fun _ _ => rfl) (fun _ _ _ => rfl)
    refine ⟨_, _, R, ?_⟩
    obtain ⟨r', e, _⟩ := told_all S h1 h2
    rw [cont_drop _ fun w hw => (S.p w hw).1, told_fin S h1 h2 e, e]
    rfl
end L23

set_option maxRecDepth 100000
set_option linter.all false
set_option maxHeartbeats 4000000
namespace L23
open Mi PySem
/-! ### the law's own reading -/
theorem laid_loop {Φ : Phi} {z : D} : ∀ (tl : List (Nat × List Int)) (ds : List D) (y : Mi.Slot), (∀ w ∈ tl, 9 ≤ w.1 ∧ w.1 - 9 < ds.length) → (∀ o zs, y ≠ .own o zs) →
    ∃ y', (∀ o zs, y' ≠ .own o zs) ∧ forL (fun d s => putT (.name 2) d s) (fun s => bk Φ (.cons (.asg (.sub 1 (.bin .sub (.ix (.slot 2) (.lit (.int 0))) (.lit (.int 9)))) (.sl (.slot 2) (.some (.lit (.int 1))) .none)) (.nil)) s) (tl.map sD) [.val z, .own false ds, y] = some (.nx, [.val z, .own false (tl.foldl (fun c w => c.set (w.1 - 9) (tI w.2)) ds), y'])
  | [], ds, y, _, hy => ⟨y, hy, rfl⟩
  | w :: tl, ds, y, h, hy => by
    have hw := h w List.mem_cons_self
    obtain ⟨y', h1, e⟩ := laid_loop (Φ := Φ) (z := z) tl (ds.set (w.1 - 9) (tI w.2)) (.val (sD w)) (fun v hv => by rw [List.length_set]; exact h v (List.mem_cons_of_mem _ hv)) nofun
    refine ⟨y', h1, ?_⟩
    have e1 : putT (.name 2) (sD w) [.val z, .own false ds, y] = some [.val z, .own false ds, .val (sD w)] := by
      cases y <;> first | rfl | exact absurd rfl (hy _ _)
    have e2 : bk Φ (.cons (.asg (.sub 1 (.bin .sub (.ix (.slot 2) (.lit (.int 0))) (.lit (.int 9)))) (.sl (.slot 2) (.some (.lit (.int 1))) .none)) (.nil)) [.val z, .own false ds, .val (sD w)] = some (.nx, [.val z, .own false (ds.set (w.1 - 9) (tI w.2)), .val (sD w)]) := by
      have c1 : cutD (PyData.int (w.1 : Int) :: w.2.map .int) (some 1) none = w.2.map .int := cut_at (PyData.int (w.1 : Int) :: w.2.map .int) 1
      have q := L2.atI_nat (xs := PyData.int (w.1 : Int) :: w.2.map .int) (j := 0) (v := .int w.1) rfl
      have q' : L2.atI (PyData.int (w.1 : Int) :: w.2.map .int) 0 = some (.int w.1) := q
      have ix := ixN_nat hw.2
      have ei : ((w.1 - 9 : Nat) : Int) = (w.1 : Int) - 9 := by omega
      rw [ei] at ix
      obtain ⟨j, hj⟩ : ∃ j, w.1 - 9 = j := ⟨_, rfl⟩
      obtain ⟨p, hp⟩ : ∃ p : Int, (w.1 : Int) = p := ⟨_, rfl⟩
      rw [hj, hp] at ix
      rw [hj]
      rw [hp] at c1 q'
      obtain ⟨bl, hbl⟩ : ∃ bl, w.2.map PyData.int = bl := ⟨_, rfl⟩
      have es : sD w = .tuple (.int p :: bl) := by rw [← hp, ← hbl]
      rw [hbl] at c1 q'
      have et : tI w.2 = .tuple bl := by rw [← hbl]
      rw [es, et]
      simp [c1, q', ix, bk, st, ev_slot, ev_lit, ev_gc, ev_bin, ev_neg, ev_not, ev_and, ev_or, ev_cmp, ev_cmp2, ev_ite, ev_tup, ev_lst, ev_ix, ev_sl, ev_f1, ev_f2, ev_isT, ev_call, ev_callK, evs, evo, evo', evA, callD, argsOf, PArg.arg, ownsOf, putOuts, toB, R.get, R.sto, R.flat, cmpD, ltD, leD, isND, binD, addD, subD, modD, ixD, slD, f1D, f2D, lenD, absD, intD, retR, outsOf, Arg.slot, putP, putPs, evRs, setR, okSet, subR, isOwn, putT, putTs, Lit.d, isTD, isEmp, wipeS, compF, max2D, min2D, dmD, lstD, tupD]
    rw [List.map_cons]
    unfold forL
    rw [e1, Option.bind_some, e2, Option.bind_some]
    exact e
section
variable {h : D} {k : Nat} {r : List D} {tl : List (Nat × List Int)}
theorem at_head (h : D) (r : List D) : L2.atI (h :: r) 0 = some h := L2.atI_nat (xs := h :: r) (j := 0) (v := h) rfl
theorem law_laid_ok (S : Sound h k r tl) : m_law_laid [.val (.tuple (h :: r))] = some (.val (.tuple (contF (h :: r) tl)), []) := by
  have hz : (0 : Nat) ≤ sizeLine := Nat.zero_le _
  have a0 := at_head
  have ed : ∀ Z : List D, cutD Z (some 9) none = Z.drop 9 := fun Z => cut_at Z 9
  rcases S.hk with ⟨rfl, rfl⟩ | ⟨rfl, rfl⟩ | ⟨rfl, h1, h2⟩
  · have := tl_nil S
    subst this
    have key : ∀ Φ : Phi, bk Φ b_law_laid [.val (.tuple (.none :: r)), .emp, .emp] = some (.ret (.val (.tuple (contF (.none :: r) []))), [.val (.tuple (.none :: r)), .own false (contF (.none :: r) []), .emp]) := fun Φ => by
      refine bk_asg (r := .new (contF (.none :: r) [])) (s1 := [.val (.tuple (.none :: r)), .emp, .emp]) ?_ (s2 := [.val (.tuple (.none :: r)), .own false (contF (.none :: r) []), .emp]) rfl (bk_ifF (s1 := [.val (.tuple (.none :: r)), .own false (contF (.none :: r) []), .emp]) ?_ rfl)
      · simp [ed, contF, ev_slot, ev_lit, ev_gc, ev_bin, ev_neg, ev_not, ev_and, ev_or, ev_cmp, ev_cmp2, ev_ite, ev_tup, ev_lst, ev_ix, ev_sl, ev_f1, ev_f2, ev_isT, ev_call, ev_callK, evs, evo, evo', evA, callD, argsOf, PArg.arg, ownsOf, putOuts, toB, R.get, R.sto, R.flat, cmpD, ltD, leD, isND, binD, addD, subD, modD, ixD, slD, f1D, f2D, lenD, absD, intD, retR, outsOf, Arg.slot, putP, putPs, evRs, setR, okSet, subR, isOwn, putT, putTs, Lit.d, isTD, isEmp, wipeS, compF, max2D, min2D, dmD, lstD, tupD]
      · simp [a0, isND, ev_slot, ev_lit, ev_gc, ev_bin, ev_neg, ev_not, ev_and, ev_or, ev_cmp, ev_cmp2, ev_ite, ev_tup, ev_lst, ev_ix, ev_sl, ev_f1, ev_f2, ev_isT, ev_call, ev_callK, evs, evo, evo', evA, callD, argsOf, PArg.arg, ownsOf, putOuts, toB, R.get, R.sto, R.flat, cmpD, ltD, leD, isND, binD, addD, subD, modD, ixD, slD, f1D, f2D, lenD, absD, intD, retR, outsOf, Arg.slot, putP, putPs, evRs, setR, okSet, subR, isOwn, putT, putTs, Lit.d, isTD, isEmp, wipeS, compF, max2D, min2D, dmD, lstD, tupD]
    exact run_ok (Nat.le_of_ble_eq_true rfl) (key p_law_laid) rfl rfl
  · have := tl_nil S
    subst this
    have key : ∀ Φ : Phi, bk Φ b_law_laid [.val (.tuple (.tuple [] :: r)), .emp, .emp] = some (.ret (.val (.tuple (contF (.tuple [] :: r) []))), [.val (.tuple (.tuple [] :: r)), .own false (contF (.tuple [] :: r) []), .emp]) := fun Φ => by
      refine bk_asg (r := .new (contF (.tuple [] :: r) [])) (s1 := [.val (.tuple (.tuple [] :: r)), .emp, .emp]) ?_ (s2 := [.val (.tuple (.tuple [] :: r)), .own false (contF (.tuple [] :: r) []), .emp]) rfl (bk_ifF (s1 := [.val (.tuple (.tuple [] :: r)), .own false (contF (.tuple [] :: r) []), .emp]) ?_ rfl)
      · simp [ed, contF, ev_slot, ev_lit, ev_gc, ev_bin, ev_neg, ev_not, ev_and, ev_or, ev_cmp, ev_cmp2, ev_ite, ev_tup, ev_lst, ev_ix, ev_sl, ev_f1, ev_f2, ev_isT, ev_call, ev_callK, evs, evo, evo', evA, callD, argsOf, PArg.arg, ownsOf, putOuts, toB, R.get, R.sto, R.flat, cmpD, ltD, leD, isND, binD, addD, subD, modD, ixD, slD, f1D, f2D, lenD, absD, intD, retR, outsOf, Arg.slot, putP, putPs, evRs, setR, okSet, subR, isOwn, putT, putTs, Lit.d, isTD, isEmp, wipeS, compF, max2D, min2D, dmD, lstD, tupD]
      · simp [a0, eqq_nil, hz, isND, ev_slot, ev_lit, ev_gc, ev_bin, ev_neg, ev_not, ev_and, ev_or, ev_cmp, ev_cmp2, ev_ite, ev_tup, ev_lst, ev_ix, ev_sl, ev_f1, ev_f2, ev_isT, ev_call, ev_callK, evs, evo, evo', evA, callD, argsOf, PArg.arg, ownsOf, putOuts, toB, R.get, R.sto, R.flat, cmpD, ltD, leD, isND, binD, addD, subD, modD, ixD, slD, f1D, f2D, lenD, absD, intD, retR, outsOf, Arg.slot, putP, putPs, evRs, setR, okSet, subR, isOwn, putT, putTs, Lit.d, isTD, isEmp, wipeS, compF, max2D, min2D, dmD, lstD, tupD]
    exact run_ok (Nat.le_of_ble_eq_true rfl) (key p_law_laid) rfl rfl
  · have ct : cutD (PyData.tuple [.int (k : Int)] :: r) (some 1) (some (1 + (k : Int))) = tl.map sD := by
      rw [← S.t]
      exact cut_from (PyData.tuple [.int (k : Int)] :: r) 1 k
    have hp := S.p
    obtain ⟨ki, hki⟩ : ∃ ki : Int, (k : Int) = ki := ⟨_, rfl⟩
    rw [hki] at ct ⊢
    have b0 : L2.atI [PyData.int ki] 0 = some (.int ki) := rfl
    have key : ∀ Φ : Phi, ∃ y, bk Φ b_law_laid [.val (.tuple (.tuple [.int ki] :: r)), .emp, .emp] = some (.ret (.val (.tuple (contF (.tuple [.int ki] :: r) tl))), [.val (.tuple (.tuple [.int ki] :: r)), .own false (contF (.tuple [.int ki] :: r) tl), y]) := fun Φ => by
      obtain ⟨y', h1, ef⟩ := laid_loop (Φ := Φ) (z := .tuple (.tuple [.int ki] :: r)) tl ((PyData.tuple [.int ki] :: r).drop 9) .emp (fun w hw => by have := hp w hw; rw [List.length_drop]; show _ ∧ _ < r.length + 1 - 9; omega) nofun
      refine ⟨y', ?_⟩
      refine bk_asg (r := .new ((PyData.tuple [.int ki] :: r).drop 9)) (s1 := [.val (.tuple (.tuple [.int ki] :: r)), .emp, .emp]) ?_ (s2 := [.val (.tuple (.tuple [.int ki] :: r)), .own false ((PyData.tuple [.int ki] :: r).drop 9), .emp]) rfl ?_
      · simp [ed, ev_slot, ev_lit, ev_gc, ev_bin, ev_neg, ev_not, ev_and, ev_or, ev_cmp, ev_cmp2, ev_ite, ev_tup, ev_lst, ev_ix, ev_sl, ev_f1, ev_f2, ev_isT, ev_call, ev_callK, evs, evo, evo', evA, callD, argsOf, PArg.arg, ownsOf, putOuts, toB, R.get, R.sto, R.flat, cmpD, ltD, leD, isND, binD, addD, subD, modD, ixD, slD, f1D, f2D, lenD, absD, intD, retR, outsOf, Arg.slot, putP, putPs, evRs, setR, okSet, subR, isOwn, putT, putTs, Lit.d, isTD, isEmp, wipeS, compF, max2D, min2D, dmD, lstD, tupD]
      · unfold contF
        generalize (PyData.tuple [.int ki] :: r).drop 9 = G at ef ⊢
        refine bk_if (t := true) (s1 := [.val (.tuple (.tuple [.int ki] :: r)), .own false G, .emp]) ?_ ?_
        · simp [a0, eqq_one, hz, isND, ev_slot, ev_lit, ev_gc, ev_bin, ev_neg, ev_not, ev_and, ev_or, ev_cmp, ev_cmp2, ev_ite, ev_tup, ev_lst, ev_ix, ev_sl, ev_f1, ev_f2, ev_isT, ev_call, ev_callK, evs, evo, evo', evA, callD, argsOf, PArg.arg, ownsOf, putOuts, toB, R.get, R.sto, R.flat, cmpD, ltD, leD, isND, binD, addD, subD, modD, ixD, slD, f1D, f2D, lenD, absD, intD, retR, outsOf, Arg.slot, putP, putPs, evRs, setR, okSet, subR, isOwn, putT, putTs, Lit.d, isTD, isEmp, wipeS, compF, max2D, min2D, dmD, lstD, tupD]
        · rw [if_pos rfl]
          have eI : evI Φ (.seq (.sl (.slot 0) (.some (.lit (.int 1))) (.some (.bin .add (.lit (.int 1)) (.ix (.ix (.slot 0) (.lit (.int 0))) (.lit (.int 0))))))) [.val (.tuple (.tuple [.int ki] :: r)), .own false G, .emp] = some (tl.map sD, [.val (.tuple (.tuple [.int ki] :: r)), .own false G, .emp]) := by
            refine evI_seq ?_
            simp [a0, b0, ct, ev_slot, ev_lit, ev_gc, ev_bin, ev_neg, ev_not, ev_and, ev_or, ev_cmp, ev_cmp2, ev_ite, ev_tup, ev_lst, ev_ix, ev_sl, ev_f1, ev_f2, ev_isT, ev_call, ev_callK, evs, evo, evo', evA, callD, argsOf, PArg.arg, ownsOf, putOuts, toB, R.get, R.sto, R.flat, cmpD, ltD, leD, isND, binD, addD, subD, modD, ixD, slD, f1D, f2D, lenD, absD, intD, retR, outsOf, Arg.slot, putP, putPs, evRs, setR, okSet, subR, isOwn, putT, putTs, Lit.d, isTD, isEmp, wipeS, compF, max2D, min2D, dmD, lstD, tupD]
          have st1 : bk Φ (.cons (.for_ (.name 2) (.seq (.sl (.slot 0) (.some (.lit (.int 1))) (.some (.bin .add (.lit (.int 1)) (.ix (.ix (.slot 0) (.lit (.int 0))) (.lit (.int 0))))))) (.cons (.asg (.sub 1 (.bin .sub (.ix (.slot 2) (.lit (.int 0))) (.lit (.int 9)))) (.sl (.slot 2) (.some (.lit (.int 1))) .none)) (.nil))) (.nil)) [.val (.tuple (.tuple [.int ki] :: r)), .own false G, .emp] = some (.nx, [.val (.tuple (.tuple [.int ki] :: r)), .own false (tl.foldl (fun c w => c.set (w.1 - 9) (tI w.2)) G), y']) := bk_for eI ef rfl
          rw [st1]
          rfl
    obtain ⟨y, key⟩ := key p_law_laid
    exact run_ok (Nat.le_of_ble_eq_true rfl) key rfl rfl
theorem law_mending_ok (S : Sound h k r tl) : m_law_mending [.val (.tuple (h :: r))] = some (.val (.tuple ((mendW (isNil h) tl).map wD)), []) := by
  have hz : (0 : Nat) ≤ sizeLine := Nat.zero_le _
  have hz2 : (2 : Nat) ≤ sizeLine := sl_le (by decide)
  have hz1 : (1 : Nat) ≤ sizeLine := sl_le (by decide)
  have a0 := at_head
  rcases S.hk with ⟨rfl, rfl⟩ | ⟨rfl, rfl⟩ | ⟨rfl, h1, h2⟩
  · have := tl_nil S
    subst this
    have key : ∀ Φ : Phi, bk Φ b_law_mending [.val (.tuple (.none :: r)), .emp] = some (.ret (.val (.tuple [.tuple [.int 0, .tuple []]])), [.val (.tuple (.none :: r)), .emp]) := fun Φ => by
      simp [b_law_mending, a0, hz, hz1, hz2, isND, bk, st, ev_slot, ev_lit, ev_gc, ev_bin, ev_neg, ev_not, ev_and, ev_or, ev_cmp, ev_cmp2, ev_ite, ev_tup, ev_lst, ev_ix, ev_sl, ev_f1, ev_f2, ev_isT, ev_call, ev_callK, evs, evo, evo', evA, callD, argsOf, PArg.arg, ownsOf, putOuts, toB, R.get, R.sto, R.flat, cmpD, ltD, leD, isND, binD, addD, subD, modD, ixD, slD, f1D, f2D, lenD, absD, intD, retR, outsOf, Arg.slot, putP, putPs, evRs, setR, okSet, subR, isOwn, putT, putTs, Lit.d, isTD, isEmp, wipeS, compF, max2D, min2D, dmD, lstD, tupD]
    exact run_ok (Nat.le_of_ble_eq_true rfl) (key p_law_mending) rfl rfl
  · have := tl_nil S
    subst this
    have key : ∀ Φ : Phi, bk Φ b_law_mending [.val (.tuple (.tuple [] :: r)), .emp] = some (.ret (.val (.tuple [])), [.val (.tuple (.tuple [] :: r)), .emp]) := fun Φ => by
      simp [b_law_mending, a0, eqq_nil, hz, hz1, hz2, isND, bk, st, ev_slot, ev_lit, ev_gc, ev_bin, ev_neg, ev_not, ev_and, ev_or, ev_cmp, ev_cmp2, ev_ite, ev_tup, ev_lst, ev_ix, ev_sl, ev_f1, ev_f2, ev_isT, ev_call, ev_callK, evs, evo, evo', evA, callD, argsOf, PArg.arg, ownsOf, putOuts, toB, R.get, R.sto, R.flat, cmpD, ltD, leD, isND, binD, addD, subD, modD, ixD, slD, f1D, f2D, lenD, absD, intD, retR, outsOf, Arg.slot, putP, putPs, evRs, setR, okSet, subR, isOwn, putT, putTs, Lit.d, isTD, isEmp, wipeS, compF, max2D, min2D, dmD, lstD, tupD]
    exact run_ok (Nat.le_of_ble_eq_true rfl) (key p_law_mending) rfl rfl
  · have ct : cutD (PyData.tuple [.int (k : Int)] :: r) (some 1) (some (1 + (k : Int))) = tl.map sD := by
      rw [← S.t]
      exact cut_from (PyData.tuple [.int (k : Int)] :: r) 1 k
    have tc := S.c
    obtain ⟨ki, hki⟩ : ∃ ki : Int, (k : Int) = ki := ⟨_, rfl⟩
    rw [hki] at ct ⊢
    have b0 : L2.atI [PyData.int ki] 0 = some (.int ki) := rfl
    have hq : mendW (isNil (.tuple [.int ki])) tl = mendW false tl := rfl
    rw [hq]
    have key : ∀ Φ : Phi, bk Φ b_law_mending [.val (.tuple (.tuple [.int ki] :: r)), .emp] = some (.ret (.val (.tuple ((mendW false tl).map wD))), [.val (.tuple (.tuple [.int ki] :: r)), .emp]) := fun Φ => by
      refine bk_ifF (s1 := [.val (.tuple (.tuple [.int ki] :: r)), .emp]) ?_ (bk_ifF (s1 := [.val (.tuple (.tuple [.int ki] :: r)), .emp]) ?_ (bk_ret (r := .val (.tuple ((mendW false tl).map wD))) ?_ rfl))
      · simp [a0, isND, ev_slot, ev_lit, ev_gc, ev_bin, ev_neg, ev_not, ev_and, ev_or, ev_cmp, ev_cmp2, ev_ite, ev_tup, ev_lst, ev_ix, ev_sl, ev_f1, ev_f2, ev_isT, ev_call, ev_callK, evs, evo, evo', evA, callD, argsOf, PArg.arg, ownsOf, putOuts, toB, R.get, R.sto, R.flat, cmpD, ltD, leD, isND, binD, addD, subD, modD, ixD, slD, f1D, f2D, lenD, absD, intD, retR, outsOf, Arg.slot, putP, putPs, evRs, setR, okSet, subR, isOwn, putT, putTs, Lit.d, isTD, isEmp, wipeS, compF, max2D, min2D, dmD, lstD, tupD]
      · simp [a0, eqq_one, hz, ev_slot, ev_lit, ev_gc, ev_bin, ev_neg, ev_not, ev_and, ev_or, ev_cmp, ev_cmp2, ev_ite, ev_tup, ev_lst, ev_ix, ev_sl, ev_f1, ev_f2, ev_isT, ev_call, ev_callK, evs, evo, evo', evA, callD, argsOf, PArg.arg, ownsOf, putOuts, toB, R.get, R.sto, R.flat, cmpD, ltD, leD, isND, binD, addD, subD, modD, ixD, slD, f1D, f2D, lenD, absD, intD, retR, outsOf, Arg.slot, putP, putPs, evRs, setR, okSet, subR, isOwn, putT, putTs, Lit.d, isTD, isEmp, wipeS, compF, max2D, min2D, dmD, lstD, tupD]
      · have eI : evI Φ (.seq (.sl (.slot 0) (.some (.lit (.int 1))) (.some (.bin .add (.lit (.int 1)) (.ix (.ix (.slot 0) (.lit (.int 0))) (.lit (.int 0))))))) [.val (.tuple (.tuple [.int ki] :: r)), .emp] = some (tl.map sD, [.val (.tuple (.tuple [.int ki] :: r)), .emp]) := by
          refine evI_seq ?_
          simp [a0, b0, ct, ev_slot, ev_lit, ev_gc, ev_bin, ev_neg, ev_not, ev_and, ev_or, ev_cmp, ev_cmp2, ev_ite, ev_tup, ev_lst, ev_ix, ev_sl, ev_f1, ev_f2, ev_isT, ev_call, ev_callK, evs, evo, evo', evA, callD, argsOf, PArg.arg, ownsOf, putOuts, toB, R.get, R.sto, R.flat, cmpD, ltD, leD, isND, binD, addD, subD, modD, ixD, slD, f1D, f2D, lenD, absD, intD, retR, outsOf, Arg.slot, putP, putPs, evRs, setR, okSet, subR, isOwn, putT, putTs, Lit.d, isTD, isEmp, wipeS, compF, max2D, min2D, dmD, lstD, tupD]
        have c := ev_comp (Φ := Φ) (own := [("_law_slot", 1)]) (tg := .name 1) (co := .none) (e := .tup (.cons (.ix (.slot 1) (.lit (.int 0))) (.cons (.sl (.slot 1) (.some (.lit (.int 1))) .none) (.nil)))) (s := [.val (.tuple (.tuple [.int ki] :: r)), .emp]) sW eI rfl (fun d hd => by
          obtain ⟨w, hw, rfl⟩ := List.mem_map.mp hd
          obtain ⟨bl, hbl⟩ : ∃ bl, sD w = .tuple (.int (w.1 : Int) :: bl) := ⟨_, rfl⟩
          rw [hbl]
          refine ⟨[.val (.tuple (.tuple [.int ki] :: r)), .val (.tuple (.int (w.1 : Int) :: bl))], ?_, rfl⟩
          have q' : L2.atI (PyData.int w.1 :: bl) 0 = some (.int w.1) := L2.atI_nat (xs := PyData.int w.1 :: bl) (j := 0) (v := .int w.1) rfl
          have c1 : cutD (PyData.int (w.1 : Int) :: bl) (some 1) none = bl := cut_at (PyData.int (w.1 : Int) :: bl) 1
          simp [q', c1, hz2, sW, ev_slot, ev_lit, ev_gc, ev_bin, ev_neg, ev_not, ev_and, ev_or, ev_cmp, ev_cmp2, ev_ite, ev_tup, ev_lst, ev_ix, ev_sl, ev_f1, ev_f2, ev_isT, ev_call, ev_callK, evs, evo, evo', evA, callD, argsOf, PArg.arg, ownsOf, putOuts, toB, R.get, R.sto, R.flat, cmpD, ltD, leD, isND, binD, addD, subD, modD, ixD, slD, f1D, f2D, lenD, absD, intD, retR, outsOf, Arg.slot, putP, putPs, evRs, setR, okSet, subR, isOwn, putT, putTs, Lit.d, isTD, isEmp, wipeS, compF, max2D, min2D, dmD, lstD, tupD]) (by rw [List.length_map]; exact sl_le (by omega))
        rw [sW_map] at c
        have c2 : ev Φ (.f1 .tuple (.comp [("_law_slot", 1)] (.name 1) (.seq (.sl (.slot 0) (.some (.lit (.int 1))) (.some (.bin .add (.lit (.int 1)) (.ix (.ix (.slot 0) (.lit (.int 0))) (.lit (.int 0))))))) .none (.tup (.cons (.ix (.slot 1) (.lit (.int 0))) (.cons (.sl (.slot 1) (.some (.lit (.int 1))) .none) (.nil)))))) [.val (.tuple (.tuple [.int ki] :: r)), .emp] = some (.val (.tuple (tl.map wD)), [.val (.tuple (.tuple [.int ki] :: r)), .emp]) := by
          rw [ev_f1, c]
          rfl
        have c3 : ev Φ (.tup (.cons (.tup (.cons (.lit (.int 0)) (.cons (.tup .nil) (.nil)))) (.nil))) [.val (.tuple (.tuple [.int ki] :: r)), .emp] = some (.val (.tuple [wD (0, [])]), [.val (.tuple (.tuple [.int ki] :: r)), .emp]) := by
          simp [hz, hz1, hz2, ev_slot, ev_lit, ev_gc, ev_bin, ev_neg, ev_not, ev_and, ev_or, ev_cmp, ev_cmp2, ev_ite, ev_tup, ev_lst, ev_ix, ev_sl, ev_f1, ev_f2, ev_isT, ev_call, ev_callK, evs, evo, evo', evA, callD, argsOf, PArg.arg, ownsOf, putOuts, toB, R.get, R.sto, R.flat, cmpD, ltD, leD, isND, binD, addD, subD, modD, ixD, slD, f1D, f2D, lenD, absD, intD, retR, outsOf, Arg.slot, putP, putPs, evRs, setR, okSet, subR, isOwn, putT, putTs, Lit.d, isTD, isEmp, wipeS, compF, max2D, min2D, dmD, lstD, tupD]
        have ad : binD .add (.tuple (tl.map wD)) (.tuple [wD (0, [])]) = some (.val (.tuple ((mendW false tl).map wD))) := by
          show addD (.tuple (tl.map wD)) (.tuple [wD (0, [])]) = _
          rw [add_tup (by rw [List.length_map]; show tl.length + 1 ≤ 2000; omega)]
          simp [mendW]
        rw [ev_bin, c2, Option.bind_some]
        simp only [c3, Option.bind_some, R.get, ad, Option.map_some]
    exact run_ok (Nat.le_of_ble_eq_true rfl) (key p_law_mending) rfl rfl
end
end L23

set_option maxRecDepth 100000
set_option linter.all false
set_option maxHeartbeats 4000000
namespace L23
open Mi PySem
theorem evI_enumL {Φ : Phi} {a : E} {s s1 : Sl} {ds : List D} (h : ev Φ a s = some (.val (.list ds), s1)) : evI Φ (.enum a) s = some (((rgD 0 ds.length).zip ds).map fun (p : D × D) => .tuple [p.1, p.2], s1) := by
  show (ev Φ a s).bind _ = _
  rw [h]
  rfl
/-- the loop that fills slots and tears places -/
structure Fil (n N : Nat) (qs : List Nat) (i : Nat) (X : List D) (tl : List (Nat × List Int)) : Prop where
  a : X.length = n
  b : X[0]? = some (.tuple [.int (N : Int)])
  c : ∀ d ∈ X, Blk d
  d : tl.map (·.1) = qs.take i
  e : ∀ j, j < i → X[j + 1]? = (tl[j]?).map sD
  f : ∀ j, 9 ≤ j → X[j]? = some .none → j ∈ qs.take i
theorem fil_step {n N : Nat} {qs : List Nat} {i : Nat} {X : List D} {tl : List (Nat × List Int)} (F : Fil n N qs i X tl) (hq : qs.length = N) (hN : N ≤ 8) (hn : 9 < n) (hi : i < qs.length) (h9 : ∀ p ∈ qs, 9 ≤ p ∧ p < n) (hn70 : n ≤ 70) {xs : List Int} (ho : OkI 89 xs) :
    Fil n N qs (i + 1) (X.set (i + 1) (sD (qs[i], xs))) (tl ++ [(qs[i], xs)]) ∧ Fil n N qs (i + 1) ((X.set (i + 1) (sD (qs[i], xs))).set qs[i] .none) (tl ++ [(qs[i], xs)]) := by
  have hqi := h9 qs[i] (List.getElem_mem hi)
  have tll : tl.length = i := by
    have := congrArg List.length F.d
    rw [List.length_map, List.length_take] at this
    omega
  have sb : Blk (sD (qs[i], xs)) := by
    refine .inr ⟨(qs[i] : Int) :: xs, rfl, fun x hx => ?_, ?_⟩
    · rcases List.mem_cons.mp hx with rfl | z
      · have : (100 : Int) < big := by decide
        show 0 ≤ ((qs[i] : Nat) : Int) ∧ ((qs[i] : Nat) : Int) < big
        omega
      · exact ho.1 x z
    · have := ho.2
      rw [List.length_cons]
      omega
  have tk : qs.take (i + 1) = qs.take i ++ [qs[i]] := (List.take_append_getElem hi).symm
  have F1 : Fil n N qs (i + 1) (X.set (i + 1) (sD (qs[i], xs))) (tl ++ [(qs[i], xs)]) := by
    refine ⟨by rw [List.length_set]; exact F.a, by rw [List.getElem?_set_ne (by omega)]; exact F.b, fun d hd => ?_, by rw [List.map_append, F.d, tk]; rfl, fun j hj => ?_, fun j hj e => ?_⟩
    · rcases List.mem_or_eq_of_mem_set hd with z | z
      · exact F.c d z
      · rw [z]
        exact sb
    · by_cases q : j = i
      · subst q
        rw [List.getElem?_set_self (by rw [F.a]; omega), List.getElem?_append_right (by omega), tll, Nat.sub_self]
        rfl
      · rw [List.getElem?_set_ne (by omega), F.e j (by omega), List.getElem?_append_left (by omega)]
    · rw [List.getElem?_set_ne (by omega)] at e
      rw [tk]
      exact List.mem_append_left _ (F.f j hj e)
  refine ⟨F1, ⟨by rw [List.length_set]; exact F1.a, by rw [List.getElem?_set_ne (by omega)]; exact F1.b, fun d hd => ?_, F1.d, fun j hj => by rw [List.getElem?_set_ne (by omega)]; exact F1.e j hj, fun j hj e => ?_⟩⟩
  · rcases List.mem_or_eq_of_mem_set hd with z | z
    · exact F1.c d z
    · exact .inl z
  · by_cases q : qs[i] = j
    · rw [tk]
      exact List.mem_append_right _ (List.mem_singleton.mpr q.symm)
    · rw [List.getElem?_set_ne q] at e
      exact F1.f j hj e
theorem fil_end {n N : Nat} {qs : List Nat} {X : List D} {tl : List (Nat × List Int)} (F : Fil n N qs qs.length X tl) (hq : qs.length = N) (h1 : 1 ≤ N) (hN : N ≤ 8) (hn : 11 ≤ n) (hn70 : n ≤ 70) (h9 : ∀ p ∈ qs, 9 ≤ p ∧ p < n) (hu : qs.Nodup) : ∃ r, X = .tuple [.int (N : Int)] :: r ∧ Sound (.tuple [.int (N : Int)]) N r tl := by
  have hd := F.d
  rw [List.take_length] at hd
  have tll : tl.length = N := by rw [← hq, ← hd, List.length_map]
  cases hX : X with
  | nil =>
    have := F.a
    rw [hX] at this
    simp at this
    omega
  | cons x r =>
    have h0 := F.b
    have hl := F.a
    rw [hX] at h0 hl
    have hx : x = .tuple [.int (N : Int)] := Option.some.inj h0
    subst hx
    have hl' : r.length + 1 = n := hl
    refine ⟨r, rfl, ⟨⟨by omega, by omega, by rw [← hX]; exact F.c⟩, .inr (.inr ⟨rfl, h1, hN⟩), ?_, by rw [hd]; exact hu, fun w hw => ?_, fun i hi e => ?_, by omega⟩⟩
    · apply List.ext_getElem?
      intro j
      by_cases q : j < N
      · have := F.e j (by omega)
        rw [hX, List.getElem?_cons_succ] at this
        rw [List.getElem?_take_of_lt q, this, List.getElem?_map]
      · rw [List.getElem?_eq_none (by rw [List.length_take]; omega), List.getElem?_eq_none (by rw [List.length_map]; omega)]
    · have := h9 w.1 (by rw [← hd]; exact List.mem_map.mpr ⟨w, hw, rfl⟩)
      omega
    · rw [← hX] at e
      have := F.f i hi e
      rw [List.take_length, ← hd] at this
      obtain ⟨w, hw, h⟩ := List.mem_map.mp this
      exact ⟨w, hw, h⟩
theorem fil_start {n N : Nat} {qs : List Nat} {fs gs : List D} (h8 : fs.length = 8) (hf : ∀ d ∈ fs, Blk d) (hg : ∀ d ∈ gs, NB d) (hN : N ≤ 8) (hn : (fs ++ gs).length + 1 = n) : Fil n N qs 0 (.tuple [.int (N : Int)] :: (fs ++ gs)) [] := by
  refine ⟨hn, rfl, fun d hd => ?_, rfl, nofun, fun j hj e => ?_⟩
  · rcases List.mem_cons.mp hd with rfl | hd
    · refine .inr ⟨[(N : Int)], rfl, fun x hx => ?_, by show 1 ≤ 90; decide⟩
      rw [List.mem_singleton.mp hx]
      have : (100 : Int) < big := by decide
      omega
    · rcases List.mem_append.mp hd with z | z
      · exact hf d z
      · exact (hg d z).blk
  · obtain ⟨i, rfl⟩ : ∃ i, j = i + 1 := ⟨j - 1, by omega⟩
    rw [List.getElem?_cons_succ, List.getElem?_append_right (by omega)] at e
    exact absurd rfl (hg _ (List.mem_of_getElem? e)).ne
end L23

set_option maxRecDepth 100000
set_option linter.all false
set_option maxHeartbeats 4000000
namespace L23
open Mi PySem
theorem law_sound_bk {Φ : Phi} (f0 : Φ.fn 0 = m_law_quiet) (f1 : Φ.fn 1 = m_law_draw) (f2 : Φ.fn 2 = m_law_unlike) (f3 : Φ.fn 3 = m_law_numbers) (a b c : Int) {most : Int} (m0 : 2 ≤ most) (m1 : most ≤ 50) : ∃ (a' b' c' : Int) (h : D) (k : Nat) (r : List D) (tl : List (Nat × List Int)) (rest : List Mi.Slot), Sound h k r tl ∧ bk Φ b_law_sound [.own true (W a b c), .val (.int most), .emp, .emp, .emp, .emp, .emp] = some (.ret (.val (.tuple (h :: r))), .own true (W a' b' c') :: .val (.int most) :: rest) := by
  have hz0 : (0 : Nat) ≤ sizeLine := Nat.zero_le _
  have hz1 : (1 : Nat) ≤ sizeLine := sl_le (by decide)
  have hz2 : (2 : Nat) ≤ sizeLine := sl_le (by decide)
  obtain ⟨a1, b1, c1, fs, gs, h8, hf, g2, g61, hg, e1⟩ := quiet_ok a b c m0 m1
  obtain ⟨a2, b2, c2, w, w0, w4, e2⟩ := draw_ok a1 b1 c1 (n := 4) (by decide) (by decide)
  have Sq : Sound (.tuple []) 0 (fs ++ gs) [] := quiet_sound h8 hf g2 g61 hg
  obtain ⟨n, hn⟩ : ∃ n, (fs ++ gs).length + 1 = n := ⟨_, rfl⟩
  have hn2 : fs.length + gs.length + 1 = n := by rw [← hn, List.length_append]
  have head : ∀ (o : Option (Fl × Sl)), (bk Φ (.cons (.ife (.cmp .eq (.slot 3) (.lit (.int 1))) (.cons (.asg (.sub 2 (.lit (.int 0))) (.lit .none)) (.nil)) (.nil)) (.cons (.ife (.cmp .gt (.slot 3) (.lit (.int 1))) (.cons (.asg (.name 4) (.rng false (.some (.lit (.int 9))) (.f1 .len (.slot 2)))) (.frz 4 (.cons (.asg (.name 4) (.call 2 (.m 0 (.v (.slot 4) (.v (.bin .add (.lit (.int 1)) (.call 1 (.m 0 (.v (.f2 .min (.lit (.int 8)) (.f1 .len (.slot 4))) (.nil))))) (.nil)))))) (.cons (.asg (.sub 2 (.lit (.int 0))) (.tup (.cons (.f1 .len (.slot 4)) (.nil)))) (.frz 4 (.cons (.for_ (.tup (.cons (.name 5) (.cons (.name 6) (.nil)))) (.enum (.slot 4)) (.cons (.asg (.sub 2 (.bin .add (.slot 5) (.lit (.int 1)))) (.bin .add (.tup (.cons (.slot 6) (.nil))) (.call 3 (.m 0 (.v (.lit (.int 89)) (.nil)))))) (.cons (.ife (.cmp .eq (.call 1 (.m 0 (.v (.lit (.int 2)) (.nil)))) (.lit (.int 0))) (.cons (.asg (.sub 2 (.slot 6)) (.lit .none)) (.nil)) (.nil)) (.nil)))) (.nil))))))) (.nil)) (.cons (.ret (.f1 .tuple (.slot 2))) (.nil)))) [.own true (W a2 b2 c2), .val (.int most), .own false (.tuple [] :: (fs ++ gs)), .val (.int w), .emp, .emp, .emp] = o) → bk Φ b_law_sound [.own true (W a b c), .val (.int most), .emp, .emp, .emp, .emp, .emp] = o := fun o ho => by
    generalize PyData.tuple [] :: (fs ++ gs) = Z at e1 ho
    refine bk_par (rs := [.new Z, .val (.int w)]) (s1 := [.own true (W a2 b2 c2), .val (.int most), .emp, .emp, .emp, .emp, .emp]) hz2 ?_ (s2 := [.own true (W a2 b2 c2), .val (.int most), .own false Z, .val (.int w), .emp, .emp, .emp]) rfl ho
    simp [f0, f1, e1, e2, ev_slot, ev_lit, ev_gc, ev_bin, ev_neg, ev_not, ev_and, ev_or, ev_cmp, ev_cmp2, ev_ite, ev_tup, ev_lst, ev_ix, ev_sl, ev_f1, ev_f2, ev_isT, ev_call, ev_callK, evs, evo, evo', evA, callD, argsOf, PArg.arg, ownsOf, putOuts, toB, R.get, R.sto, R.flat, cmpD, ltD, leD, isND, binD, addD, subD, modD, ixD, slD, f1D, f2D, lenD, absD, intD, retR, outsOf, Arg.slot, putP, putPs, evRs, setR, okSet, subR, isOwn, putT, putTs, Lit.d, isTD, isEmp, wipeS, compF, max2D, min2D, dmD, lstD, tupD]
  by_cases w1 : w = 1
  · subst w1
    refine ⟨a2, b2, c2, .none, 0, fs ++ gs, [], [.own false (.none :: (fs ++ gs)), .val (.int 1), .emp, .emp, .emp], sound_head Sq (.inl rfl) (.inr rfl), head _ ?_⟩
    clear head
    refine bk_ifT (s1 := [.own true (W a2 b2 c2), .val (.int most), .own false (.tuple [] :: (fs ++ gs)), .val (.int 1), .emp, .emp, .emp]) (s2 := [.own true (W a2 b2 c2), .val (.int most), .own false (.none :: (fs ++ gs)), .val (.int 1), .emp, .emp, .emp]) ?_ ?_ (bk_ifF (s1 := [.own true (W a2 b2 c2), .val (.int most), .own false (.none :: (fs ++ gs)), .val (.int 1), .emp, .emp, .emp]) ?_ rfl)
    · simp [eqq_int, ev_slot, ev_lit, ev_gc, ev_bin, ev_neg, ev_not, ev_and, ev_or, ev_cmp, ev_cmp2, ev_ite, ev_tup, ev_lst, ev_ix, ev_sl, ev_f1, ev_f2, ev_isT, ev_call, ev_callK, evs, evo, evo', evA, callD, argsOf, PArg.arg, ownsOf, putOuts, toB, R.get, R.sto, R.flat, cmpD, ltD, leD, isND, binD, addD, subD, modD, ixD, slD, f1D, f2D, lenD, absD, intD, retR, outsOf, Arg.slot, putP, putPs, evRs, setR, okSet, subR, isOwn, putT, putTs, Lit.d, isTD, isEmp, wipeS, compF, max2D, min2D, dmD, lstD, tupD]
    · have ix := ixN_nat (n := (PyData.tuple [] :: (fs ++ gs)).length) (i := 0) (by simp)
      have ix' : L2.ixN (PyData.tuple [] :: (fs ++ gs)).length 0 = some 0 := ix
      refine bk_asg (r := .val .none) (s1 := [.own true (W a2 b2 c2), .val (.int most), .own false (.tuple [] :: (fs ++ gs)), .val (.int 1), .emp, .emp, .emp]) rfl (s2 := [.own true (W a2 b2 c2), .val (.int most), .own false (.none :: (fs ++ gs)), .val (.int 1), .emp, .emp, .emp]) ?_ rfl
      have es : PyData.none :: (fs ++ gs) = (PyData.tuple [] :: (fs ++ gs)).set 0 .none := rfl
      rw [es]
      generalize PyData.tuple [] :: (fs ++ gs) = Z at ix'
      simp [ix', ev_slot, ev_lit, ev_gc, ev_bin, ev_neg, ev_not, ev_and, ev_or, ev_cmp, ev_cmp2, ev_ite, ev_tup, ev_lst, ev_ix, ev_sl, ev_f1, ev_f2, ev_isT, ev_call, ev_callK, evs, evo, evo', evA, callD, argsOf, PArg.arg, ownsOf, putOuts, toB, R.get, R.sto, R.flat, cmpD, ltD, leD, isND, binD, addD, subD, modD, ixD, slD, f1D, f2D, lenD, absD, intD, retR, outsOf, Arg.slot, putP, putPs, evRs, setR, okSet, subR, isOwn, putT, putTs, Lit.d, isTD, isEmp, wipeS, compF, max2D, min2D, dmD, lstD, tupD]
    · simp [ev_slot, ev_lit, ev_gc, ev_bin, ev_neg, ev_not, ev_and, ev_or, ev_cmp, ev_cmp2, ev_ite, ev_tup, ev_lst, ev_ix, ev_sl, ev_f1, ev_f2, ev_isT, ev_call, ev_callK, evs, evo, evo', evA, callD, argsOf, PArg.arg, ownsOf, putOuts, toB, R.get, R.sto, R.flat, cmpD, ltD, leD, isND, binD, addD, subD, modD, ixD, slD, f1D, f2D, lenD, absD, intD, retR, outsOf, Arg.slot, putP, putPs, evRs, setR, okSet, subR, isOwn, putT, putTs, Lit.d, isTD, isEmp, wipeS, compF, max2D, min2D, dmD, lstD, tupD]
  · by_cases w2 : w = 0
    · subst w2
      refine ⟨a2, b2, c2, .tuple [], 0, fs ++ gs, [], [.own false (.tuple [] :: (fs ++ gs)), .val (.int 0), .emp, .emp, .emp], Sq, head _ ?_⟩
      clear head
      refine bk_ifF (s1 := [.own true (W a2 b2 c2), .val (.int most), .own false (.tuple [] :: (fs ++ gs)), .val (.int 0), .emp, .emp, .emp]) ?_ (bk_ifF (s1 := [.own true (W a2 b2 c2), .val (.int most), .own false (.tuple [] :: (fs ++ gs)), .val (.int 0), .emp, .emp, .emp]) ?_ rfl)
      · simp [eqq_int, ev_slot, ev_lit, ev_gc, ev_bin, ev_neg, ev_not, ev_and, ev_or, ev_cmp, ev_cmp2, ev_ite, ev_tup, ev_lst, ev_ix, ev_sl, ev_f1, ev_f2, ev_isT, ev_call, ev_callK, evs, evo, evo', evA, callD, argsOf, PArg.arg, ownsOf, putOuts, toB, R.get, R.sto, R.flat, cmpD, ltD, leD, isND, binD, addD, subD, modD, ixD, slD, f1D, f2D, lenD, absD, intD, retR, outsOf, Arg.slot, putP, putPs, evRs, setR, okSet, subR, isOwn, putT, putTs, Lit.d, isTD, isEmp, wipeS, compF, max2D, min2D, dmD, lstD, tupD]
      · simp [ev_slot, ev_lit, ev_gc, ev_bin, ev_neg, ev_not, ev_and, ev_or, ev_cmp, ev_cmp2, ev_ite, ev_tup, ev_lst, ev_ix, ev_sl, ev_f1, ev_f2, ev_isT, ev_call, ev_callK, evs, evo, evo', evA, callD, argsOf, PArg.arg, ownsOf, putOuts, toB, R.get, R.sto, R.flat, cmpD, ltD, leD, isND, binD, addD, subD, modD, ixD, slD, f1D, f2D, lenD, absD, intD, retR, outsOf, Arg.slot, putP, putPs, evRs, setR, okSet, subR, isOwn, putT, putTs, Lit.d, isTD, isEmp, wipeS, compF, max2D, min2D, dmD, lstD, tupD]
    · have wgt : 1 < w := by omega
      have pl := spots_len n
      have pm := fun p => spots_mem (n := n) (p := p)
      have pn := spots_nodup n
      have pr := spots_rg (n := n)
      generalize spotsN n = ps at pl pm pn pr
      obtain ⟨P, hP⟩ : ∃ P, ps.map nI = P := ⟨_, rfl⟩
      have hPl : P.length = n - 9 := by rw [← hP, List.length_map, pl]
      have mn : ∃ mm : Int, 1 ≤ mm ∧ mm ≤ 8 ∧ mm ≤ P.length ∧ ∀ (Φ : Phi) (s : Sl), s[4]? = some (.val (.list P)) → ev Φ (.f2 .min (.lit (.int 8)) (.f1 .len (.slot 4))) s = some (.val (.int mm), s) := by
        by_cases z : (P.length : Int) < 8
        · exact ⟨P.length, by omega, by omega, by omega, fun Φ s hs => by simp [hs, z, ev_slot, ev_lit, ev_gc, ev_bin, ev_neg, ev_not, ev_and, ev_or, ev_cmp, ev_cmp2, ev_ite, ev_tup, ev_lst, ev_ix, ev_sl, ev_f1, ev_f2, ev_isT, ev_call, ev_callK, evs, evo, evo', evA, callD, argsOf, PArg.arg, ownsOf, putOuts, toB, R.get, R.sto, R.flat, cmpD, ltD, leD, isND, binD, addD, subD, modD, ixD, slD, f1D, f2D, lenD, absD, intD, retR, outsOf, Arg.slot, putP, putPs, evRs, setR, okSet, subR, isOwn, putT, putTs, Lit.d, isTD, isEmp, wipeS, compF, max2D, min2D, dmD, lstD, tupD]⟩
        · exact ⟨8, by omega, by omega, by omega, fun Φ s hs => by simp [hs, z, ev_slot, ev_lit, ev_gc, ev_bin, ev_neg, ev_not, ev_and, ev_or, ev_cmp, ev_cmp2, ev_ite, ev_tup, ev_lst, ev_ix, ev_sl, ev_f1, ev_f2, ev_isT, ev_call, ev_callK, evs, evo, evo', evA, callD, argsOf, PArg.arg, ownsOf, putOuts, toB, R.get, R.sto, R.flat, cmpD, ltD, leD, isND, binD, addD, subD, modD, ixD, slD, f1D, f2D, lenD, absD, intD, retR, outsOf, Arg.slot, putP, putPs, evRs, setR, okSet, subR, isOwn, putT, putTs, Lit.d, isTD, isEmp, wipeS, compF, max2D, min2D, dmD, lstD, tupD]⟩
      obtain ⟨mm, mm0, mm1, mm2, mn⟩ := mn
      obtain ⟨a3, b3, c3, r, r0, r1, e3⟩ := draw_ok a2 b2 c2 (n := mm) (by omega) (by omega)
      obtain ⟨N, hN⟩ := Int.eq_ofNat_of_zero_le (show 0 ≤ 1 + r by omega)
      obtain ⟨a4, b4, c4, qs, ⟨ls, hperm⟩, hql, e4⟩ := unlike_ok a3 b3 c3 (ps := ps) (n := N) (by omega) (by omega)
      rw [hP] at e4
      have qn : qs.Nodup := (List.nodup_append.mp (hperm.nodup_iff.mpr pn)).1
      have qm : ∀ p ∈ qs, 9 ≤ p ∧ p < n := fun p h => pm p (hperm.mem_iff.mp (List.mem_append_left _ h))
      have F0 := fil_start (n := n) (N := N) (qs := qs) h8 hf hg (by omega) hn
      have key : ∃ (a' b' c' : Int) (X : List D) (tl : List (Nat × List Int)) (y y' : Mi.Slot), Fil n N qs qs.length X tl ∧ forL (fun d s => putT (.tup (.cons (.name 5) (.cons (.name 6) (.nil)))) d s) (fun s => bk Φ (.cons (.asg (.sub 2 (.bin .add (.slot 5) (.lit (.int 1)))) (.bin .add (.tup (.cons (.slot 6) (.nil))) (.call 3 (.m 0 (.v (.lit (.int 89)) (.nil)))))) (.cons (.ife (.cmp .eq (.call 1 (.m 0 (.v (.lit (.int 2)) (.nil)))) (.lit (.int 0))) (.cons (.asg (.sub 2 (.slot 6)) (.lit .none)) (.nil)) (.nil)) (.nil))) s) (((rgD 0 (qs.map nI).length).zip (qs.map nI)).map fun (p : D × D) => .tuple [p.1, p.2]) [.own true (W a4 b4 c4), .val (.int most), .own false (.tuple [.int (N : Int)] :: (fs ++ gs)), .val (.int w), .val (.list (qs.map nI)), .emp, .emp] = some (.nx, [.own true (W a' b' c'), .val (.int most), .own false X, .val (.int w), .val (.list (qs.map nI)), y, y']) := by
        obtain ⟨s', ef, a', b', c', X, tl, y, y', rfl, F, hy, hy'⟩ := forL_inv (put := fun d s => putT (.tup (.cons (.name 5) (.cons (.name 6) (.nil)))) d s) (body := fun s => bk Φ (.cons (.asg (.sub 2 (.bin .add (.slot 5) (.lit (.int 1)))) (.bin .add (.tup (.cons (.slot 6) (.nil))) (.call 3 (.m 0 (.v (.lit (.int 89)) (.nil)))))) (.cons (.ife (.cmp .eq (.call 1 (.m 0 (.v (.lit (.int 2)) (.nil)))) (.lit (.int 0))) (.cons (.asg (.sub 2 (.slot 6)) (.lit .none)) (.nil)) (.nil)) (.nil))) s) (((rgD 0 (qs.map nI).length).zip (qs.map nI)).map fun (p : D × D) => PyData.tuple [p.1, p.2])
          (fun i s => ∃ (a' b' c' : Int) (X : List D) (tl : List (Nat × List Int)) (y y' : Mi.Slot), s = [.own true (W a' b' c'), .val (.int most), .own false X, .val (.int w), .val (.list (qs.map nI)), y, y'] ∧ Fil n N qs i X tl ∧ (∀ o zs, y ≠ .own o zs) ∧ ∀ o zs, y' ≠ .own o zs) (by
            rintro i d s hd ⟨a', b', c', X, tl, y, y', rfl, F, hy, hy'⟩
            obtain ⟨x, hx, rfl⟩ := enum_get hd
            have hi : i < qs.length := by
              have := (List.getElem?_eq_some_iff.mp hx).1
              rw [List.length_map] at this
              exact this
            rw [List.getElem?_map, List.getElem?_eq_getElem hi] at hx
            cases hx
            have hqi := qm qs[i] (List.getElem_mem hi)
            obtain ⟨a5, b5, c5, xs, ho, e5⟩ := numbers_ok a' b' c' (n := 89) (by decide) (by decide)
            have e5 : m_law_numbers [.own (W a' b' c'), .val (.int 89)] = some (.val (tI xs), [W a5 b5 c5]) := e5
            obtain ⟨a6, b6, c6, q, q0, q1, e6⟩ := draw_ok a5 b5 c5 (n := 2) (by decide) (by decide)
            obtain ⟨F1, F2⟩ := fil_step F hql (by omega) (by omega) hi qm (by omega) ho
            have ix1 : L2.ixN X.length ((i : Int) + 1) = some (i + 1) := by
              have := ixN_nat (n := X.length) (i := i + 1) (by rw [F.a]; omega)
              exact this
            have ix2 : L2.ixN (X.set (i + 1) (sD (qs[i], xs))).length ((qs[i] : Nat) : Int) = some qs[i] := ixN_nat (by rw [F1.a]; omega)
            have xl := ho.2
            have exs : sD (qs[i], xs) = .tuple (nI qs[i] :: xs.map .int) := rfl
            have xml : (xs.map PyData.int).length ≤ 89 := by rw [List.length_map]; exact xl
            have et : tI xs = .tuple (xs.map .int) := rfl
            rw [et] at e5
            rw [exs] at F1 F2 ix2
            generalize xs.map PyData.int = bl at e5 F1 F2 ix2 xml
            have hpl : 1 + bl.length ≤ sizeLine := sl_le (by omega)
            have e1' : putT (.tup (.cons (.name 5) (.cons (.name 6) (.nil)))) (.tuple [.int (i : Int), nI qs[i]]) [.own true (W a' b' c'), .val (.int most), .own false X, .val (.int w), .val (.list (qs.map nI)), y, y'] = some [.own true (W a' b' c'), .val (.int most), .own false X, .val (.int w), .val (.list (qs.map nI)), .val (.int (i : Int)), .val (nI qs[i])] := by
              cases y <;> cases y' <;> first | rfl | exact absurd rfl (hy _ _) | exact absurd rfl (hy' _ _)
            have st1 : ∀ o, bk Φ (.cons (.ife (.cmp .eq (.call 1 (.m 0 (.v (.lit (.int 2)) (.nil)))) (.lit (.int 0))) (.cons (.asg (.sub 2 (.slot 6)) (.lit .none)) (.nil)) (.nil)) (.nil)) [.own true (W a5 b5 c5), .val (.int most), .own false (X.set (i + 1) (.tuple (nI qs[i] :: bl))), .val (.int w), .val (.list (qs.map nI)), .val (.int (i : Int)), .val (nI qs[i])] = o → bk Φ (.cons (.asg (.sub 2 (.bin .add (.slot 5) (.lit (.int 1)))) (.bin .add (.tup (.cons (.slot 6) (.nil))) (.call 3 (.m 0 (.v (.lit (.int 89)) (.nil)))))) (.cons (.ife (.cmp .eq (.call 1 (.m 0 (.v (.lit (.int 2)) (.nil)))) (.lit (.int 0))) (.cons (.asg (.sub 2 (.slot 6)) (.lit .none)) (.nil)) (.nil)) (.nil))) [.own true (W a' b' c'), .val (.int most), .own false X, .val (.int w), .val (.list (qs.map nI)), .val (.int (i : Int)), .val (nI qs[i])] = o := fun o ho => by
              generalize qs.map nI = Q at ho ⊢
              generalize nI qs[i] = v at ho ⊢
              refine bk_asg (r := .val (.tuple (v :: bl))) (s1 := [.own true (W a5 b5 c5), .val (.int most), .own false X, .val (.int w), .val (.list Q), .val (.int (i : Int)), .val v]) ?_ (s2 := [.own true (W a5 b5 c5), .val (.int most), .own false (X.set (i + 1) (.tuple (v :: bl))), .val (.int w), .val (.list Q), .val (.int (i : Int)), .val v]) ?_ ho
              · simp [f3, e5, hz1, hpl, ev_slot, ev_lit, ev_gc, ev_bin, ev_neg, ev_not, ev_and, ev_or, ev_cmp, ev_cmp2, ev_ite, ev_tup, ev_lst, ev_ix, ev_sl, ev_f1, ev_f2, ev_isT, ev_call, ev_callK, evs, evo, evo', evA, callD, argsOf, PArg.arg, ownsOf, putOuts, toB, R.get, R.sto, R.flat, cmpD, ltD, leD, isND, binD, addD, subD, modD, ixD, slD, f1D, f2D, lenD, absD, intD, retR, outsOf, Arg.slot, putP, putPs, evRs, setR, okSet, subR, isOwn, putT, putTs, Lit.d, isTD, isEmp, wipeS, compF, max2D, min2D, dmD, lstD, tupD]
              · generalize (i : Int) = ii at ix1
                simp [ix1, ev_slot, ev_lit, ev_gc, ev_bin, ev_neg, ev_not, ev_and, ev_or, ev_cmp, ev_cmp2, ev_ite, ev_tup, ev_lst, ev_ix, ev_sl, ev_f1, ev_f2, ev_isT, ev_call, ev_callK, evs, evo, evo', evA, callD, argsOf, PArg.arg, ownsOf, putOuts, toB, R.get, R.sto, R.flat, cmpD, ltD, leD, isND, binD, addD, subD, modD, ixD, slD, f1D, f2D, lenD, absD, intD, retR, outsOf, Arg.slot, putP, putPs, evRs, setR, okSet, subR, isOwn, putT, putTs, Lit.d, isTD, isEmp, wipeS, compF, max2D, min2D, dmD, lstD, tupD]
            by_cases qz : q = 0
            · subst qz
              refine ⟨_, [.own true (W a6 b6 c6), .val (.int most), .own false ((X.set (i + 1) (.tuple (nI qs[i] :: bl))).set qs[i] .none), .val (.int w), .val (.list (qs.map nI)), .val (.int (i : Int)), .val (nI qs[i])], e1', st1 _ ?_, ⟨a6, b6, c6, _, _, _, _, rfl, F2, nofun, nofun⟩⟩
              generalize X.set (i + 1) (.tuple (nI qs[i] :: bl)) = X1 at ix2
              generalize qs.map nI = Q
              refine bk_ifT (s1 := [.own true (W a6 b6 c6), .val (.int most), .own false X1, .val (.int w), .val (.list Q), .val (.int (i : Int)), .val (nI qs[i])]) (s2 := [.own true (W a6 b6 c6), .val (.int most), .own false (X1.set qs[i] .none), .val (.int w), .val (.list Q), .val (.int (i : Int)), .val (nI qs[i])]) ?_ ?_ rfl
              · simp [f1, e6, eqq_int, ev_slot, ev_lit, ev_gc, ev_bin, ev_neg, ev_not, ev_and, ev_or, ev_cmp, ev_cmp2, ev_ite, ev_tup, ev_lst, ev_ix, ev_sl, ev_f1, ev_f2, ev_isT, ev_call, ev_callK, evs, evo, evo', evA, callD, argsOf, PArg.arg, ownsOf, putOuts, toB, R.get, R.sto, R.flat, cmpD, ltD, leD, isND, binD, addD, subD, modD, ixD, slD, f1D, f2D, lenD, absD, intD, retR, outsOf, Arg.slot, putP, putPs, evRs, setR, okSet, subR, isOwn, putT, putTs, Lit.d, isTD, isEmp, wipeS, compF, max2D, min2D, dmD, lstD, tupD]
              · refine bk_asg (r := .val .none) (s1 := [.own true (W a6 b6 c6), .val (.int most), .own false X1, .val (.int w), .val (.list Q), .val (.int (i : Int)), .val (nI qs[i])]) rfl (s2 := [.own true (W a6 b6 c6), .val (.int most), .own false (X1.set qs[i] .none), .val (.int w), .val (.list Q), .val (.int (i : Int)), .val (nI qs[i])]) ?_ rfl
                simp [ix2, ev_slot, ev_lit, ev_gc, ev_bin, ev_neg, ev_not, ev_and, ev_or, ev_cmp, ev_cmp2, ev_ite, ev_tup, ev_lst, ev_ix, ev_sl, ev_f1, ev_f2, ev_isT, ev_call, ev_callK, evs, evo, evo', evA, callD, argsOf, PArg.arg, ownsOf, putOuts, toB, R.get, R.sto, R.flat, cmpD, ltD, leD, isND, binD, addD, subD, modD, ixD, slD, f1D, f2D, lenD, absD, intD, retR, outsOf, Arg.slot, putP, putPs, evRs, setR, okSet, subR, isOwn, putT, putTs, Lit.d, isTD, isEmp, wipeS, compF, max2D, min2D, dmD, lstD, tupD]
            · refine ⟨_, [.own true (W a6 b6 c6), .val (.int most), .own false (X.set (i + 1) (.tuple (nI qs[i] :: bl))), .val (.int w), .val (.list (qs.map nI)), .val (.int (i : Int)), .val (nI qs[i])], e1', st1 _ ?_, ⟨a6, b6, c6, _, _, _, _, rfl, F1, nofun, nofun⟩⟩
              generalize X.set (i + 1) (.tuple (nI qs[i] :: bl)) = X1
              generalize qs.map nI = Q
              refine bk_ifF (s1 := [.own true (W a6 b6 c6), .val (.int most), .own false X1, .val (.int w), .val (.list Q), .val (.int (i : Int)), .val (nI qs[i])]) ?_ rfl
              simp [f1, e6, qz, eqq_int, ev_slot, ev_lit, ev_gc, ev_bin, ev_neg, ev_not, ev_and, ev_or, ev_cmp, ev_cmp2, ev_ite, ev_tup, ev_lst, ev_ix, ev_sl, ev_f1, ev_f2, ev_isT, ev_call, ev_callK, evs, evo, evo', evA, callD, argsOf, PArg.arg, ownsOf, putOuts, toB, R.get, R.sto, R.flat, cmpD, ltD, leD, isND, binD, addD, subD, modD, ixD, slD, f1D, f2D, lenD, absD, intD, retR, outsOf, Arg.slot, putP, putPs, evRs, setR, okSet, subR, isOwn, putT, putTs, Lit.d, isTD, isEmp, wipeS, compF, max2D, min2D, dmD, lstD, tupD]) 0 [.own true (W a4 b4 c4), .val (.int most), .own false (.tuple [.int (N : Int)] :: (fs ++ gs)), .val (.int w), .val (.list (qs.map nI)), .emp, .emp] (Nat.zero_le _) ⟨a4, b4, c4, _, [], .emp, .emp, rfl, F0, nofun, nofun⟩
        rw [List.length_map, List.length_zip, rgD_len, List.length_map, Nat.min_self] at F
        rw [List.drop_zero] at ef
        exact ⟨a', b', c', X, tl, y, y', F, ef⟩
      obtain ⟨a', b', c', X, tl, y, y', F, lp⟩ := key
      obtain ⟨r', hX, S⟩ := fil_end F hql (by omega) (by omega) (by omega) (by omega) qm qn
      subst hX
      refine ⟨a', b', c', _, _, r', tl, [.own false (.tuple [.int (N : Int)] :: r'), .val (.int w), .val (.list (qs.map nI)), y, y'], S, head _ ?_⟩
      clear head e1 e2
      have hZl : (PyData.tuple [] :: (fs ++ gs)).length = n := hn
      have ix : L2.ixN (PyData.tuple [] :: (fs ++ gs)).length 0 = some 0 := by
        have := ixN_nat (n := (PyData.tuple [] :: (fs ++ gs)).length) (i := 0) (by rw [hZl]; omega)
        exact this
      have es : PyData.tuple [.int (N : Int)] :: (fs ++ gs) = (PyData.tuple [] :: (fs ++ gs)).set 0 (.tuple [.int (N : Int)]) := rfl
      rw [es] at lp
      have hQl : (qs.map nI).length = N := by rw [List.length_map, hql]
      generalize PyData.tuple [] :: (fs ++ gs) = Z at lp ix hZl
      generalize qs.map nI = Q at lp e4 hQl
      refine bk_ifF (s1 := [.own true (W a2 b2 c2), .val (.int most), .own false Z, .val (.int w), .emp, .emp, .emp]) ?_ (bk_ifT (s1 := [.own true (W a2 b2 c2), .val (.int most), .own false Z, .val (.int w), .emp, .emp, .emp]) (s2 := [.own true (W a' b' c'), .val (.int most), .own false (.tuple [.int (N : Int)] :: r'), .val (.int w), .val (.list Q), y, y']) ?_ ?_ rfl)
      · simp [w1, eqq_int, ev_slot, ev_lit, ev_gc, ev_bin, ev_neg, ev_not, ev_and, ev_or, ev_cmp, ev_cmp2, ev_ite, ev_tup, ev_lst, ev_ix, ev_sl, ev_f1, ev_f2, ev_isT, ev_call, ev_callK, evs, evo, evo', evA, callD, argsOf, PArg.arg, ownsOf, putOuts, toB, R.get, R.sto, R.flat, cmpD, ltD, leD, isND, binD, addD, subD, modD, ixD, slD, f1D, f2D, lenD, absD, intD, retR, outsOf, Arg.slot, putP, putPs, evRs, setR, okSet, subR, isOwn, putT, putTs, Lit.d, isTD, isEmp, wipeS, compF, max2D, min2D, dmD, lstD, tupD]
      · simp [wgt, ev_slot, ev_lit, ev_gc, ev_bin, ev_neg, ev_not, ev_and, ev_or, ev_cmp, ev_cmp2, ev_ite, ev_tup, ev_lst, ev_ix, ev_sl, ev_f1, ev_f2, ev_isT, ev_call, ev_callK, evs, evo, evo', evA, callD, argsOf, PArg.arg, ownsOf, putOuts, toB, R.get, R.sto, R.flat, cmpD, ltD, leD, isND, binD, addD, subD, modD, ixD, slD, f1D, f2D, lenD, absD, intD, retR, outsOf, Arg.slot, putP, putPs, evRs, setR, okSet, subR, isOwn, putT, putTs, Lit.d, isTD, isEmp, wipeS, compF, max2D, min2D, dmD, lstD, tupD]
      refine bk_asg (r := .new P) (s1 := [.own true (W a2 b2 c2), .val (.int most), .own false Z, .val (.int w), .emp, .emp, .emp]) ?_ (s2 := [.own true (W a2 b2 c2), .val (.int most), .own false Z, .val (.int w), .own false P, .emp, .emp]) rfl (bk_frz (xs := P) rfl ?_)
      · rw [ev_rng9 (j := ((Z.length : Nat) : Int)) rfl (by omega) (by omega), hZl, pr, hP]
      refine bk_asg (r := .new Q) (s1 := [.own true (W a4 b4 c4), .val (.int most), .own false Z, .val (.int w), .val (.list P), .emp, .emp]) ?_ (s2 := [.own true (W a4 b4 c4), .val (.int most), .own false Z, .val (.int w), .own false Q, .emp, .emp]) rfl ?_
      · show ev Φ _ [.own true (W a2 b2 c2), .val (.int most), .own false Z, .val (.int w), .val (.list P), .emp, .emp] = _
        have g1 := mn Φ [.own true (W a2 b2 c2), .val (.int most), .own false Z, .val (.int w), .val (.list P), .emp, .emp] rfl
        have g2 : ev Φ (.bin .add (.lit (.int 1)) (.call 1 (.m 0 (.v (.f2 .min (.lit (.int 8)) (.f1 .len (.slot 4))) (.nil))))) [.own true (W a2 b2 c2), .val (.int most), .own false Z, .val (.int w), .val (.list P), .emp, .emp] = some (.val (.int N), [.own true (W a3 b3 c3), .val (.int most), .own false Z, .val (.int w), .val (.list P), .emp, .emp]) := by
          have hN' : 1 + r = (N : Int) := hN
          generalize (E.f2 F2.min (.lit (.int 8)) (.f1 .len (.slot 4))) = m3 at g1 ⊢
          rw [← hN']
          simp [g1, f1, e3, ev_slot, ev_lit, ev_gc, ev_bin, ev_neg, ev_not, ev_and, ev_or, ev_cmp, ev_cmp2, ev_ite, ev_tup, ev_lst, ev_ix, ev_sl, ev_f1, ev_f2, ev_isT, ev_call, ev_callK, evs, evo, evo', evA, callD, argsOf, PArg.arg, ownsOf, putOuts, toB, R.get, R.sto, R.flat, cmpD, ltD, leD, isND, binD, addD, subD, modD, ixD, slD, f1D, f2D, lenD, absD, intD, retR, outsOf, Arg.slot, putP, putPs, evRs, setR, okSet, subR, isOwn, putT, putTs, Lit.d, isTD, isEmp, wipeS, compF, max2D, min2D, dmD, lstD, tupD]
        generalize (E.bin BOp.add (.lit (.int 1)) (.call 1 (.m 0 (.v (.f2 .min (.lit (.int 8)) (.f1 .len (.slot 4))) (.nil))))) = ec at g2 ⊢
        generalize (N : Int) = Ni at g2 e4
        have e4' : Φ.fn 2 [.own (W a3 b3 c3), .val (.list P), .val (.int Ni)] = some (.new Q, [W a4 b4 c4]) := by
          rw [f2]
          exact e4
        clear f2 e4
        simp [g2, e4', ev_slot, ev_lit, ev_gc, ev_bin, ev_neg, ev_not, ev_and, ev_or, ev_cmp, ev_cmp2, ev_ite, ev_tup, ev_lst, ev_ix, ev_sl, ev_f1, ev_f2, ev_isT, ev_call, ev_callK, evs, evo, evo', evA, callD, argsOf, PArg.arg, ownsOf, putOuts, toB, R.get, R.sto, R.flat, cmpD, ltD, leD, isND, binD, addD, subD, modD, ixD, slD, f1D, f2D, lenD, absD, intD, retR, outsOf, Arg.slot, putP, putPs, evRs, setR, okSet, subR, isOwn, putT, putTs, Lit.d, isTD, isEmp, wipeS, compF, max2D, min2D, dmD, lstD, tupD]
      refine bk_asg (r := .val (.tuple [.int (N : Int)])) (s1 := [.own true (W a4 b4 c4), .val (.int most), .own false Z, .val (.int w), .own false Q, .emp, .emp]) ?_ (s2 := [.own true (W a4 b4 c4), .val (.int most), .own false (Z.set 0 (.tuple [.int (N : Int)])), .val (.int w), .own false Q, .emp, .emp]) ?_ (bk_frz (xs := Q) rfl (bk_forN (evI_enumL rfl) lp rfl))
      · rw [← hQl]
        simp [hz1, ev_slot, ev_lit, ev_gc, ev_bin, ev_neg, ev_not, ev_and, ev_or, ev_cmp, ev_cmp2, ev_ite, ev_tup, ev_lst, ev_ix, ev_sl, ev_f1, ev_f2, ev_isT, ev_call, ev_callK, evs, evo, evo', evA, callD, argsOf, PArg.arg, ownsOf, putOuts, toB, R.get, R.sto, R.flat, cmpD, ltD, leD, isND, binD, addD, subD, modD, ixD, slD, f1D, f2D, lenD, absD, intD, retR, outsOf, Arg.slot, putP, putPs, evRs, setR, okSet, subR, isOwn, putT, putTs, Lit.d, isTD, isEmp, wipeS, compF, max2D, min2D, dmD, lstD, tupD]
      · simp [ix, ev_slot, ev_lit, ev_gc, ev_bin, ev_neg, ev_not, ev_and, ev_or, ev_cmp, ev_cmp2, ev_ite, ev_tup, ev_lst, ev_ix, ev_sl, ev_f1, ev_f2, ev_isT, ev_call, ev_callK, evs, evo, evo', evA, callD, argsOf, PArg.arg, ownsOf, putOuts, toB, R.get, R.sto, R.flat, cmpD, ltD, leD, isND, binD, addD, subD, modD, ixD, slD, f1D, f2D, lenD, absD, intD, retR, outsOf, Arg.slot, putP, putPs, evRs, setR, okSet, subR, isOwn, putT, putTs, Lit.d, isTD, isEmp, wipeS, compF, max2D, min2D, dmD, lstD, tupD]
theorem law_sound_ok (a b c : Int) {most : Int} (m0 : 2 ≤ most) (m1 : most ≤ 50) : ∃ (a' b' c' : Int) (h : D) (k : Nat) (r : List D) (tl : List (Nat × List Int)), Sound h k r tl ∧ m_law_sound [.own (W a b c), .val (.int most)] = some (.val (.tuple (h :: r)), [W a' b' c']) := by
  obtain ⟨a', b', c', h, k, r, tl, rest, S, e⟩ := law_sound_bk q_law_sound_0 q_law_sound_1 q_law_sound_2 q_law_sound_3 a b c m0 m1
  exact ⟨a', b', c', h, k, r, tl, S, run_ok (Nat.le_of_ble_eq_true rfl) e rfl rfl⟩
end L23

set_option maxRecDepth 100000
set_option linter.all false
set_option maxHeartbeats 4000000
namespace L23
open Mi PySem
/-- a disk of n blocks of which those from place 9 on are not torn -/
structure Tail (n : Nat) (X : List D) : Prop where
  len : X.length = n
  blk : ∀ d ∈ X, Blk d
  nb : ∀ j d, 9 ≤ j → X[j]? = some d → NB d
section
variable {n : Nat} (h11 : 11 ≤ n) (h70 : n ≤ 70)
include h11 h70
theorem tail_sound {h : D} {r : List D} (T : Tail n (h :: r)) (hh : h = .tuple [] ∨ h = .none) : Sound h 0 r [] := by
  have hl : r.length + 1 = n := T.len
  refine ⟨⟨by rw [T.len]; exact h11, by rw [T.len]; exact h70, T.blk⟩, ?_, rfl, List.nodup_nil, nofun, fun i hi e => absurd rfl (T.nb i _ hi e).ne, Nat.zero_le _⟩
  rcases hh with rfl | rfl
  · exact .inr (.inl ⟨rfl, rfl⟩)
  · exact .inl ⟨rfl, rfl⟩
theorem tail_head {h h' : D} {r : List D} (T : Tail n (h :: r)) (hb : Blk h') : Tail n (h' :: r) := by
  refine ⟨T.len, fun d hd => ?_, fun j d hj e => ?_⟩
  · rcases List.mem_cons.mp hd with rfl | z
    · exact hb
    · exact T.blk d (List.mem_cons_of_mem _ z)
  · obtain ⟨i, rfl⟩ : ∃ i, j = i + 1 := ⟨j - 1, by omega⟩
    refine T.nb (i + 1) d hj ?_
    rw [List.getElem?_cons_succ] at e ⊢
    exact e
end
/-- what is asked of a cut -/
def SndOk (X due : List D) : Prop := ∃ h k r tl, X = h :: r ∧ Sound h k r tl ∧ contF X tl = due
section
variable {n : Nat} (h11 : 11 ≤ n) (h70 : n ≤ 70)
include h11 h70
/-- a head that tells of nothing -/
theorem cut_quiet {h : D} {r : List D} (T : Tail n (h :: r)) (hh : h = .tuple [] ∨ h = .none) : SndOk (h :: r) ((h :: r).drop 9) :=
  ⟨_, _, _, _, rfl, tail_sound h11 h70 T hh, rfl⟩
/-- a head that tells of the batch -/
theorem cut_told {r : List D} {ws : List (Nat × List Int)} (B : Batch n ws) {Z : List D} (TZ : Tail n Z) (hl : r.length + 1 = n) (hb : ∀ d ∈ (PyData.tuple [.int (ws.length : Int)] :: r), Blk d) (ht : r.take ws.length = ws.map sD) (ho : ∀ j, 9 ≤ j → (∀ w ∈ ws, w.1 ≠ j) → (PyData.tuple [.int (ws.length : Int)] :: r)[j]? = Z[j]?) :
    SndOk (.tuple [.int (ws.length : Int)] :: r) ((setAll Z ws).drop 9) := by
  have ha := B.a
  have hb8 := B.b
  have S : Sound (.tuple [.int (ws.length : Int)]) ws.length r ws := by
    refine ⟨⟨by show 11 ≤ r.length + 1; omega, by show r.length + 1 ≤ 70; omega, hb⟩, .inr (.inr ⟨rfl, ha, hb8⟩), ht, B.u, fun w hw => ?_, fun i hi e => ?_, hb8⟩
    · have := B.w w hw
      omega
    · by_cases q : ∃ w ∈ ws, w.1 = i
      · exact q
      · exfalso
        rw [ho i hi fun w hw z => q ⟨w, hw, z⟩] at e
        exact (TZ.nb i _ hi e).ne rfl
  obtain ⟨X, hX⟩ : ∃ X, PyData.tuple [.int (ws.length : Int)] :: r = X := ⟨_, rfl⟩
  have xl : X.length = n := by rw [← hX]; exact hl
  have ed : contF X ws = (setAll Z ws).drop 9 := by
    rw [cont_drop X fun w hw => (B.w w hw).1]
    apply List.ext_getElem?
    intro j
    rw [List.getElem?_drop, List.getElem?_drop]
    by_cases q : ∃ w ∈ ws, w.1 = 9 + j
    · obtain ⟨w, hw, hj⟩ := q
      have := B.w w hw
      rw [← hj, setAll_mem B.u hw (by omega), setAll_mem B.u hw (by rw [TZ.len]; omega)]
    · have hne : ∀ w ∈ ws, w.1 ≠ 9 + j := fun w hw z => q ⟨w, hw, z⟩
      rw [setAll_not hne, setAll_not hne, ← hX, ho (9 + j) (by omega) hne]
  rw [← hX] at ed
  exact ⟨_, _, _, _, rfl, S, ed⟩
end
section
variable {n : Nat} (h11 : 11 ≤ n) (h70 : n ≤ 70) {ws : List (Nat × List Int)} (B : Batch n ws) {Z : List D} (TZ : Tail n Z) (Z0 : Z[0]? = some (.tuple []))
include h11 h70 B TZ Z0
theorem ws_get {tl : List (Nat × List Int)} {j : Nat} (hj : 9 ≤ j) (hn : ∀ w ∈ tl, w.1 ≠ j) : (setAll Z (slotsW ws ++ [(0, [(ws.length : Int)])] ++ ws ++ tl))[j]? = (setAll Z ws)[j]? := by
  rw [setAll_app, setAll_not hn, setAll_app]
  by_cases q : ∃ w ∈ ws, w.1 = j
  · obtain ⟨w, hw, rfl⟩ := q
    have := (B.w w hw).2.1
    rw [setAll_mem B.u hw (by rw [setAll_len, TZ.len]; omega), setAll_mem B.u hw (by rw [TZ.len]; omega)]
  · have hne : ∀ w ∈ ws, w.1 ≠ j := fun w hw z => q ⟨w, hw, z⟩
    rw [setAll_not hne, setAll_not hne, setAll_not fun w hw => ?_]
    rcases List.mem_append.mp hw with z | z
    · have := (slots_mem B h70 z).2.1
      omega
    · rw [List.mem_singleton.mp z]
      show 0 ≠ j
      omega
theorem new_nb {j : Nat} {d : D} (hj : 9 ≤ j) (e : (setAll Z ws)[j]? = some d) : NB d := by
  by_cases q : ∃ w ∈ ws, w.1 = j
  · obtain ⟨w, hw, rfl⟩ := q
    have hw2 := B.w w hw
    rw [setAll_mem B.u hw (by rw [TZ.len]; omega)] at e
    exact ⟨w.2, (Option.some.inj e).symm, hw2.2.2.1, by have := hw2.2.2.2; omega⟩
  · rw [setAll_not fun w hw z => q ⟨w, hw, z⟩] at e
    exact TZ.nb j d hj e
/-- a disk with a quiet or torn head -/
theorem quiet_like {X Y : List D} (hX : X.length = n) (hb : ∀ d ∈ X, Blk d) (h0 : X[0]? = some (.tuple []) ∨ X[0]? = some .none) (ht : ∀ j, 9 ≤ j → X[j]? = Y[j]?) (hY : ∀ j d, 9 ≤ j → Y[j]? = some d → NB d) : SndOk X (Y.drop 9) := by
  cases hXc : X with
  | nil =>
    rw [hXc] at hX
    simp at hX
    omega
  | cons x r =>
    have T : Tail n (x :: r) := by
      rw [← hXc]
      exact ⟨hX, hb, fun j d hj e => hY j d hj (by rw [← ht j hj]; exact e)⟩
    have hx : x = .tuple [] ∨ x = .none := by
      rw [hXc] at h0
      rcases h0 with h | h
      · exact .inl (Option.some.inj h)
      · exact .inr (Option.some.inj h)
    have ed : (x :: r).drop 9 = Y.drop 9 := by
      apply List.ext_getElem?
      intro j
      rw [List.getElem?_drop, List.getElem?_drop, ← hXc]
      exact ht (9 + j) (by omega)
    rw [← ed]
    exact cut_quiet h11 h70 T hx
theorem cut_all (c : Nat) (t : Bool) : SndOk (runF Z (stepsW ws) c t) (if c ≤ ws.length then Z.drop 9 else (setAll Z ws).drop 9) := by
  have sl := slotsW_len ws
  have hb8 := B.b
  have sm : ∀ w ∈ stepsW ws, w.1 < n ∧ OkI 90 w.2 := fun w hw => by
    unfold stepsW at hw
    rcases List.mem_append.mp hw with h | h
    · rcases List.mem_append.mp h with h | h
      · rcases List.mem_append.mp h with h | h
        · have := slots_mem B h70 h
          exact ⟨by omega, this.2.2.1, by have := this.2.2.2; omega⟩
        · rw [List.mem_singleton.mp h]
          refine ⟨by show 0 < n; omega, fun x hx => ?_, by show 1 ≤ 90; decide⟩
          rw [List.mem_singleton.mp hx]
          have : (100 : Int) < big := by decide
          omega
      · have := B.w w h
        exact ⟨this.2.1, this.2.2.1, by have := this.2.2.2; omega⟩
    · rw [List.mem_singleton.mp h]
      exact ⟨by show 0 < n; omega, nofun, Nat.zero_le _⟩
  have xl : (runF Z (stepsW ws) c t).length = n := by rw [runF_len, TZ.len]
  have xb := runF_blk TZ.blk (fun w hw => (sm w hw).2) c t (ws := stepsW ws)
  have stl : (stepsW ws).length = 2 * ws.length + 2 := by
    unfold stepsW
    simp [sl]
    omega
  by_cases c1 : c ≤ ws.length
  · rw [if_pos c1]
    have tk : ∀ w ∈ (stepsW ws).take (c + 1), w.1 ≤ 8 := fun w hw => by
      have e : (stepsW ws).take (c + 1) = (slotsW ws ++ [(0, [(ws.length : Int)])]).take (c + 1) := by
        unfold stepsW
        rw [List.append_assoc (slotsW ws ++ [(0, [(ws.length : Int)])]), List.take_append_of_le_length (by rw [List.length_append, sl]; simp; omega)]
      rw [e] at hw
      rcases List.mem_append.mp (List.mem_of_mem_take hw) with z | z
      · exact (slots_mem B h70 z).2.1
      · rw [List.mem_singleton.mp z]
        exact Nat.zero_le _
    refine quiet_like h11 h70 B TZ Z0 xl xb ?_ (fun j hj => runF_not fun w hw => by have := tk w hw; omega) TZ.nb
    have e : (stepsW ws).take c = (slotsW ws).take c := by
      unfold stepsW
      rw [List.append_assoc, List.append_assoc, List.take_append_of_le_length (by rw [sl]; exact c1)]
    have h0 : (setAll Z ((stepsW ws).take c))[0]? = some (.tuple []) := by
      rw [e, setAll_not fun w hw => by have := (slots_mem B h70 (List.mem_of_mem_take hw)).1; omega, Z0]
    unfold runF
    split
    · rename_i w q
      by_cases w0 : w.1 = 0
      · right
        rw [w0, List.getElem?_set_self (by rw [setAll_len, TZ.len]; omega)]
      · left
        rw [List.getElem?_set_ne w0, h0]
    · exact .inl h0
  · rw [if_neg c1]
    by_cases c2 : 2 * ws.length + 2 ≤ c
    · have ex : runF Z (stepsW ws) c t = setAll Z (stepsW ws) := by
        unfold runF
        rw [List.take_of_length_le (by omega)]
        split
        · rename_i w q
          rw [List.getElem?_eq_none (by omega)] at q
          cases q
        · rfl
      rw [ex] at xl xb ⊢
      refine quiet_like h11 h70 B TZ Z0 xl xb (.inl ?_) (fun j hj => ws_get h11 h70 B TZ Z0 hj fun w hw => by rw [List.mem_singleton.mp hw]; show 0 ≠ j; omega) fun j d hj e => new_nb h11 h70 B TZ Z0 hj e
      unfold stepsW
      rw [setAll_app]
      show ((setAll Z _).set 0 (tI []))[0]? = _
      rw [List.getElem?_set_self (by rw [setAll_len, TZ.len]; omega)]
      rfl
    · -- the head tells, or it is torn at the end
      obtain ⟨k, hk⟩ : ∃ k, c = ws.length + 1 + k := ⟨c - ws.length - 1, by omega⟩
      have e : (stepsW ws).take c = slotsW ws ++ [(0, [(ws.length : Int)])] ++ ws.take k := by
        unfold stepsW
        rw [List.append_assoc (slotsW ws ++ [(0, [(ws.length : Int)])]), hk, show ws.length + 1 + k = (slotsW ws ++ [(0, [(ws.length : Int)])]).length + k by rw [List.length_append, sl]; simp, List.take_length_add_append, List.take_append_of_le_length (by omega)]
      have g : (stepsW ws)[c]? = (ws ++ [(0, [])])[k]? := by
        unfold stepsW
        rw [List.append_assoc (slotsW ws ++ [(0, [(ws.length : Int)])]), List.getElem?_append_right (by rw [List.length_append, sl]; simp; omega)]
        congr 1
        rw [List.length_append, sl]
        simp
        omega
      by_cases c3 : k = ws.length ∧ t = true
      · obtain ⟨ck, rfl⟩ := c3
        have ex : runF Z (stepsW ws) c true = (setAll Z (slotsW ws ++ [(0, [(ws.length : Int)])] ++ ws)).set 0 .none := by
          unfold runF
          rw [g, e, ck, List.take_length, List.getElem?_append_right (Nat.le_refl _), Nat.sub_self]
          rfl
        rw [ex] at xl xb ⊢
        refine quiet_like h11 h70 B TZ Z0 xl xb (.inr ?_) (fun j hj => ?_) fun j d hj e => new_nb h11 h70 B TZ Z0 hj e
        · rw [List.getElem?_set_self (by rw [setAll_len, TZ.len]; omega)]
        · rw [List.getElem?_set_ne (by omega)]
          have := ws_get h11 h70 B TZ Z0 (tl := []) hj nofun
          rw [List.append_nil] at this
          exact this
      · have low : ∀ j, j ≤ 8 → (runF Z (stepsW ws) c t)[j]? = (setAll Z (slotsW ws ++ [(0, [(ws.length : Int)])]))[j]? := fun j hj => by
          have hs : (setAll Z ((stepsW ws).take c))[j]? = (setAll Z (slotsW ws ++ [(0, [(ws.length : Int)])]))[j]? := by
            rw [e, setAll_app, setAll_not fun w hw => by have := (B.w w (List.mem_of_mem_take hw)).1; omega]
          unfold runF
          split
          · rename_i w q
            rw [g] at q
            have kl : k < ws.length := by
              by_cases kk : k < ws.length
              · exact kk
              · exact absurd ⟨by omega, rfl⟩ c3
            rw [List.getElem?_append_left kl] at q
            rw [List.getElem?_set_ne (by have := (B.w w (List.mem_of_getElem? q)).1; omega)]
            exact hs
          · exact hs
        have out : ∀ j, 9 ≤ j → (∀ w ∈ ws, w.1 ≠ j) → (runF Z (stepsW ws) c t)[j]? = Z[j]? := fun j hj hne => runF_not fun w hw => by
          have := List.mem_of_mem_take hw
          unfold stepsW at this
          rcases List.mem_append.mp this with h | h
          · rcases List.mem_append.mp h with h | h
            · rcases List.mem_append.mp h with h | h
              · have := (slots_mem B h70 h).2.1
                omega
              · rw [List.mem_singleton.mp h]
                show 0 ≠ j
                omega
            · exact hne w h
          · rw [List.mem_singleton.mp h]
            show 0 ≠ j
            omega
        have x0 : (runF Z (stepsW ws) c t)[0]? = some (.tuple [.int (ws.length : Int)]) := by
          rw [low 0 (by omega), setAll_app]
          show ((setAll Z (slotsW ws)).set 0 (tI [(ws.length : Int)]))[0]? = _
          rw [List.getElem?_set_self (by rw [setAll_len, TZ.len]; omega)]
          rfl
        have sn : ((slotsW ws).map (·.1)).Nodup := by
          rw [slots_places]
          exact List.pairwise_map.mpr (List.nodup_range.imp fun h z => h (by omega))
        have xs : ∀ i (hi : i < ws.length), (runF Z (stepsW ws) c t)[i + 1]? = some (sD ws[i]) := fun i hi => by
          have hm : (i + 1, (ws[i].1 : Int) :: ws[i].2) ∈ slotsW ws := by
            unfold slotsW
            refine List.mem_map.mpr ⟨(i, ws[i]), ?_, rfl⟩
            refine List.mem_of_getElem? (i := i) ?_
            exact List.getElem?_zip_eq_some.mpr ⟨by rw [List.getElem?_range hi], List.getElem?_eq_getElem hi⟩
          rw [low (i + 1) (by omega), setAll_app]
          show ((setAll Z (slotsW ws)).set 0 (tI [(ws.length : Int)]))[i + 1]? = _
          rw [List.getElem?_set_ne (by omega)]
          exact setAll_mem sn hm (by rw [TZ.len]; show i + 1 < n; omega)
        generalize runF Z (stepsW ws) c t = X at *
        cases X with
        | nil =>
          simp at xl
          omega
        | cons x r =>
          have hx : x = .tuple [.int (ws.length : Int)] := Option.some.inj x0
          subst hx
          refine cut_told h11 h70 B TZ (by rw [← xl]; rfl) xb ?_ out
          apply List.ext_getElem?
          intro i
          by_cases hi : i < ws.length
          · rw [List.getElem?_take_of_lt hi, List.getElem?_map, List.getElem?_eq_getElem hi]
            have := xs i hi
            rw [List.getElem?_cons_succ] at this
            exact this
          · rw [List.getElem?_eq_none (by rw [List.length_take]; omega), List.getElem?_eq_none (by rw [List.length_map]; omega)]
end
end L23

set_option maxRecDepth 100000
set_option linter.all false
set_option maxHeartbeats 4000000
namespace L23
open Mi PySem
theorem bk_ifT' {Φ : Phi} {c : E} {x y k : Bk} {s s1 s2 : Sl} {r : R} (h : ev Φ c s = some (.val (.bool true), s1)) (hx : bk Φ x s1 = some (.ret r, s2)) : bk Φ (.cons (.ife c x y) k) s = some (.ret r, s2) := bk_if (t := true) h (by rw [if_pos rfl, hx]; rfl)
/-! ### events -/
inductive Ev where
  | mend (c : Nat) (t : Bool)
  | batch (ws : List (Nat × List Int)) (c : Nat) (t : Bool)
def Ev.d : Ev → D
  | .mend c t => .tuple [.str "mend", .int c, .bool t]
  | .batch ws c t => .tuple [.str "batch", .tuple (ws.map wD), .int c, .bool t]
def Ev.Ok (n : Nat) : Ev → Prop
  | .mend _ _ => True
  | .batch ws _ _ => Batch n ws
def putW (ws : List (Nat × List Int)) (L : List D) : List D := ws.foldl (fun c w => c.set (w.1 - 9) (tI w.2)) L
def Ev.cont : Ev → List D → List D
  | .mend _ _, L => L
  | .batch ws c _, L => if c ≤ ws.length then L else putW ws L
def contAll (hs : List Ev) (L : List D) : List D := hs.foldl (fun L e => e.cont L) L
theorem putW_len : ∀ (ws : List (Nat × List Int)) (L : List D), (putW ws L).length = L.length
  | [], L => rfl
  | w :: ws, L => (putW_len ws (L.set (w.1 - 9) (tI w.2))).trans (List.length_set ..)
theorem cont_len (e : Ev) (L : List D) : (e.cont L).length = L.length := by
  cases e with
  | mend c t => rfl
  | batch ws c t =>
    show (if c ≤ ws.length then L else putW ws L).length = L.length
    split
    · rfl
    · exact putW_len ws L
theorem mend_batch : eqqD (.str "mend") (.str "batch") = some false := by decide +kernel
theorem batch_mend : eqqD (.str "batch") (.str "mend") = some false := by decide +kernel
theorem is_cut_ok (c : Nat) (t : Bool) : m_is_cut [.val (.int c), .val (.bool t)] = some (.val (.bool true), []) := by
  have hc : (0 : Int) ≤ (c : Int) := by omega
  have key : ∀ (Φ : Phi) (i : Int), 0 ≤ i → Φ.fn 0 [.val (.int i)] = some (.val (.bool true), []) → bk Φ b_is_cut [.val (.int i), .val (.bool t)] = some (.ret (.val (.bool true)), [.val (.int i), .val (.bool t)]) := fun Φ i hi e => by
    simp [b_is_cut, e, hi, bk, st, ev_slot, ev_lit, ev_gc, ev_bin, ev_neg, ev_not, ev_and, ev_or, ev_cmp, ev_cmp2, ev_ite, ev_tup, ev_lst, ev_ix, ev_sl, ev_f1, ev_f2, ev_isT, ev_call, ev_callK, evs, evo, evo', evA, callD, argsOf, PArg.arg, ownsOf, putOuts, toB, R.get, R.sto, R.flat, cmpD, ltD, leD, isND, binD, addD, subD, modD, ixD, slD, f1D, f2D, lenD, absD, intD, retR, outsOf, Arg.slot, putP, putPs, evRs, setR, okSet, subR, isOwn, putT, putTs, Lit.d, isTD, isEmp, wipeS, compF, max2D, min2D, dmD, lstD, tupD]
  exact run_ok (Nat.le_of_ble_eq_true rfl) (key p_is_cut c hc (by rw [q_is_cut_0]; exact is_whole_int _)) rfl rfl
theorem is_event_ok {n : Nat} (hn : n ≤ 70) {e : Ev} (h : e.Ok n) : m_is_disk_event [.val e.d, .val (.int n)] = some (.val (.bool true), []) := by
  have hz2 : (2 : Nat) ≤ sizeLine := sl_le (by decide)
  have i3 : innD (.int 3) (.tuple [.int 3, .int 4]) = some true := by decide +kernel
  have i4 : innD (.int 4) (.tuple [.int 3, .int 4]) = some true := by decide +kernel
  cases e with
  | mend c t =>
    have ic := is_cut_ok c t
    have key : ∀ (Φ : Phi) (i m : Int), Φ.fn 0 [.val (.int i), .val (.bool t)] = some (.val (.bool true), []) → bk Φ b_is_disk_event [.val (.tuple [.str "mend", .int i, .bool t]), .val (.int m)] = some (.ret (.val (.bool true)), [.val (.tuple [.str "mend", .int i, .bool t]), .val (.int m)]) := fun Φ i m e => by
      have a2 : L2.atI [PyData.str "mend", .int i, .bool t] (-2) = some (.int i) := rfl
      have a1 : L2.atI [PyData.str "mend", .int i, .bool t] (-1) = some (.bool t) := rfl
      have a0 : L2.atI [PyData.str "mend", .int i, .bool t] 0 = some (.str "mend") := rfl
      refine bk_ifF (s1 := [.val (.tuple [.str "mend", .int i, .bool t]), .val (.int m)]) ?_ (bk_ifT' (s1 := [.val (.tuple [.str "mend", .int i, .bool t]), .val (.int m)]) ?_ (bk_ret (r := .val (.bool true)) ?_ rfl))
      · simp [a1, a2, i3, hz2, e, ev_slot, ev_lit, ev_gc, ev_bin, ev_neg, ev_not, ev_and, ev_or, ev_cmp, ev_cmp2, ev_ite, ev_tup, ev_lst, ev_ix, ev_sl, ev_f1, ev_f2, ev_isT, ev_call, ev_callK, evs, evo, evo', evA, callD, argsOf, PArg.arg, ownsOf, putOuts, toB, R.get, R.sto, R.flat, cmpD, ltD, leD, isND, binD, addD, subD, modD, ixD, slD, f1D, f2D, lenD, absD, intD, retR, outsOf, Arg.slot, putP, putPs, evRs, setR, okSet, subR, isOwn, putT, putTs, Lit.d, isTD, isEmp, wipeS, compF, max2D, min2D, dmD, lstD, tupD]
      · simp [eqq_int, ev_slot, ev_lit, ev_gc, ev_bin, ev_neg, ev_not, ev_and, ev_or, ev_cmp, ev_cmp2, ev_ite, ev_tup, ev_lst, ev_ix, ev_sl, ev_f1, ev_f2, ev_isT, ev_call, ev_callK, evs, evo, evo', evA, callD, argsOf, PArg.arg, ownsOf, putOuts, toB, R.get, R.sto, R.flat, cmpD, ltD, leD, isND, binD, addD, subD, modD, ixD, slD, f1D, f2D, lenD, absD, intD, retR, outsOf, Arg.slot, putP, putPs, evRs, setR, okSet, subR, isOwn, putT, putTs, Lit.d, isTD, isEmp, wipeS, compF, max2D, min2D, dmD, lstD, tupD]
      · simp [a0, eqv_str, ev_slot, ev_lit, ev_gc, ev_bin, ev_neg, ev_not, ev_and, ev_or, ev_cmp, ev_cmp2, ev_ite, ev_tup, ev_lst, ev_ix, ev_sl, ev_f1, ev_f2, ev_isT, ev_call, ev_callK, evs, evo, evo', evA, callD, argsOf, PArg.arg, ownsOf, putOuts, toB, R.get, R.sto, R.flat, cmpD, ltD, leD, isND, binD, addD, subD, modD, ixD, slD, f1D, f2D, lenD, absD, intD, retR, outsOf, Arg.slot, putP, putPs, evRs, setR, okSet, subR, isOwn, putT, putTs, Lit.d, isTD, isEmp, wipeS, compF, max2D, min2D, dmD, lstD, tupD]
    exact run_ok (Nat.le_of_ble_eq_true rfl) (key p_is_disk_event c n (by rw [q_is_disk_event_0]; exact ic)) rfl rfl
  | batch ws c t =>
    have ic := is_cut_ok c t
    have ib := is_batch_by_ok (n := n) (ws := ws) h hn
    have key : ∀ (Φ : Phi) (T : List D) (i m : Int), Φ.fn 0 [.val (.int i), .val (.bool t)] = some (.val (.bool true), []) → Φ.fn 1 [.val (.tuple T), .val (.int m)] = some (.val (.bool true), []) → bk Φ b_is_disk_event [.val (.tuple [.str "batch", .tuple T, .int i, .bool t]), .val (.int m)] = some (.ret (.val (.bool true)), [.val (.tuple [.str "batch", .tuple T, .int i, .bool t]), .val (.int m)]) := fun Φ T i m e e1 => by
      have a2 : L2.atI [PyData.str "batch", .tuple T, .int i, .bool t] (-2) = some (.int i) := rfl
      have a1 : L2.atI [PyData.str "batch", .tuple T, .int i, .bool t] (-1) = some (.bool t) := rfl
      have a0 : L2.atI [PyData.str "batch", .tuple T, .int i, .bool t] 0 = some (.str "batch") := rfl
      have a3 : L2.atI [PyData.str "batch", .tuple T, .int i, .bool t] 1 = some (.tuple T) := rfl
      refine bk_ifF (s1 := [.val (.tuple [.str "batch", .tuple T, .int i, .bool t]), .val (.int m)]) ?_ (bk_ifF (s1 := [.val (.tuple [.str "batch", .tuple T, .int i, .bool t]), .val (.int m)]) ?_ (bk_ret (r := .val (.bool true)) ?_ rfl))
      · simp [a1, a2, i4, hz2, e, ev_slot, ev_lit, ev_gc, ev_bin, ev_neg, ev_not, ev_and, ev_or, ev_cmp, ev_cmp2, ev_ite, ev_tup, ev_lst, ev_ix, ev_sl, ev_f1, ev_f2, ev_isT, ev_call, ev_callK, evs, evo, evo', evA, callD, argsOf, PArg.arg, ownsOf, putOuts, toB, R.get, R.sto, R.flat, cmpD, ltD, leD, isND, binD, addD, subD, modD, ixD, slD, f1D, f2D, lenD, absD, intD, retR, outsOf, Arg.slot, putP, putPs, evRs, setR, okSet, subR, isOwn, putT, putTs, Lit.d, isTD, isEmp, wipeS, compF, max2D, min2D, dmD, lstD, tupD]
      · simp [eqq_int, ev_slot, ev_lit, ev_gc, ev_bin, ev_neg, ev_not, ev_and, ev_or, ev_cmp, ev_cmp2, ev_ite, ev_tup, ev_lst, ev_ix, ev_sl, ev_f1, ev_f2, ev_isT, ev_call, ev_callK, evs, evo, evo', evA, callD, argsOf, PArg.arg, ownsOf, putOuts, toB, R.get, R.sto, R.flat, cmpD, ltD, leD, isND, binD, addD, subD, modD, ixD, slD, f1D, f2D, lenD, absD, intD, retR, outsOf, Arg.slot, putP, putPs, evRs, setR, okSet, subR, isOwn, putT, putTs, Lit.d, isTD, isEmp, wipeS, compF, max2D, min2D, dmD, lstD, tupD]
      · simp [a0, a3, e1, eqv_str, ev_slot, ev_lit, ev_gc, ev_bin, ev_neg, ev_not, ev_and, ev_or, ev_cmp, ev_cmp2, ev_ite, ev_tup, ev_lst, ev_ix, ev_sl, ev_f1, ev_f2, ev_isT, ev_call, ev_callK, evs, evo, evo', evA, callD, argsOf, PArg.arg, ownsOf, putOuts, toB, R.get, R.sto, R.flat, cmpD, ltD, leD, isND, binD, addD, subD, modD, ixD, slD, f1D, f2D, lenD, absD, intD, retR, outsOf, Arg.slot, putP, putPs, evRs, setR, okSet, subR, isOwn, putT, putTs, Lit.d, isTD, isEmp, wipeS, compF, max2D, min2D, dmD, lstD, tupD]
    exact run_ok (Nat.le_of_ble_eq_true rfl) (key p_is_disk_event (ws.map wD) c n (by rw [q_is_disk_event_0]; exact ic) (by rw [q_is_disk_event_1]; exact ib)) rfl rfl
theorem check_history_ok {n : Nat} (hn : n ≤ 70) {hs : List Ev} (h : ∀ e ∈ hs, e.Ok n) (hl : hs.length ≤ 40) : m_check_history [.val (.tuple (hs.map Ev.d)), .val (.int n)] = some (.val .none, []) := by
  have hm : ∀ d ∈ hs.map Ev.d, m_is_disk_event [.val d, .val (.int n)] = some (.val (.bool true), []) := fun d hd => by
    obtain ⟨e, he, rfl⟩ := List.mem_map.mp hd
    exact is_event_ok hn (h e he)
  have hl' : (hs.map Ev.d).length ≤ 40 := by rw [List.length_map]; exact hl
  generalize hs.map Ev.d = H at hm hl' ⊢
  have hh : m_is_history_by [.val (.tuple H), .val (.int n)] = some (.val (.bool true), []) := by
    have key : ∀ (Φ : Phi) (m : Int), Φ.gc 0 = .int 40 → (∀ d ∈ H, Φ.fn 0 [.val d, .val (.int m)] = some (.val (.bool true), [])) → bk Φ b_is_history_by [.val (.tuple H), .val (.int m), .emp] = some (.ret (.val (.bool true)), [.val (.tuple H), .val (.int m), .emp]) := fun Φ m g e => by
      have hlt : ¬ (40 : Int) < (H.length : Int) := by omega
      refine bk_ifF (s1 := [.val (.tuple H), .val (.int m), .emp]) ?_ (bk_ret (r := .val (.bool true)) (all_comp (ds := H) rfl rfl (fun d hd => ?_) (sl_le (by omega))) rfl)
      · simp [g, hlt, ev_slot, ev_lit, ev_gc, ev_bin, ev_neg, ev_not, ev_and, ev_or, ev_cmp, ev_cmp2, ev_ite, ev_tup, ev_lst, ev_ix, ev_sl, ev_f1, ev_f2, ev_isT, ev_call, ev_callK, evs, evo, evo', evA, callD, argsOf, PArg.arg, ownsOf, putOuts, toB, R.get, R.sto, R.flat, cmpD, ltD, leD, isND, binD, addD, subD, modD, ixD, slD, f1D, f2D, lenD, absD, intD, retR, outsOf, Arg.slot, putP, putPs, evRs, setR, okSet, subR, isOwn, putT, putTs, Lit.d, isTD, isEmp, wipeS, compF, max2D, min2D, dmD, lstD, tupD]
      · refine ⟨[.val (.tuple H), .val (.int m), .val d], ?_, rfl⟩
        have e := e d hd
        simp [e, ev_slot, ev_lit, ev_gc, ev_bin, ev_neg, ev_not, ev_and, ev_or, ev_cmp, ev_cmp2, ev_ite, ev_tup, ev_lst, ev_ix, ev_sl, ev_f1, ev_f2, ev_isT, ev_call, ev_callK, evs, evo, evo', evA, callD, argsOf, PArg.arg, ownsOf, putOuts, toB, R.get, R.sto, R.flat, cmpD, ltD, leD, isND, binD, addD, subD, modD, ixD, slD, f1D, f2D, lenD, absD, intD, retR, outsOf, Arg.slot, putP, putPs, evRs, setR, okSet, subR, isOwn, putT, putTs, Lit.d, isTD, isEmp, wipeS, compF, max2D, min2D, dmD, lstD, tupD]
    exact run_ok (Nat.le_of_ble_eq_true rfl) (key p_is_history_by n rfl (by rw [q_is_history_by_0]; exact hm)) rfl rfl
  have key : ∀ (Φ : Phi) (m : Int), Φ.fn 0 [.val (.tuple H), .val (.int m)] = some (.val (.bool true), []) → bk Φ b_check_history [.val (.tuple H), .val (.int m)] = some (.nx, [.val (.tuple H), .val (.int m)]) := fun Φ m e => by
    simp [b_check_history, e, bk, st, ev_slot, ev_lit, ev_gc, ev_bin, ev_neg, ev_not, ev_and, ev_or, ev_cmp, ev_cmp2, ev_ite, ev_tup, ev_lst, ev_ix, ev_sl, ev_f1, ev_f2, ev_isT, ev_call, ev_callK, evs, evo, evo', evA, callD, argsOf, PArg.arg, ownsOf, putOuts, toB, R.get, R.sto, R.flat, cmpD, ltD, leD, isND, binD, addD, subD, modD, ixD, slD, f1D, f2D, lenD, absD, intD, retR, outsOf, Arg.slot, putP, putPs, evRs, setR, okSet, subR, isOwn, putT, putTs, Lit.d, isTD, isEmp, wipeS, compF, max2D, min2D, dmD, lstD, tupD]
  exact run_ok (Nat.le_of_ble_eq_true rfl) (key p_check_history n (by rw [q_check_history_0]; exact hh)) rfl rfl
/-! ### one event -/
inductive Stp (X : List D) : Ev → List D → Prop
  | mend {c : Nat} {t : Bool} {ms Y : List D} : m_disk_mending_by [.val (.tuple X)] = some (.val (.tuple ms), []) → m_run_by [.val (.tuple X), .val (.tuple ms), .val (.int c), .val (.bool t)] = some (.val (.tuple Y), []) → m_law_mending [.val (.tuple X)] = some (.val (.tuple ms), []) → m_law_run [.val (.tuple X), .val (.tuple ms), .val (.int c), .val (.bool t)] = some (.val (.tuple Y), []) → Stp X (.mend c t) Y
  | batch {ws : List (Nat × List Int)} {c : Nat} {t : Bool} {ms M st Y : List D} : m_mended_disk_by [.val (.tuple X)] = some (.val (.tuple M), []) → m_steps_by [.val (.tuple (ws.map wD))] = some (.val (.tuple st), []) → m_run_by [.val (.tuple M), .val (.tuple st), .val (.int c), .val (.bool t)] = some (.val (.tuple Y), []) → m_law_mending [.val (.tuple X)] = some (.val (.tuple ms), []) → m_law_run [.val (.tuple X), .val (.tuple ms), .val (.int ms.length), .val (.bool false)] = some (.val (.tuple M), []) → m_law_steps [.val (.tuple (ws.map wD))] = some (.val (.tuple st), []) → m_law_run [.val (.tuple M), .val (.tuple st), .val (.int c), .val (.bool t)] = some (.val (.tuple Y), []) → Stp X (.batch ws c t) Y
inductive Hist : List D → List Ev → List D → Prop
  | nil {X : List D} : Hist X [] X
  | cons {X Y Z : List D} {e : Ev} {es : List Ev} : Stp X e Y → Hist Y es Z → Hist X (e :: es) Z
section
variable {X ms fin : List D} (Rp : Rep X ms fin)
include Rp
theorem Rep.mby : m_disk_mending_by [.val (.tuple X)] = some (.val (.tuple ms), []) := by
  obtain ⟨h, k, r, tl, rfl, S, e1, e2, rfl⟩ := Rp
  exact disk_mending_by_ok S
theorem Rep.mdby : m_mended_disk_by [.val (.tuple X)] = some (.val (.tuple fin), []) := by
  obtain ⟨h, k, r, tl, rfl, S, e1, e2, rfl⟩ := Rp
  rw [← e1]
  exact mended_disk_by_ok S
theorem Rep.law : m_law_mending [.val (.tuple X)] = some (.val (.tuple ms), []) := by
  obtain ⟨h, k, r, tl, rfl, S, e1, e2, rfl⟩ := Rp
  exact law_mending_ok S
theorem Rep.lawfin : m_law_run [.val (.tuple X), .val (.tuple ms), .val (.int ms.length), .val (.bool false)] = some (.val (.tuple fin), []) := by
  obtain ⟨h, k, r, tl, rfl, S, e1, e2, rfl⟩ := Rp
  have rl := law_run_ok (c := (mendW (isNil h) tl).length) (t := false) (fun w hw => (mend_ok S (isNil h) w hw).1) (by have := mend_len (isNil h) S.c; omega)
  rw [runF_ge false (Nat.le_refl _), e1] at rl
  rw [List.length_map]
  exact rl
theorem Rep.disk : Disk X := by
  obtain ⟨h, k, r, tl, rfl, S, e1, e2, rfl⟩ := Rp
  exact S.d
theorem Rep.flen : fin.length = X.length := by
  obtain ⟨h, k, r, tl, rfl, S, e1, e2, rfl⟩ := Rp
  rw [← e1, setAll_len]
theorem Rep.tail {n : Nat} (hn : X.length = n) : Tail n fin ∧ fin[0]? = some (.tuple []) := by
  have fl := Rp.flen
  obtain ⟨h, r, r', _, rfl, _, S⟩ := rep_fin Rp
  refine ⟨⟨by omega, S.d.k, fun j d hj e => ?_⟩, rfl⟩
  rcases S.d.k d (List.mem_of_getElem? e) with rfl | z
  · obtain ⟨w, hw, _⟩ := S.n j hj e
    cases hw
  · exact z
theorem ev_step {n : Nat} (hn : X.length = n) {e : Ev} (ok : e.Ok n) : ∃ Y ms' fin', Stp X e Y ∧ Rep Y ms' fin' ∧ Y.length = n ∧ fin'.drop 9 = e.cont (fin.drop 9) := by
  cases e with
  | mend c t =>
    obtain ⟨Y, ms', R', yl, rb, rl⟩ := rep_run Rp c t
    exact ⟨Y, ms', fin, .mend Rp.mby rb Rp.law rl, R', by omega, rfl⟩
  | batch ws c t =>
    have B : Batch n ws := ok
    have da := Rp.disk.a
    have db := Rp.disk.b
    obtain ⟨T, Z0⟩ := Rp.tail hn
    obtain ⟨h2, k2, r2, tl2, eX, S2, eC⟩ := cut_all (by omega) (by omega) B T Z0 c t
    obtain ⟨ms2, fin2, R2, e2⟩ := sound_rep S2
    have sl := slotsW_len ws
    have hb8 := B.b
    have sm : ∀ w ∈ stepsW ws, w.1 < fin.length := fun w hw => by
      rw [T.len]
      unfold stepsW at hw
      rcases List.mem_append.mp hw with h | h
      · rcases List.mem_append.mp h with h | h
        · rcases List.mem_append.mp h with h | h
          · have := (slots_mem B (by omega) h).2.1
            omega
          · rw [List.mem_singleton.mp h]
            show 0 < n
            omega
        · exact (B.w w h).2.1
      · rw [List.mem_singleton.mp h]
        show 0 < n
        omega
    have stl : (stepsW ws).length = 2 * ws.length + 2 := by
      unfold stepsW
      simp [sl]
      omega
    have hw100 : ∀ w ∈ ws, w.2.length ≤ 100 := fun w hw => by have := (B.w w hw).2.2.2; omega
    have rb := run_by_ok (c := c) (t := t) sm
    have rl := law_run_ok (c := c) (t := t) sm (by omega)
    refine ⟨_, ms2, fin2, .batch Rp.mdby (steps_by_ok B.b hw100) rb Rp.law Rp.lawfin (law_steps_ok B.b hw100) rl, ?_, ?_, ?_⟩
    · rw [eX]
      exact R2
    · rw [runF_len, T.len]
    · rw [← e2, ← eX, eC]
      show _ = if c ≤ ws.length then fin.drop 9 else putW ws (fin.drop 9)
      split
      · rfl
      · rw [← cont_drop fin fun w hw => (B.w w hw).1]
        rfl
end
theorem hist_ok {n : Nat} : ∀ (hs : List Ev) {X ms fin : List D}, Rep X ms fin → X.length = n → (∀ e ∈ hs, e.Ok n) → ∃ Y ms' fin', Hist X hs Y ∧ Rep Y ms' fin' ∧ Y.length = n ∧ fin'.drop 9 = contAll hs (fin.drop 9)
  | [], X, ms, fin, Rp, hn, _ => ⟨X, ms, fin, .nil, Rp, hn, rfl⟩
  | e :: hs, X, ms, fin, Rp, hn, ok => by
    obtain ⟨Y, ms1, fin1, s, R1, l1, c1⟩ := ev_step Rp hn (ok e List.mem_cons_self)
    obtain ⟨Z, ms2, fin2, h, R2, l2, c2⟩ := hist_ok hs R1 l1 fun d hd => ok d (List.mem_cons_of_mem _ hd)
    refine ⟨Z, ms2, fin2, .cons s h, R2, l2, ?_⟩
    rw [c2, c1]
    rfl
/-! ### the walks over a history -/
theorem event_ok {X Y : List D} {e : Ev} (s : Stp X e Y) : m_after_disk_event [.val (.tuple X), .val e.d] = some (.val (.tuple Y), []) := by
  cases s with
  | @mend c t ms Y h1 h2 _ _ =>
    have key : ∀ (Φ : Phi) (i : Int), Φ.fn 1 [.val (.tuple X)] = some (.val (.tuple ms), []) → Φ.fn 0 [.val (.tuple X), .val (.tuple ms), .val (.int i), .val (.bool t)] = some (.val (.tuple Y), []) → bk Φ b_after_disk_event [.val (.tuple X), .val (.tuple [.str "mend", .int i, .bool t])] = some (.ret (.val (.tuple Y)), [.val (.tuple X), .val (.tuple [.str "mend", .int i, .bool t])]) := fun Φ i e1 e0 => by
      have a0 : L2.atI [PyData.str "mend", .int i, .bool t] 0 = some (.str "mend") := rfl
      have a1 : L2.atI [PyData.str "mend", .int i, .bool t] 1 = some (.int i) := rfl
      have a2 : L2.atI [PyData.str "mend", .int i, .bool t] 2 = some (.bool t) := rfl
      refine bk_ifT' (s1 := [.val (.tuple X), .val (.tuple [.str "mend", .int i, .bool t])]) ?_ (bk_ret (r := .val (.tuple Y)) ?_ rfl)
      · simp [a0, eqv_str, ev_slot, ev_lit, ev_gc, ev_bin, ev_neg, ev_not, ev_and, ev_or, ev_cmp, ev_cmp2, ev_ite, ev_tup, ev_lst, ev_ix, ev_sl, ev_f1, ev_f2, ev_isT, ev_call, ev_callK, evs, evo, evo', evA, callD, argsOf, PArg.arg, ownsOf, putOuts, toB, R.get, R.sto, R.flat, cmpD, ltD, leD, isND, binD, addD, subD, modD, ixD, slD, f1D, f2D, lenD, absD, intD, retR, outsOf, Arg.slot, putP, putPs, evRs, setR, okSet, subR, isOwn, putT, putTs, Lit.d, isTD, isEmp, wipeS, compF, max2D, min2D, dmD, lstD, tupD]
      · simp [a1, a2, e0, e1, ev_slot, ev_lit, ev_gc, ev_bin, ev_neg, ev_not, ev_and, ev_or, ev_cmp, ev_cmp2, ev_ite, ev_tup, ev_lst, ev_ix, ev_sl, ev_f1, ev_f2, ev_isT, ev_call, ev_callK, evs, evo, evo', evA, callD, argsOf, PArg.arg, ownsOf, putOuts, toB, R.get, R.sto, R.flat, cmpD, ltD, leD, isND, binD, addD, subD, modD, ixD, slD, f1D, f2D, lenD, absD, intD, retR, outsOf, Arg.slot, putP, putPs, evRs, setR, okSet, subR, isOwn, putT, putTs, Lit.d, isTD, isEmp, wipeS, compF, max2D, min2D, dmD, lstD, tupD]
    exact run_ok (Nat.le_of_ble_eq_true rfl) (key p_after_disk_event c (by rw [q_after_disk_event_1]; exact h1) (by rw [q_after_disk_event_0]; exact h2)) rfl rfl
  | @batch ws c t ms M st' Y h1 h2 h3 _ _ _ _ =>
    have key : ∀ (Φ : Phi) (T : List D) (i : Int), Φ.fn 2 [.val (.tuple X)] = some (.val (.tuple M), []) → Φ.fn 3 [.val (.tuple T)] = some (.val (.tuple st'), []) → Φ.fn 0 [.val (.tuple M), .val (.tuple st'), .val (.int i), .val (.bool t)] = some (.val (.tuple Y), []) → bk Φ b_after_disk_event [.val (.tuple X), .val (.tuple [.str "batch", .tuple T, .int i, .bool t])] = some (.ret (.val (.tuple Y)), [.val (.tuple X), .val (.tuple [.str "batch", .tuple T, .int i, .bool t])]) := fun Φ T i e2 e3 e0 => by
      have a0 : L2.atI [PyData.str "batch", .tuple T, .int i, .bool t] 0 = some (.str "batch") := rfl
      have a1 : L2.atI [PyData.str "batch", .tuple T, .int i, .bool t] 1 = some (.tuple T) := rfl
      have a2 : L2.atI [PyData.str "batch", .tuple T, .int i, .bool t] 2 = some (.int i) := rfl
      have a3 : L2.atI [PyData.str "batch", .tuple T, .int i, .bool t] 3 = some (.bool t) := rfl
      refine bk_ifF (s1 := [.val (.tuple X), .val (.tuple [.str "batch", .tuple T, .int i, .bool t])]) ?_ (bk_ret (r := .val (.tuple Y)) ?_ rfl)
      · simp [a0, batch_mend, ev_slot, ev_lit, ev_gc, ev_bin, ev_neg, ev_not, ev_and, ev_or, ev_cmp, ev_cmp2, ev_ite, ev_tup, ev_lst, ev_ix, ev_sl, ev_f1, ev_f2, ev_isT, ev_call, ev_callK, evs, evo, evo', evA, callD, argsOf, PArg.arg, ownsOf, putOuts, toB, R.get, R.sto, R.flat, cmpD, ltD, leD, isND, binD, addD, subD, modD, ixD, slD, f1D, f2D, lenD, absD, intD, retR, outsOf, Arg.slot, putP, putPs, evRs, setR, okSet, subR, isOwn, putT, putTs, Lit.d, isTD, isEmp, wipeS, compF, max2D, min2D, dmD, lstD, tupD]
      · simp [a1, a2, a3, e0, e2, e3, ev_slot, ev_lit, ev_gc, ev_bin, ev_neg, ev_not, ev_and, ev_or, ev_cmp, ev_cmp2, ev_ite, ev_tup, ev_lst, ev_ix, ev_sl, ev_f1, ev_f2, ev_isT, ev_call, ev_callK, evs, evo, evo', evA, callD, argsOf, PArg.arg, ownsOf, putOuts, toB, R.get, R.sto, R.flat, cmpD, ltD, leD, isND, binD, addD, subD, modD, ixD, slD, f1D, f2D, lenD, absD, intD, retR, outsOf, Arg.slot, putP, putPs, evRs, setR, okSet, subR, isOwn, putT, putTs, Lit.d, isTD, isEmp, wipeS, compF, max2D, min2D, dmD, lstD, tupD]
    exact run_ok (Nat.le_of_ble_eq_true rfl) (key p_after_disk_event (ws.map wD) c (by rw [q_after_disk_event_2]; exact h1) (by rw [q_after_disk_event_3]; exact h2) (by rw [q_after_disk_event_0]; exact h3)) rfl rfl
theorem after_loop {Φ : Phi} {x0 x1 : D} {X Y : List D} {hs : List Ev} (h : Hist X hs Y) (f0 : Φ.fn 0 = m_after_disk_event) : ∀ y : Mi.Slot, (∀ o zs, y ≠ .own o zs) → ∃ z, forL (fun d s => putT (.name 3) d s) (fun s => bk Φ (.cons (.asg (.name 2) (.call 0 (.v (.slot 2) (.v (.slot 3) (.nil))))) (.nil)) s) (hs.map Ev.d) [.val x0, .val x1, .val (.tuple X), y] = some (.nx, [.val x0, .val x1, .val (.tuple Y), z]) := by
  induction h with
  | nil => exact fun y _ => ⟨y, rfl⟩
  | @cons X Y Z e es s h ih =>
    intro y hy
    obtain ⟨z, ef⟩ := ih (.val e.d) nofun
    refine ⟨z, ?_⟩
    have g0 : Φ.fn 0 [.val (.tuple X), .val e.d] = some (.val (.tuple Y), []) := by
      rw [f0]
      exact event_ok s
    have e1 : putT (.name 3) e.d [.val x0, .val x1, .val (.tuple X), y] = some [.val x0, .val x1, .val (.tuple X), .val e.d] := by
      cases y <;> first | rfl | exact absurd rfl (hy _ _)
    have e2 : bk Φ (.cons (.asg (.name 2) (.call 0 (.v (.slot 2) (.v (.slot 3) (.nil))))) (.nil)) [.val x0, .val x1, .val (.tuple X), .val e.d] = some (.nx, [.val x0, .val x1, .val (.tuple Y), .val e.d]) := by
      clear f0 ih ef e1
      generalize e.d = v at g0 ⊢
      simp [g0, bk, st, ev_slot, ev_lit, ev_gc, ev_bin, ev_neg, ev_not, ev_and, ev_or, ev_cmp, ev_cmp2, ev_ite, ev_tup, ev_lst, ev_ix, ev_sl, ev_f1, ev_f2, ev_isT, ev_call, ev_callK, evs, evo, evo', evA, callD, argsOf, PArg.arg, ownsOf, putOuts, toB, R.get, R.sto, R.flat, cmpD, ltD, leD, isND, binD, addD, subD, modD, ixD, slD, f1D, f2D, lenD, absD, intD, retR, outsOf, Arg.slot, putP, putPs, evRs, setR, okSet, subR, isOwn, putT, putTs, Lit.d, isTD, isEmp, wipeS, compF, max2D, min2D, dmD, lstD, tupD]
    rw [List.map_cons]
    unfold forL
    rw [e1, Option.bind_some, e2, Option.bind_some]
    exact ef
theorem after_history_ok {X ms fin Y : List D} (Rp : Rep X ms fin) {hs : List Ev} (h : Hist X hs Y) (ok : ∀ e ∈ hs, e.Ok X.length) (hl : hs.length ≤ 40) : m_after_history [.val (.tuple X), .val (.tuple (hs.map Ev.d))] = some (.val (.tuple Y), []) := by
  have ch := check_history_ok (n := X.length) Rp.disk.b ok hl
  have cs : m_check_sound [.val (.tuple X)] = some (.val .none, []) := by
    obtain ⟨h, k, r, tl, rfl, S, e1, e2, rfl⟩ := Rp
    exact check_sound_ok S
  have ab : m_after_history_by [.val (.tuple X), .val (.tuple (hs.map Ev.d))] = some (.val (.tuple Y), []) := by
    have key : ∀ Φ : Phi, Φ.fn 0 = m_after_disk_event → ∃ z, bk Φ b_after_history_by [.val (.tuple X), .val (.tuple (hs.map Ev.d)), .emp, .emp] = some (.ret (.val (.tuple Y)), [.val (.tuple X), .val (.tuple (hs.map Ev.d)), .val (.tuple Y), z]) := fun Φ f0 => by
      obtain ⟨z, ef⟩ := after_loop (Φ := Φ) (x0 := .tuple X) (x1 := .tuple (hs.map Ev.d)) h f0 .emp nofun
      exact ⟨z, bk_asg (r := .val (.tuple X)) (s1 := [.val (.tuple X), .val (.tuple (hs.map Ev.d)), .emp, .emp]) rfl (s2 := [.val (.tuple X), .val (.tuple (hs.map Ev.d)), .val (.tuple X), .emp]) rfl (bk_forN (evI_seq rfl) ef rfl)⟩
    obtain ⟨z, e⟩ := key p_after_history_by q_after_history_by_0
    exact run_ok (Nat.le_of_ble_eq_true rfl) e rfl rfl
  generalize hs.map Ev.d = H at *
  have key : ∀ Φ : Phi, Φ.fn 0 [.val (.tuple X)] = some (.val .none, []) → Φ.fn 1 [.val (.tuple H), .val (.int X.length)] = some (.val .none, []) → Φ.fn 2 [.val (.tuple X), .val (.tuple H)] = some (.val (.tuple Y), []) → bk Φ b_after_history [.val (.tuple X), .val (.tuple H)] = some (.ret (.val (.tuple Y)), [.val (.tuple X), .val (.tuple H)]) := fun Φ e0 e1 e2 => by
    simp [b_after_history, e0, e1, e2, bk, st, ev_slot, ev_lit, ev_gc, ev_bin, ev_neg, ev_not, ev_and, ev_or, ev_cmp, ev_cmp2, ev_ite, ev_tup, ev_lst, ev_ix, ev_sl, ev_f1, ev_f2, ev_isT, ev_call, ev_callK, evs, evo, evo', evA, callD, argsOf, PArg.arg, ownsOf, putOuts, toB, R.get, R.sto, R.flat, cmpD, ltD, leD, isND, binD, addD, subD, modD, ixD, slD, f1D, f2D, lenD, absD, intD, retR, outsOf, Arg.slot, putP, putPs, evRs, setR, okSet, subR, isOwn, putT, putTs, Lit.d, isTD, isEmp, wipeS, compF, max2D, min2D, dmD, lstD, tupD]
  exact run_ok (Nat.le_of_ble_eq_true rfl) (key p_after_history (by rw [q_after_history_0]; exact cs) (by rw [q_after_history_1]; exact ch) (by rw [q_after_history_2]; exact ab)) rfl rfl
theorem law_after_loop {Φ : Phi} {x1 : D} {X Y : List D} {hs : List Ev} (h : Hist X hs Y) (f0 : Φ.fn 0 = m_law_mending) (f1 : Φ.fn 1 = m_law_run) (f2 : Φ.fn 2 = m_law_steps) : ∀ y y' : Mi.Slot, (∀ o zs, y ≠ .own o zs) → (∀ o zs, y' ≠ .own o zs) → ∃ z z', forL (fun d s => putT (.name 2) d s) (fun s => bk Φ (.cons (.asg (.name 3) (.call 0 (.v (.slot 0) (.nil)))) (.cons (.ife (.cmp .eq (.ix (.slot 2) (.lit (.int 0))) (.lit (.str "mend"))) (.cons (.asg (.name 0) (.call 1 (.v (.slot 0) (.v (.slot 3) (.v (.ix (.slot 2) (.lit (.int 1))) (.v (.ix (.slot 2) (.lit (.int 2))) (.nil))))))) (.nil)) (.cons (.asg (.name 0) (.call 1 (.v (.call 1 (.v (.slot 0) (.v (.slot 3) (.v (.f1 .len (.slot 3)) (.v (.lit (.bool false)) (.nil)))))) (.v (.call 2 (.v (.ix (.slot 2) (.lit (.int 1))) (.nil))) (.v (.ix (.slot 2) (.lit (.int 2))) (.v (.ix (.slot 2) (.lit (.int 3))) (.nil))))))) (.nil))) (.nil))) s) (hs.map Ev.d) [.val (.tuple X), .val x1, y, y'] = some (.nx, [.val (.tuple Y), .val x1, z, z']) := by
  induction h with
  | nil => exact fun y y' _ _ => ⟨y, y', rfl⟩
  | @cons X Y Z e es s h ih =>
    intro y y' hy hy'
    have st1 : ∃ mm : D, bk Φ (.cons (.asg (.name 3) (.call 0 (.v (.slot 0) (.nil)))) (.cons (.ife (.cmp .eq (.ix (.slot 2) (.lit (.int 0))) (.lit (.str "mend"))) (.cons (.asg (.name 0) (.call 1 (.v (.slot 0) (.v (.slot 3) (.v (.ix (.slot 2) (.lit (.int 1))) (.v (.ix (.slot 2) (.lit (.int 2))) (.nil))))))) (.nil)) (.cons (.asg (.name 0) (.call 1 (.v (.call 1 (.v (.slot 0) (.v (.slot 3) (.v (.f1 .len (.slot 3)) (.v (.lit (.bool false)) (.nil)))))) (.v (.call 2 (.v (.ix (.slot 2) (.lit (.int 1))) (.nil))) (.v (.ix (.slot 2) (.lit (.int 2))) (.v (.ix (.slot 2) (.lit (.int 3))) (.nil))))))) (.nil))) (.nil))) [.val (.tuple X), .val x1, .val e.d, y'] = some (.nx, [.val (.tuple Y), .val x1, .val e.d, .val mm]) := by
      clear ih
      cases s with
      | @mend c t ms Y h1 h2 h3 h4 =>
        have g0 : Φ.fn 0 [.val (.tuple X)] = some (.val (.tuple ms), []) := by rw [f0]; exact h3
        have g1 : Φ.fn 1 [.val (.tuple X), .val (.tuple ms), .val (.int c), .val (.bool t)] = some (.val (.tuple Y), []) := by rw [f1]; exact h4
        clear f0 f1 f2 h1 h2 h3 h4
        refine ⟨.tuple ms, ?_⟩
        have ed : (Ev.mend c t).d = .tuple [.str "mend", .int c, .bool t] := rfl
        rw [ed]
        generalize (c : Int) = i at g1 ⊢
        have a0 : L2.atI [PyData.str "mend", .int i, .bool t] 0 = some (.str "mend") := rfl
        have a1 : L2.atI [PyData.str "mend", .int i, .bool t] 1 = some (.int i) := rfl
        have a2 : L2.atI [PyData.str "mend", .int i, .bool t] 2 = some (.bool t) := rfl
        refine bk_asg (r := .val (.tuple ms)) (s1 := [.val (.tuple X), .val x1, .val (.tuple [.str "mend", .int i, .bool t]), y']) ?_ (s2 := [.val (.tuple X), .val x1, .val (.tuple [.str "mend", .int i, .bool t]), .val (.tuple ms)]) ?_ (bk_ifT (s1 := [.val (.tuple X), .val x1, .val (.tuple [.str "mend", .int i, .bool t]), .val (.tuple ms)]) (s2 := [.val (.tuple Y), .val x1, .val (.tuple [.str "mend", .int i, .bool t]), .val (.tuple ms)]) ?_ ?_ rfl)
        · simp [g0, ev_slot, ev_lit, ev_gc, ev_bin, ev_neg, ev_not, ev_and, ev_or, ev_cmp, ev_cmp2, ev_ite, ev_tup, ev_lst, ev_ix, ev_sl, ev_f1, ev_f2, ev_isT, ev_call, ev_callK, evs, evo, evo', evA, callD, argsOf, PArg.arg, ownsOf, putOuts, toB, R.get, R.sto, R.flat, cmpD, ltD, leD, isND, binD, addD, subD, modD, ixD, slD, f1D, f2D, lenD, absD, intD, retR, outsOf, Arg.slot, putP, putPs, evRs, setR, okSet, subR, isOwn, putT, putTs, Lit.d, isTD, isEmp, wipeS, compF, max2D, min2D, dmD, lstD, tupD]
        · cases y' <;> first | rfl | exact absurd rfl (hy' _ _)
        · simp [a0, eqv_str, ev_slot, ev_lit, ev_gc, ev_bin, ev_neg, ev_not, ev_and, ev_or, ev_cmp, ev_cmp2, ev_ite, ev_tup, ev_lst, ev_ix, ev_sl, ev_f1, ev_f2, ev_isT, ev_call, ev_callK, evs, evo, evo', evA, callD, argsOf, PArg.arg, ownsOf, putOuts, toB, R.get, R.sto, R.flat, cmpD, ltD, leD, isND, binD, addD, subD, modD, ixD, slD, f1D, f2D, lenD, absD, intD, retR, outsOf, Arg.slot, putP, putPs, evRs, setR, okSet, subR, isOwn, putT, putTs, Lit.d, isTD, isEmp, wipeS, compF, max2D, min2D, dmD, lstD, tupD]
        · simp [a1, a2, g1, bk, st, ev_slot, ev_lit, ev_gc, ev_bin, ev_neg, ev_not, ev_and, ev_or, ev_cmp, ev_cmp2, ev_ite, ev_tup, ev_lst, ev_ix, ev_sl, ev_f1, ev_f2, ev_isT, ev_call, ev_callK, evs, evo, evo', evA, callD, argsOf, PArg.arg, ownsOf, putOuts, toB, R.get, R.sto, R.flat, cmpD, ltD, leD, isND, binD, addD, subD, modD, ixD, slD, f1D, f2D, lenD, absD, intD, retR, outsOf, Arg.slot, putP, putPs, evRs, setR, okSet, subR, isOwn, putT, putTs, Lit.d, isTD, isEmp, wipeS, compF, max2D, min2D, dmD, lstD, tupD]
      | @batch ws c t ms M st' Y h1 h2 h3 h4 h5 h6 h7 =>
        have g0 : Φ.fn 0 [.val (.tuple X)] = some (.val (.tuple ms), []) := by rw [f0]; exact h4
        have g1 : Φ.fn 1 [.val (.tuple X), .val (.tuple ms), .val (.int ms.length), .val (.bool false)] = some (.val (.tuple M), []) := by rw [f1]; exact h5
        have g2 : Φ.fn 2 [.val (.tuple (ws.map wD))] = some (.val (.tuple st'), []) := by rw [f2]; exact h6
        have g1' : Φ.fn 1 [.val (.tuple M), .val (.tuple st'), .val (.int c), .val (.bool t)] = some (.val (.tuple Y), []) := by rw [f1]; exact h7
        clear f0 f1 f2 h1 h2 h3 h4 h5 h6 h7
        refine ⟨.tuple ms, ?_⟩
        have ed : (Ev.batch ws c t).d = .tuple [.str "batch", .tuple (ws.map wD), .int c, .bool t] := rfl
        rw [ed]
        generalize (c : Int) = i at g1' ⊢
        generalize ws.map wD = T at g2 ⊢
        have a0 : L2.atI [PyData.str "batch", .tuple T, .int i, .bool t] 0 = some (.str "batch") := rfl
        have a1 : L2.atI [PyData.str "batch", .tuple T, .int i, .bool t] 1 = some (.tuple T) := rfl
        have a2 : L2.atI [PyData.str "batch", .tuple T, .int i, .bool t] 2 = some (.int i) := rfl
        have a3 : L2.atI [PyData.str "batch", .tuple T, .int i, .bool t] 3 = some (.bool t) := rfl
        refine bk_asg (r := .val (.tuple ms)) (s1 := [.val (.tuple X), .val x1, .val (.tuple [.str "batch", .tuple T, .int i, .bool t]), y']) ?_ (s2 := [.val (.tuple X), .val x1, .val (.tuple [.str "batch", .tuple T, .int i, .bool t]), .val (.tuple ms)]) ?_ (bk_ifE (s1 := [.val (.tuple X), .val x1, .val (.tuple [.str "batch", .tuple T, .int i, .bool t]), .val (.tuple ms)]) (s2 := [.val (.tuple Y), .val x1, .val (.tuple [.str "batch", .tuple T, .int i, .bool t]), .val (.tuple ms)]) ?_ ?_ rfl)
        · simp [g0, ev_slot, ev_lit, ev_gc, ev_bin, ev_neg, ev_not, ev_and, ev_or, ev_cmp, ev_cmp2, ev_ite, ev_tup, ev_lst, ev_ix, ev_sl, ev_f1, ev_f2, ev_isT, ev_call, ev_callK, evs, evo, evo', evA, callD, argsOf, PArg.arg, ownsOf, putOuts, toB, R.get, R.sto, R.flat, cmpD, ltD, leD, isND, binD, addD, subD, modD, ixD, slD, f1D, f2D, lenD, absD, intD, retR, outsOf, Arg.slot, putP, putPs, evRs, setR, okSet, subR, isOwn, putT, putTs, Lit.d, isTD, isEmp, wipeS, compF, max2D, min2D, dmD, lstD, tupD]
        · cases y' <;> first | rfl | exact absurd rfl (hy' _ _)
        · simp [a0, batch_mend, ev_slot, ev_lit, ev_gc, ev_bin, ev_neg, ev_not, ev_and, ev_or, ev_cmp, ev_cmp2, ev_ite, ev_tup, ev_lst, ev_ix, ev_sl, ev_f1, ev_f2, ev_isT, ev_call, ev_callK, evs, evo, evo', evA, callD, argsOf, PArg.arg, ownsOf, putOuts, toB, R.get, R.sto, R.flat, cmpD, ltD, leD, isND, binD, addD, subD, modD, ixD, slD, f1D, f2D, lenD, absD, intD, retR, outsOf, Arg.slot, putP, putPs, evRs, setR, okSet, subR, isOwn, putT, putTs, Lit.d, isTD, isEmp, wipeS, compF, max2D, min2D, dmD, lstD, tupD]
        · simp [a1, a2, a3, g1, g2, g1', bk, st, ev_slot, ev_lit, ev_gc, ev_bin, ev_neg, ev_not, ev_and, ev_or, ev_cmp, ev_cmp2, ev_ite, ev_tup, ev_lst, ev_ix, ev_sl, ev_f1, ev_f2, ev_isT, ev_call, ev_callK, evs, evo, evo', evA, callD, argsOf, PArg.arg, ownsOf, putOuts, toB, R.get, R.sto, R.flat, cmpD, ltD, leD, isND, binD, addD, subD, modD, ixD, slD, f1D, f2D, lenD, absD, intD, retR, outsOf, Arg.slot, putP, putPs, evRs, setR, okSet, subR, isOwn, putT, putTs, Lit.d, isTD, isEmp, wipeS, compF, max2D, min2D, dmD, lstD, tupD]
    obtain ⟨mm, e2⟩ := st1
    obtain ⟨z, z', ef⟩ := ih (.val e.d) (.val mm) nofun nofun
    refine ⟨z, z', ?_⟩
    have e1 : putT (.name 2) e.d [.val (.tuple X), .val x1, y, y'] = some [.val (.tuple X), .val x1, .val e.d, y'] := by
      cases y <;> first | rfl | exact absurd rfl (hy _ _)
    rw [List.map_cons]
    unfold forL
    rw [e1, Option.bind_some, e2, Option.bind_some]
    exact ef
theorem law_after_ok {X Y : List D} {hs : List Ev} (h : Hist X hs Y) : m_law_after [.val (.tuple X), .val (.tuple (hs.map Ev.d))] = some (.val (.tuple Y), []) := by
  have key : ∀ Φ : Phi, Φ.fn 0 = m_law_mending → Φ.fn 1 = m_law_run → Φ.fn 2 = m_law_steps → ∃ z z', bk Φ b_law_after [.val (.tuple X), .val (.tuple (hs.map Ev.d)), .emp, .emp] = some (.ret (.val (.tuple Y)), [.val (.tuple Y), .val (.tuple (hs.map Ev.d)), z, z']) := fun Φ f0 f1 f2 => by
    obtain ⟨z, z', ef⟩ := law_after_loop (Φ := Φ) (x1 := .tuple (hs.map Ev.d)) h f0 f1 f2 .emp .emp nofun nofun
    exact ⟨z, z', bk_forN (evI_seq rfl) ef rfl⟩
  obtain ⟨z, z', e⟩ := key p_law_after q_law_after_0 q_law_after_1 q_law_after_2
  exact run_ok (Nat.le_of_ble_eq_true rfl) e rfl rfl
end L23

set_option maxRecDepth 100000
set_option linter.all false
set_option maxHeartbeats 4000000
namespace L23
open Mi PySem
/-! ### contents over a history -/
theorem put_loop {Φ : Phi} {c9 : E} (h9 : ∀ s, ev Φ c9 s = some (.val (.int 9), s)) {x0 x1 x3 : D} : ∀ (ws : List (Nat × List Int)) (ds : List D) (y y' : Mi.Slot), (∀ w ∈ ws, 9 ≤ w.1 ∧ w.1 - 9 < ds.length) → (∀ o zs, y ≠ .own o zs) → (∀ o zs, y' ≠ .own o zs) →
    ∃ z z', (∀ o zs, z ≠ .own o zs) ∧ (∀ o zs, z' ≠ .own o zs) ∧ forL (fun d s => putT (.tup (.cons (.name 4) (.cons (.name 5) (.nil)))) d s) (fun s => bk Φ (.cons (.asg (.sub 2 (.bin .sub (.slot 4) c9)) (.slot 5)) (.nil)) s) (ws.map wD) [.val x0, .val x1, .own false ds, .val x3, y, y'] = some (.nx, [.val x0, .val x1, .own false (putW ws ds), .val x3, z, z'])
  | [], ds, y, y', _, hy, hy' => ⟨y, y', hy, hy', rfl⟩
  | w :: ws, ds, y, y', h, hy, hy' => by
    have hw := h w List.mem_cons_self
    obtain ⟨z, z', hz, hz', e⟩ := put_loop (Φ := Φ) (x0 := x0) (x1 := x1) (x3 := x3) h9 ws (ds.set (w.1 - 9) (tI w.2)) (.val (.int w.1)) (.val (tI w.2)) (fun v hv => by rw [List.length_set]; exact h v (List.mem_cons_of_mem _ hv)) nofun nofun
    refine ⟨z, z', hz, hz', ?_⟩
    have e1 : putT (.tup (.cons (.name 4) (.cons (.name 5) (.nil)))) (wD w) [.val x0, .val x1, .own false ds, .val x3, y, y'] = some [.val x0, .val x1, .own false ds, .val x3, .val (.int w.1), .val (tI w.2)] := by
      cases y <;> cases y' <;> first | rfl | exact absurd rfl (hy _ _) | exact absurd rfl (hy' _ _)
    have e2 : bk Φ (.cons (.asg (.sub 2 (.bin .sub (.slot 4) c9)) (.slot 5)) (.nil)) [.val x0, .val x1, .own false ds, .val x3, .val (.int w.1), .val (tI w.2)] = some (.nx, [.val x0, .val x1, .own false (ds.set (w.1 - 9) (tI w.2)), .val x3, .val (.int w.1), .val (tI w.2)]) := by
      have ix := ixN_nat hw.2
      have ei : ((w.1 - 9 : Nat) : Int) = (w.1 : Int) - 9 := by omega
      rw [ei] at ix
      generalize w.1 - 9 = j at ix ⊢
      generalize (w.1 : Int) = p at ix ⊢
      generalize tI w.2 = bl
      simp [ix, h9, bk, st, ev_slot, ev_lit, ev_gc, ev_bin, ev_neg, ev_not, ev_and, ev_or, ev_cmp, ev_cmp2, ev_ite, ev_tup, ev_lst, ev_ix, ev_sl, ev_f1, ev_f2, ev_isT, ev_call, ev_callK, evs, evo, evo', evA, callD, argsOf, PArg.arg, ownsOf, putOuts, toB, R.get, R.sto, R.flat, cmpD, ltD, leD, isND, binD, addD, subD, modD, ixD, slD, f1D, f2D, lenD, absD, intD, retR, outsOf, Arg.slot, putP, putPs, evRs, setR, okSet, subR, isOwn, putT, putTs, Lit.d, isTD, isEmp, wipeS, compF, max2D, min2D, dmD, lstD, tupD]
    rw [List.map_cons]
    unfold forL
    rw [e1, Option.bind_some, e2, Option.bind_some]
    exact e
theorem told_loop {Φ : Phi} {c9 : E} (h9 : ∀ s, ev Φ c9 s = some (.val (.int 9), s)) {x0 x1 : D} {n : Nat} : ∀ (hs : List Ev) (L : List D) (y3 y4 y5 : Mi.Slot), L.length + 9 = n → (∀ e ∈ hs, e.Ok n) → (∀ o zs, y3 ≠ .own o zs) → (∀ o zs, y4 ≠ .own o zs) → (∀ o zs, y5 ≠ .own o zs) →
    ∃ z3 z4 z5, forL (fun d s => putT (.name 3) d s) (fun s => bk Φ (.cons (.ife (.and (.cmp .eq (.ix (.slot 3) (.lit (.int 0))) (.lit (.str "batch"))) (.cmp .gt (.ix (.slot 3) (.lit (.int 2))) (.f1 .len (.ix (.slot 3) (.lit (.int 1)))))) (.cons (.for_ (.tup (.cons (.name 4) (.cons (.name 5) (.nil)))) (.seq (.ix (.slot 3) (.lit (.int 1)))) (.cons (.asg (.sub 2 (.bin .sub (.slot 4) c9)) (.slot 5)) (.nil))) (.nil)) (.nil)) (.nil)) s) (hs.map Ev.d) [.val x0, .val x1, .own false L, y3, y4, y5] = some (.nx, [.val x0, .val x1, .own false (contAll hs L), z3, z4, z5])
  | [], L, y3, y4, y5, _, _, _, _, _ => ⟨y3, y4, y5, rfl⟩
  | e :: hs, L, y3, y4, y5, hl, ok, h3, h4, h5 => by
    have st1 : ∃ z4 z5, (∀ o zs, z4 ≠ .own o zs) ∧ (∀ o zs, z5 ≠ .own o zs) ∧ bk Φ (.cons (.ife (.and (.cmp .eq (.ix (.slot 3) (.lit (.int 0))) (.lit (.str "batch"))) (.cmp .gt (.ix (.slot 3) (.lit (.int 2))) (.f1 .len (.ix (.slot 3) (.lit (.int 1)))))) (.cons (.for_ (.tup (.cons (.name 4) (.cons (.name 5) (.nil)))) (.seq (.ix (.slot 3) (.lit (.int 1)))) (.cons (.asg (.sub 2 (.bin .sub (.slot 4) c9)) (.slot 5)) (.nil))) (.nil)) (.nil)) (.nil)) [.val x0, .val x1, .own false L, .val e.d, y4, y5] = some (.nx, [.val x0, .val x1, .own false (e.cont L), .val e.d, z4, z5]) := by
      have oe := ok e List.mem_cons_self
      cases e with
      | mend c t =>
        refine ⟨y4, y5, h4, h5, ?_⟩
        have ed : (Ev.mend c t).d = .tuple [.str "mend", .int c, .bool t] := rfl
        have ec : (Ev.mend c t).cont L = L := rfl
        rw [ed, ec]
        have a0 : L2.atI [PyData.str "mend", .int c, .bool t] 0 = some (.str "mend") := rfl
        refine bk_ifF (s1 := [.val x0, .val x1, .own false L, .val (.tuple [.str "mend", .int c, .bool t]), y4, y5]) ?_ rfl
        simp [a0, mend_batch, ev_slot, ev_lit, ev_gc, ev_bin, ev_neg, ev_not, ev_and, ev_or, ev_cmp, ev_cmp2, ev_ite, ev_tup, ev_lst, ev_ix, ev_sl, ev_f1, ev_f2, ev_isT, ev_call, ev_callK, evs, evo, evo', evA, callD, argsOf, PArg.arg, ownsOf, putOuts, toB, R.get, R.sto, R.flat, cmpD, ltD, leD, isND, binD, addD, subD, modD, ixD, slD, f1D, f2D, lenD, absD, intD, retR, outsOf, Arg.slot, putP, putPs, evRs, setR, okSet, subR, isOwn, putT, putTs, Lit.d, isTD, isEmp, wipeS, compF, max2D, min2D, dmD, lstD, tupD]
      | batch ws c t =>
        have ed : (Ev.batch ws c t).d = .tuple [.str "batch", .tuple (ws.map wD), .int c, .bool t] := rfl
        have B : Batch n ws := oe
        by_cases q : c ≤ ws.length
        · refine ⟨y4, y5, h4, h5, ?_⟩
          have ec : (Ev.batch ws c t).cont L = L := if_pos q
          rw [ed, ec]
          have q' : ¬ ((ws.map wD).length : Int) < (c : Int) := by rw [List.length_map]; omega
          generalize ws.map wD = T at q'
          generalize (c : Int) = i at q'
          have a0 : L2.atI [PyData.str "batch", .tuple T, .int i, .bool t] 0 = some (.str "batch") := rfl
          have a1 : L2.atI [PyData.str "batch", .tuple T, .int i, .bool t] 1 = some (.tuple T) := rfl
          have a2 : L2.atI [PyData.str "batch", .tuple T, .int i, .bool t] 2 = some (.int i) := rfl
          refine bk_ifF (s1 := [.val x0, .val x1, .own false L, .val (.tuple [.str "batch", .tuple T, .int i, .bool t]), y4, y5]) ?_ rfl
          simp [a0, a1, a2, q', eqv_str, ev_slot, ev_lit, ev_gc, ev_bin, ev_neg, ev_not, ev_and, ev_or, ev_cmp, ev_cmp2, ev_ite, ev_tup, ev_lst, ev_ix, ev_sl, ev_f1, ev_f2, ev_isT, ev_call, ev_callK, evs, evo, evo', evA, callD, argsOf, PArg.arg, ownsOf, putOuts, toB, R.get, R.sto, R.flat, cmpD, ltD, leD, isND, binD, addD, subD, modD, ixD, slD, f1D, f2D, lenD, absD, intD, retR, outsOf, Arg.slot, putP, putPs, evRs, setR, okSet, subR, isOwn, putT, putTs, Lit.d, isTD, isEmp, wipeS, compF, max2D, min2D, dmD, lstD, tupD]
        · obtain ⟨z, z', hz, hz', lp⟩ := put_loop (Φ := Φ) h9 (x0 := x0) (x1 := x1) (x3 := (Ev.batch ws c t).d) ws L y4 y5 (fun w hw => by have := B.w w hw; omega) h4 h5
          refine ⟨z, z', hz, hz', ?_⟩
          have ec : (Ev.batch ws c t).cont L = putW ws L := if_neg q
          rw [ec]
          rw [ed] at lp ⊢
          have q' : ((ws.map wD).length : Int) < (c : Int) := by rw [List.length_map]; omega
          generalize ws.map wD = T at q' lp ⊢
          generalize (c : Int) = i at q' lp ⊢
          have a0 : L2.atI [PyData.str "batch", .tuple T, .int i, .bool t] 0 = some (.str "batch") := rfl
          have a1 : L2.atI [PyData.str "batch", .tuple T, .int i, .bool t] 1 = some (.tuple T) := rfl
          have a2 : L2.atI [PyData.str "batch", .tuple T, .int i, .bool t] 2 = some (.int i) := rfl
          refine bk_ifT (s1 := [.val x0, .val x1, .own false L, .val (.tuple [.str "batch", .tuple T, .int i, .bool t]), y4, y5]) (s2 := [.val x0, .val x1, .own false (putW ws L), .val (.tuple [.str "batch", .tuple T, .int i, .bool t]), z, z']) ?_ (bk_forN (ds := T) (s1 := [.val x0, .val x1, .own false L, .val (.tuple [.str "batch", .tuple T, .int i, .bool t]), y4, y5]) (evI_seq ?_) lp rfl) rfl
          · simp [a0, a1, a2, q', eqv_str, ev_slot, ev_lit, ev_gc, ev_bin, ev_neg, ev_not, ev_and, ev_or, ev_cmp, ev_cmp2, ev_ite, ev_tup, ev_lst, ev_ix, ev_sl, ev_f1, ev_f2, ev_isT, ev_call, ev_callK, evs, evo, evo', evA, callD, argsOf, PArg.arg, ownsOf, putOuts, toB, R.get, R.sto, R.flat, cmpD, ltD, leD, isND, binD, addD, subD, modD, ixD, slD, f1D, f2D, lenD, absD, intD, retR, outsOf, Arg.slot, putP, putPs, evRs, setR, okSet, subR, isOwn, putT, putTs, Lit.d, isTD, isEmp, wipeS, compF, max2D, min2D, dmD, lstD, tupD]
          · simp [a1, ev_slot, ev_lit, ev_gc, ev_bin, ev_neg, ev_not, ev_and, ev_or, ev_cmp, ev_cmp2, ev_ite, ev_tup, ev_lst, ev_ix, ev_sl, ev_f1, ev_f2, ev_isT, ev_call, ev_callK, evs, evo, evo', evA, callD, argsOf, PArg.arg, ownsOf, putOuts, toB, R.get, R.sto, R.flat, cmpD, ltD, leD, isND, binD, addD, subD, modD, ixD, slD, f1D, f2D, lenD, absD, intD, retR, outsOf, Arg.slot, putP, putPs, evRs, setR, okSet, subR, isOwn, putT, putTs, Lit.d, isTD, isEmp, wipeS, compF, max2D, min2D, dmD, lstD, tupD]
    obtain ⟨w4, w5, k4, k5, e2⟩ := st1
    obtain ⟨z3, z4, z5, ef⟩ := told_loop (Φ := Φ) h9 (x0 := x0) (x1 := x1) (n := n) hs (e.cont L) (.val e.d) w4 w5 (by rw [cont_len]; exact hl) (fun d hd => ok d (List.mem_cons_of_mem _ hd)) nofun k4 k5
    refine ⟨z3, z4, z5, ?_⟩
    have e1 : putT (.name 3) e.d [.val x0, .val x1, .own false L, y3, y4, y5] = some [.val x0, .val x1, .own false L, .val e.d, y4, y5] := by
      cases y3 <;> first | rfl | exact absurd rfl (h3 _ _)
    rw [List.map_cons]
    unfold forL
    rw [e1, Option.bind_some, e2, Option.bind_some]
    exact ef
section
variable {n : Nat} (hn : n ≤ 70) {hs : List Ev} (ok : ∀ e ∈ hs, e.Ok n) {L : List D} (hl : L.length + 9 = n)
include hn ok hl
theorem law_counted_ok : m_law_counted [.val (.tuple L), .val (.tuple (hs.map Ev.d))] = some (.val (.tuple (contAll hs L)), []) := by
  have key : ∀ Φ : Phi, ∃ z3 z4 z5, bk Φ b_law_counted [.val (.tuple L), .val (.tuple (hs.map Ev.d)), .emp, .emp, .emp, .emp] = some (.ret (.val (.tuple (contAll hs L))), [.val (.tuple L), .val (.tuple (hs.map Ev.d)), .own false (contAll hs L), z3, z4, z5]) := fun Φ => by
    obtain ⟨z3, z4, z5, ef⟩ := told_loop (Φ := Φ) (c9 := .lit (.int 9)) (fun s => rfl) (x0 := .tuple L) (x1 := .tuple (hs.map Ev.d)) hs L .emp .emp .emp hl ok nofun nofun nofun
    exact ⟨z3, z4, z5, bk_asg (r := .new L) (s1 := [.val (.tuple L), .val (.tuple (hs.map Ev.d)), .emp, .emp, .emp, .emp]) rfl (s2 := [.val (.tuple L), .val (.tuple (hs.map Ev.d)), .own false L, .emp, .emp, .emp]) rfl (bk_forN (evI_seq rfl) ef rfl)⟩
  obtain ⟨z3, z4, z5, e⟩ := key p_law_counted
  exact run_ok (Nat.le_of_ble_eq_true rfl) e rfl rfl
theorem told_contents_ok (h2 : 2 ≤ L.length) (nb : ∀ d ∈ L, NB d) (hsl : hs.length ≤ 40) : m_told_contents [.val (.tuple L), .val (.tuple (hs.map Ev.d))] = some (.val (.tuple (contAll hs L)), []) := by
  have ch := check_history_ok hn ok hsl
  have eln : (n : Int) = (L.length : Int) + 9 := by omega
  rw [eln] at ch
  have cc : m_check_contents [.val (.tuple L)] = some (.val .none, []) := by
    have key : ∀ Φ : Phi, Φ.gc 0 = .int 60 → Φ.gc 1 = .int 90 → Φ.fn 0 [.val (.int L.length), .val (.int 2), .val (.int 61)] = some (.val (.bool true), []) → (∀ d ∈ L, Φ.fn 1 [.val d, .val (.int 0), .val (.int 90)] = some (.val (.bool true), [])) → bk Φ b_check_contents [.val (.tuple L), .emp] = some (.nx, [.val (.tuple L), .emp]) := fun Φ g0 g1 e0 e1 => by
      refine bk_ifF (s1 := [.val (.tuple L), .emp]) ?_ (bk_ifF (s1 := [.val (.tuple L), .emp]) ?_ rfl)
      · simp [g0, e0, ev_slot, ev_lit, ev_gc, ev_bin, ev_neg, ev_not, ev_and, ev_or, ev_cmp, ev_cmp2, ev_ite, ev_tup, ev_lst, ev_ix, ev_sl, ev_f1, ev_f2, ev_isT, ev_call, ev_callK, evs, evo, evo', evA, callD, argsOf, PArg.arg, ownsOf, putOuts, toB, R.get, R.sto, R.flat, cmpD, ltD, leD, isND, binD, addD, subD, modD, ixD, slD, f1D, f2D, lenD, absD, intD, retR, outsOf, Arg.slot, putP, putPs, evRs, setR, okSet, subR, isOwn, putT, putTs, Lit.d, isTD, isEmp, wipeS, compF, max2D, min2D, dmD, lstD, tupD]
      · rw [ev_not, all_comp (ds := L) rfl rfl (fun d hd => ?_) (sl_le (by omega))]
        · rfl
        · refine ⟨[.val (.tuple L), .val d], ?_, rfl⟩
          have e := e1 d hd
          simp [g1, e, ev_slot, ev_lit, ev_gc, ev_bin, ev_neg, ev_not, ev_and, ev_or, ev_cmp, ev_cmp2, ev_ite, ev_tup, ev_lst, ev_ix, ev_sl, ev_f1, ev_f2, ev_isT, ev_call, ev_callK, evs, evo, evo', evA, callD, argsOf, PArg.arg, ownsOf, putOuts, toB, R.get, R.sto, R.flat, cmpD, ltD, leD, isND, binD, addD, subD, modD, ixD, slD, f1D, f2D, lenD, absD, intD, retR, outsOf, Arg.slot, putP, putPs, evRs, setR, okSet, subR, isOwn, putT, putTs, Lit.d, isTD, isEmp, wipeS, compF, max2D, min2D, dmD, lstD, tupD]
    exact run_ok (Nat.le_of_ble_eq_true rfl) (key p_check_contents rfl rfl (by rw [q_check_contents_0]; exact between_yes (by omega) (by omega)) (fun d hd => by
      rw [q_check_contents_1]
      obtain ⟨xs, rfl, o⟩ := nb d hd
      exact are_numbers_ok (m := 90) o (by decide))) rfl rfl
  have tb : m_told_contents_by [.val (.tuple L), .val (.tuple (hs.map Ev.d))] = some (.val (.tuple (contAll hs L)), []) := by
    have key : ∀ Φ : Phi, Φ.gc 0 = .int 9 → ∃ z3 z4 z5, bk Φ b_told_contents_by [.val (.tuple L), .val (.tuple (hs.map Ev.d)), .emp, .emp, .emp, .emp] = some (.ret (.val (.tuple (contAll hs L))), [.val (.tuple L), .val (.tuple (hs.map Ev.d)), .own false (contAll hs L), z3, z4, z5]) := fun Φ g => by
      obtain ⟨z3, z4, z5, ef⟩ := told_loop (Φ := Φ) (c9 := .gc 0) (fun s => by simp [g, ev_slot, ev_lit, ev_gc, ev_bin, ev_neg, ev_not, ev_and, ev_or, ev_cmp, ev_cmp2, ev_ite, ev_tup, ev_lst, ev_ix, ev_sl, ev_f1, ev_f2, ev_isT, ev_call, ev_callK, evs, evo, evo', evA, callD, argsOf, PArg.arg, ownsOf, putOuts, toB, R.get, R.sto, R.flat, cmpD, ltD, leD, isND, binD, addD, subD, modD, ixD, slD, f1D, f2D, lenD, absD, intD, retR, outsOf, Arg.slot, putP, putPs, evRs, setR, okSet, subR, isOwn, putT, putTs, Lit.d, isTD, isEmp, wipeS, compF, max2D, min2D, dmD, lstD, tupD]) (x0 := .tuple L) (x1 := .tuple (hs.map Ev.d)) hs L .emp .emp .emp hl ok nofun nofun nofun
      exact ⟨z3, z4, z5, bk_asg (r := .new L) (s1 := [.val (.tuple L), .val (.tuple (hs.map Ev.d)), .emp, .emp, .emp, .emp]) rfl (s2 := [.val (.tuple L), .val (.tuple (hs.map Ev.d)), .own false L, .emp, .emp, .emp]) rfl (bk_forN (evI_seq rfl) ef rfl)⟩
    obtain ⟨z3, z4, z5, e⟩ := key p_told_contents_by rfl
    exact run_ok (Nat.le_of_ble_eq_true rfl) e rfl rfl
  generalize hs.map Ev.d = H at *
  generalize contAll hs L = G at *
  have key : ∀ Φ : Phi, Φ.gc 0 = .int 9 → Φ.fn 0 [.val (.tuple L)] = some (.val .none, []) → Φ.fn 1 [.val (.tuple H), .val (.int ((L.length : Int) + 9))] = some (.val .none, []) → Φ.fn 2 [.val (.tuple L), .val (.tuple H)] = some (.val (.tuple G), []) → bk Φ b_told_contents [.val (.tuple L), .val (.tuple H)] = some (.ret (.val (.tuple G)), [.val (.tuple L), .val (.tuple H)]) := fun Φ g e0 e1 e2 => by
    simp [b_told_contents, g, e0, e1, e2, bk, st, ev_slot, ev_lit, ev_gc, ev_bin, ev_neg, ev_not, ev_and, ev_or, ev_cmp, ev_cmp2, ev_ite, ev_tup, ev_lst, ev_ix, ev_sl, ev_f1, ev_f2, ev_isT, ev_call, ev_callK, evs, evo, evo', evA, callD, argsOf, PArg.arg, ownsOf, putOuts, toB, R.get, R.sto, R.flat, cmpD, ltD, leD, isND, binD, addD, subD, modD, ixD, slD, f1D, f2D, lenD, absD, intD, retR, outsOf, Arg.slot, putP, putPs, evRs, setR, okSet, subR, isOwn, putT, putTs, Lit.d, isTD, isEmp, wipeS, compF, max2D, min2D, dmD, lstD, tupD]
  exact run_ok (Nat.le_of_ble_eq_true rfl) (key p_told_contents rfl (by rw [q_told_contents_0]; exact cc) (by rw [q_told_contents_1]; exact ch) (by rw [q_told_contents_2]; exact tb)) rfl rfl
end
/-! ### a drawn history -/
theorem law_history_bk {Φ : Phi} (f0 : Φ.fn 0 = m_law_draw) (f1 : Φ.fn 1 = m_law_batch) (a b c : Int) {n : Nat} (h11 : 11 ≤ n) (h70 : n ≤ 70) : ∃ (a' b' c' : Int) (hs : List Ev) (rest : List Mi.Slot), hs.length ≤ 40 ∧ (∀ e ∈ hs, e.Ok n) ∧ bk Φ b_law_history [.own true (W a b c), .val (.int n), .emp, .emp, .emp, .emp, .emp] = some (.ret (.val (.tuple (hs.map Ev.d))), .own true (W a' b' c') :: .val (.int n) :: rest) := by
  have hz0 : (0 : Nat) ≤ sizeLine := Nat.zero_le _
  have hz2 : (2 : Nat) ≤ sizeLine := sl_le (by decide)
  have hz3 : (3 : Nat) ≤ sizeLine := sl_le (by decide)
  have hz4 : (4 : Nat) ≤ sizeLine := sl_le (by decide)
  obtain ⟨ni, hni⟩ : ∃ ni : Int, (n : Int) = ni := ⟨_, rfl⟩
  have many : ∃ (a' b' c' : Int) (j : Int), 0 ≤ j ∧ j ≤ 40 ∧ ev Φ (.ite (.cmp .eq (.call 0 (.m 0 (.v (.lit (.int 40)) (.nil)))) (.lit (.int 0))) (.lit (.int 40)) (.call 0 (.m 0 (.v (.lit (.int 9)) (.nil))))) [.own true (W a b c), .val (.int ni), .own false [], .emp, .emp, .emp, .emp] = some (.val (.int j), [.own true (W a' b' c'), .val (.int ni), .own false [], .emp, .emp, .emp, .emp]) := by
    obtain ⟨a1, b1, c1, r, r0, r1, e1⟩ := draw_ok a b c (n := 40) (by decide) (by decide)
    by_cases q : r = 0
    · subst q
      exact ⟨a1, b1, c1, 40, by decide, by decide, by simp [f0, e1, eqq_int, ev_slot, ev_lit, ev_gc, ev_bin, ev_neg, ev_not, ev_and, ev_or, ev_cmp, ev_cmp2, ev_ite, ev_tup, ev_lst, ev_ix, ev_sl, ev_f1, ev_f2, ev_isT, ev_call, ev_callK, evs, evo, evo', evA, callD, argsOf, PArg.arg, ownsOf, putOuts, toB, R.get, R.sto, R.flat, cmpD, ltD, leD, isND, binD, addD, subD, modD, ixD, slD, f1D, f2D, lenD, absD, intD, retR, outsOf, Arg.slot, putP, putPs, evRs, setR, okSet, subR, isOwn, putT, putTs, Lit.d, isTD, isEmp, wipeS, compF, max2D, min2D, dmD, lstD, tupD]⟩
    · obtain ⟨a2, b2, c2, s, s0, s1, e2⟩ := draw_ok a1 b1 c1 (n := 9) (by decide) (by decide)
      exact ⟨a2, b2, c2, s, s0, by omega, by simp [f0, e1, e2, q, eqq_int, ev_slot, ev_lit, ev_gc, ev_bin, ev_neg, ev_not, ev_and, ev_or, ev_cmp, ev_cmp2, ev_ite, ev_tup, ev_lst, ev_ix, ev_sl, ev_f1, ev_f2, ev_isT, ev_call, ev_callK, evs, evo, evo', evA, callD, argsOf, PArg.arg, ownsOf, putOuts, toB, R.get, R.sto, R.flat, cmpD, ltD, leD, isND, binD, addD, subD, modD, ixD, slD, f1D, f2D, lenD, absD, intD, retR, outsOf, Arg.slot, putP, putPs, evRs, setR, okSet, subR, isOwn, putT, putTs, Lit.d, isTD, isEmp, wipeS, compF, max2D, min2D, dmD, lstD, tupD]⟩
  obtain ⟨a1, b1, c1, j, j0, j40, ej⟩ := many
  obtain ⟨N, rfl⟩ := Int.eq_ofNat_of_zero_le j0
  obtain ⟨s', ef, a', b', c', hs, y3, y4, y5, y6, rfl, hl, ok, _⟩ := forL_inv (put := fun d s => putT (.name 3) d s) (body := fun s => bk Φ (.cons (.par [.name 5, .name 6] [(.cmp .eq (.call 0 (.m 0 (.v (.lit (.int 2)) (.nil)))) (.lit (.int 0))), (.call 1 (.m 0 (.v (.slot 1) (.v (.lit (.int 4)) (.nil)))))]) (.cons (.asg (.name 4) (.call 0 (.m 0 (.v (.bin .add (.bin .mul (.lit (.int 2)) (.f1 .len (.slot 6))) (.lit (.int 4))) (.nil))))) (.cons (.ife (.cmp .eq (.call 0 (.m 0 (.v (.lit (.int 16)) (.nil)))) (.lit (.int 0))) (.cons (.asg (.name 4) (.lit (.int 4000))) (.nil)) (.nil)) (.cons (.app 2 (.ite (.cmp .eq (.call 0 (.m 0 (.v (.lit (.int 3)) (.nil)))) (.lit (.int 0))) (.tup (.cons (.lit (.str "mend")) (.cons (.slot 4) (.cons (.slot 5) (.nil))))) (.tup (.cons (.lit (.str "batch")) (.cons (.slot 6) (.cons (.slot 4) (.cons (.slot 5) (.nil)))))))) (.nil))))) s) (rgD 0 N)
    (fun i s => ∃ (a' b' c' : Int) (hs : List Ev) (y3 y4 y5 y6 : Mi.Slot), s = [.own true (W a' b' c'), .val (.int ni), .own false (hs.map Ev.d), y3, y4, y5, y6] ∧ hs.length = i ∧ (∀ e ∈ hs, e.Ok n) ∧ (∀ o zs, y3 ≠ .own o zs) ∧ (∀ o zs, y4 ≠ .own o zs) ∧ (∀ o zs, y5 ≠ .own o zs) ∧ ∀ o zs, y6 ≠ .own o zs) (by
      rintro i d s hd ⟨a', b', c', hs, y3, y4, y5, y6, rfl, hl, ok, h3, h4, h5, h6⟩
      have hi : i < N := by
        have := (List.getElem?_eq_some_iff.mp hd).1
        rw [rgD_len] at this
        exact this
      obtain ⟨a2, b2, c2, r, r0, r1, e2⟩ := draw_ok a' b' c' (n := 2) (by decide) (by decide)
      obtain ⟨a3, b3, c3, ws, B, e3⟩ := batch_ok a2 b2 c2 h11 h70 (most := 4) (by decide) (by decide)
      have wa := B.a
      have wb := B.b
      have wl : (ws.map wD).length = ws.length := List.length_map _
      obtain ⟨a4, b4, c4, u, u0, u1, e4⟩ := draw_ok a3 b3 c3 (n := 2 * (ws.length : Int) + 4) (by omega) (by omega)
      obtain ⟨U, rfl⟩ := Int.eq_ofNat_of_zero_le u0
      obtain ⟨a5, b5, c5, v, v0, v1, e5⟩ := draw_ok a4 b4 c4 (n := 16) (by decide) (by decide)
      obtain ⟨a6, b6, c6, x, x0, x1, e6⟩ := draw_ok a5 b5 c5 (n := 3) (by decide) (by decide)
      obtain ⟨t, ht⟩ : ∃ t : Bool, decide (r = 0) = t := ⟨_, rfl⟩
      obtain ⟨cu, hcu⟩ : ∃ cu : Nat, (if v = 0 then 4000 else U) = cu := ⟨_, rfl⟩
      rw [hni] at e3
      have hsz : (hs.map Ev.d).length < sizeLine := by
        rw [List.length_map]
        exact sl_le (show hs.length + 1 ≤ 2000 by omega)
      obtain ⟨e, he, ee⟩ : ∃ e : Ev, e.Ok n ∧ (if x = 0 then Ev.mend cu t else Ev.batch ws cu t) = e := ⟨_, by split; exact trivial; exact B, rfl⟩
      refine ⟨[.own true (W a' b' c'), .val (.int ni), .own false (hs.map Ev.d), .val d, y4, y5, y6], [.own true (W a6 b6 c6), .val (.int ni), .own false ((hs ++ [e]).map Ev.d), .val d, .val (.int cu), .val (.bool t), .val (.tuple (ws.map wD))], ?_, ?_, ⟨a6, b6, c6, hs ++ [e], _, _, _, _, rfl, by rw [List.length_append, hl]; rfl, fun z hz => ?_, nofun, nofun, nofun, nofun⟩⟩
      · cases y3 <;> first | rfl | exact absurd rfl (h3 _ _)
      · have ed : (hs ++ [e]).map Ev.d = hs.map Ev.d ++ [e.d] := by rw [List.map_append]; rfl
        rw [ed]
        have eed : e.d = if x = 0 then .tuple [.str "mend", .int cu, .bool t] else .tuple [.str "batch", .tuple (ws.map wD), .int cu, .bool t] := by
          rw [← ee]
          split <;> rfl
        rw [eed]
        rw [← wl] at e4
        generalize hs.map Ev.d = H at hsz ⊢
        generalize ws.map wD = T at e3 e4 ⊢
        have e3 : m_law_batch [.own (W a2 b2 c2), .val (.int ni), .val (.int 4)] = some (.val (.tuple T), [W a3 b3 c3]) := e3
        refine bk_par (rs := [.val (.bool t), .val (.tuple T)]) (s1 := [.own true (W a3 b3 c3), .val (.int ni), .own false H, .val d, y4, y5, y6]) hz2 ?_ (s2 := [.own true (W a3 b3 c3), .val (.int ni), .own false H, .val d, y4, .val (.bool t), .val (.tuple T)]) ?_ ?_
        · rw [← ht]
          simp [f0, f1, e2, e3, eqq_int, ev_slot, ev_lit, ev_gc, ev_bin, ev_neg, ev_not, ev_and, ev_or, ev_cmp, ev_cmp2, ev_ite, ev_tup, ev_lst, ev_ix, ev_sl, ev_f1, ev_f2, ev_isT, ev_call, ev_callK, evs, evo, evo', evA, callD, argsOf, PArg.arg, ownsOf, putOuts, toB, R.get, R.sto, R.flat, cmpD, ltD, leD, isND, binD, addD, subD, modD, ixD, slD, f1D, f2D, lenD, absD, intD, retR, outsOf, Arg.slot, putP, putPs, evRs, setR, okSet, subR, isOwn, putT, putTs, Lit.d, isTD, isEmp, wipeS, compF, max2D, min2D, dmD, lstD, tupD]
        · cases y5 <;> cases y6 <;> first | rfl | exact absurd rfl (h5 _ _) | exact absurd rfl (h6 _ _)
        have mu := mulD_l (i := 2) (j := (T.length : Int)) (by decide) (by decide)
        refine bk_asg (r := .val (.int U)) (s1 := [.own true (W a4 b4 c4), .val (.int ni), .own false H, .val d, y4, .val (.bool t), .val (.tuple T)]) ?_ (s2 := [.own true (W a4 b4 c4), .val (.int ni), .own false H, .val d, .val (.int U), .val (.bool t), .val (.tuple T)]) ?_ ?_
        · generalize (U : Int) = ui at e4 ⊢
          simp [mu, f0, e4, ev_slot, ev_lit, ev_gc, ev_bin, ev_neg, ev_not, ev_and, ev_or, ev_cmp, ev_cmp2, ev_ite, ev_tup, ev_lst, ev_ix, ev_sl, ev_f1, ev_f2, ev_isT, ev_call, ev_callK, evs, evo, evo', evA, callD, argsOf, PArg.arg, ownsOf, putOuts, toB, R.get, R.sto, R.flat, cmpD, ltD, leD, isND, binD, addD, subD, modD, ixD, slD, f1D, f2D, lenD, absD, intD, retR, outsOf, Arg.slot, putP, putPs, evRs, setR, okSet, subR, isOwn, putT, putTs, Lit.d, isTD, isEmp, wipeS, compF, max2D, min2D, dmD, lstD, tupD]
        · cases y4 <;> first | rfl | exact absurd rfl (h4 _ _)
        have nx : ∀ o, bk Φ (.cons (.app 2 (.ite (.cmp .eq (.call 0 (.m 0 (.v (.lit (.int 3)) (.nil)))) (.lit (.int 0))) (.tup (.cons (.lit (.str "mend")) (.cons (.slot 4) (.cons (.slot 5) (.nil))))) (.tup (.cons (.lit (.str "batch")) (.cons (.slot 6) (.cons (.slot 4) (.cons (.slot 5) (.nil)))))))) (.nil)) [.own true (W a5 b5 c5), .val (.int ni), .own false H, .val d, .val (.int cu), .val (.bool t), .val (.tuple T)] = o → bk Φ (.cons (.ife (.cmp .eq (.call 0 (.m 0 (.v (.lit (.int 16)) (.nil)))) (.lit (.int 0))) (.cons (.asg (.name 4) (.lit (.int 4000))) (.nil)) (.nil)) (.cons (.app 2 (.ite (.cmp .eq (.call 0 (.m 0 (.v (.lit (.int 3)) (.nil)))) (.lit (.int 0))) (.tup (.cons (.lit (.str "mend")) (.cons (.slot 4) (.cons (.slot 5) (.nil))))) (.tup (.cons (.lit (.str "batch")) (.cons (.slot 6) (.cons (.slot 4) (.cons (.slot 5) (.nil)))))))) (.nil))) [.own true (W a4 b4 c4), .val (.int ni), .own false H, .val d, .val (.int U), .val (.bool t), .val (.tuple T)] = o := fun o ho => by
          by_cases q : v = 0
          · rw [if_pos q] at hcu
            subst hcu
            subst q
            refine bk_ifT (s1 := [.own true (W a5 b5 c5), .val (.int ni), .own false H, .val d, .val (.int U), .val (.bool t), .val (.tuple T)]) (s2 := [.own true (W a5 b5 c5), .val (.int ni), .own false H, .val d, .val (.int ((4000 : Nat) : Int)), .val (.bool t), .val (.tuple T)]) ?_ rfl ho
            generalize (U : Int) = ui
            simp [f0, e5, eqq_int, ev_slot, ev_lit, ev_gc, ev_bin, ev_neg, ev_not, ev_and, ev_or, ev_cmp, ev_cmp2, ev_ite, ev_tup, ev_lst, ev_ix, ev_sl, ev_f1, ev_f2, ev_isT, ev_call, ev_callK, evs, evo, evo', evA, callD, argsOf, PArg.arg, ownsOf, putOuts, toB, R.get, R.sto, R.flat, cmpD, ltD, leD, isND, binD, addD, subD, modD, ixD, slD, f1D, f2D, lenD, absD, intD, retR, outsOf, Arg.slot, putP, putPs, evRs, setR, okSet, subR, isOwn, putT, putTs, Lit.d, isTD, isEmp, wipeS, compF, max2D, min2D, dmD, lstD, tupD]
          · rw [if_neg q] at hcu
            subst hcu
            refine bk_ifF (s1 := [.own true (W a5 b5 c5), .val (.int ni), .own false H, .val d, .val (.int U), .val (.bool t), .val (.tuple T)]) ?_ ho
            generalize (U : Int) = ui
            simp [f0, e5, q, eqq_int, ev_slot, ev_lit, ev_gc, ev_bin, ev_neg, ev_not, ev_and, ev_or, ev_cmp, ev_cmp2, ev_ite, ev_tup, ev_lst, ev_ix, ev_sl, ev_f1, ev_f2, ev_isT, ev_call, ev_callK, evs, evo, evo', evA, callD, argsOf, PArg.arg, ownsOf, putOuts, toB, R.get, R.sto, R.flat, cmpD, ltD, leD, isND, binD, addD, subD, modD, ixD, slD, f1D, f2D, lenD, absD, intD, retR, outsOf, Arg.slot, putP, putPs, evRs, setR, okSet, subR, isOwn, putT, putTs, Lit.d, isTD, isEmp, wipeS, compF, max2D, min2D, dmD, lstD, tupD]
        refine nx _ ?_
        generalize (cu : Int) = ci
        by_cases q : x = 0
        · rw [if_pos q]
          subst q
          refine bk_app (p := false) (xs := H) (d := .tuple [.str "mend", .int ci, .bool t]) (r := .val (.tuple [.str "mend", .int ci, .bool t])) (s1 := [.own true (W a6 b6 c6), .val (.int ni), .own false H, .val d, .val (.int ci), .val (.bool t), .val (.tuple T)]) rfl ?_ rfl rfl hsz rfl
          simp [f0, e6, eqq_int, hz3, ev_slot, ev_lit, ev_gc, ev_bin, ev_neg, ev_not, ev_and, ev_or, ev_cmp, ev_cmp2, ev_ite, ev_tup, ev_lst, ev_ix, ev_sl, ev_f1, ev_f2, ev_isT, ev_call, ev_callK, evs, evo, evo', evA, callD, argsOf, PArg.arg, ownsOf, putOuts, toB, R.get, R.sto, R.flat, cmpD, ltD, leD, isND, binD, addD, subD, modD, ixD, slD, f1D, f2D, lenD, absD, intD, retR, outsOf, Arg.slot, putP, putPs, evRs, setR, okSet, subR, isOwn, putT, putTs, Lit.d, isTD, isEmp, wipeS, compF, max2D, min2D, dmD, lstD, tupD]
        · rw [if_neg q]
          refine bk_app (p := false) (xs := H) (d := .tuple [.str "batch", .tuple T, .int ci, .bool t]) (r := .val (.tuple [.str "batch", .tuple T, .int ci, .bool t])) (s1 := [.own true (W a6 b6 c6), .val (.int ni), .own false H, .val d, .val (.int ci), .val (.bool t), .val (.tuple T)]) rfl ?_ rfl rfl hsz rfl
          simp [f0, e6, q, eqq_int, hz4, ev_slot, ev_lit, ev_gc, ev_bin, ev_neg, ev_not, ev_and, ev_or, ev_cmp, ev_cmp2, ev_ite, ev_tup, ev_lst, ev_ix, ev_sl, ev_f1, ev_f2, ev_isT, ev_call, ev_callK, evs, evo, evo', evA, callD, argsOf, PArg.arg, ownsOf, putOuts, toB, R.get, R.sto, R.flat, cmpD, ltD, leD, isND, binD, addD, subD, modD, ixD, slD, f1D, f2D, lenD, absD, intD, retR, outsOf, Arg.slot, putP, putPs, evRs, setR, okSet, subR, isOwn, putT, putTs, Lit.d, isTD, isEmp, wipeS, compF, max2D, min2D, dmD, lstD, tupD]
      · rcases List.mem_append.mp hz with z1 | z1
        · exact ok z z1
        · rw [List.mem_singleton.mp z1]
          exact he) 0 [.own true (W a1 b1 c1), .val (.int ni), .own false [], .emp, .emp, .emp, .emp] (Nat.zero_le _) ⟨a1, b1, c1, [], .emp, .emp, .emp, .emp, rfl, rfl, nofun, nofun, nofun, nofun, nofun⟩
  rw [List.drop_zero] at ef
  rw [rgD_len] at hl
  rw [hni]
  refine ⟨a', b', c', hs, [.own false (hs.map Ev.d), y3, y4, y5, y6], by omega, ok, ?_⟩
  refine bk_asg (r := .new []) (s1 := [.own true (W a b c), .val (.int ni), .emp, .emp, .emp, .emp, .emp]) ?_ (s2 := [.own true (W a b c), .val (.int ni), .own false [], .emp, .emp, .emp, .emp]) rfl (bk_forN (evI_rng0 ej (by omega) (by omega)) (by rw [Int.toNat_natCast]; exact ef) rfl)
  simp [hz0, ev_slot, ev_lit, ev_gc, ev_bin, ev_neg, ev_not, ev_and, ev_or, ev_cmp, ev_cmp2, ev_ite, ev_tup, ev_lst, ev_ix, ev_sl, ev_f1, ev_f2, ev_isT, ev_call, ev_callK, evs, evo, evo', evA, callD, argsOf, PArg.arg, ownsOf, putOuts, toB, R.get, R.sto, R.flat, cmpD, ltD, leD, isND, binD, addD, subD, modD, ixD, slD, f1D, f2D, lenD, absD, intD, retR, outsOf, Arg.slot, putP, putPs, evRs, setR, okSet, subR, isOwn, putT, putTs, Lit.d, isTD, isEmp, wipeS, compF, max2D, min2D, dmD, lstD, tupD]
theorem law_history_ok (a b c : Int) {n : Nat} (h11 : 11 ≤ n) (h70 : n ≤ 70) : ∃ (a' b' c' : Int) (hs : List Ev), hs.length ≤ 40 ∧ (∀ e ∈ hs, e.Ok n) ∧ m_law_history [.own (W a b c), .val (.int n)] = some (.val (.tuple (hs.map Ev.d)), [W a' b' c']) := by
  obtain ⟨a', b', c', hs, rest, h1, h2, e⟩ := law_history_bk q_law_history_0 q_law_history_1 a b c h11 h70
  exact ⟨a', b', c', hs, h1, h2, run_ok (Nat.le_of_ble_eq_true rfl) e rfl rfl⟩
end L23

set_option maxRecDepth 100000
set_option linter.all false
set_option maxHeartbeats 4000000
namespace L23
open Mi PySem
section
variable {X ms fin : List D} (Rp : Rep X ms fin)
include Rp
theorem Rep.sound : m_is_sound [.val (.tuple X)] = some (.val (.bool true), []) := by
  obtain ⟨h, k, r, tl, rfl, S, e1, e2, rfl⟩ := Rp
  exact is_sound_ok S
theorem Rep.cont : m_contents [.val (.tuple X)] = some (.val (.tuple (fin.drop 9)), []) := by
  obtain ⟨h, k, r, tl, rfl, S, e1, e2, rfl⟩ := Rp
  rw [← e2]
  exact contents_ok S
theorem Rep.sm : Sm 2 6400 (.tuple X) := sm_disk Rp.disk.k Rp.disk.b
theorem Rep.finD : Disk fin := by
  obtain ⟨h, r, r', _, rfl, _, S⟩ := rep_fin Rp
  exact S.d
theorem Rep.smDr : Sm 2 6400 (.tuple (fin.drop 9)) := sm_disk (fun d hd => Rp.finD.k d (List.mem_of_mem_drop hd)) (by rw [List.length_drop]; have := Rp.finD.b; omega)
end
theorem many_list {xs : List D} {k : Int} (h : -(2 ^ 63) ≤ k ∧ k < 2 ^ 63 ∧ xs.length * k.toNat ≤ sizeLine) : mulD (.list xs) (.int k) = some (.new (List.replicate k.toNat xs).flatten) := if_pos h
theorem twice {Y : D} : mulD (.list [Y]) (.int 2) = some (.new [Y, Y]) := many_list (k := 2) ⟨by decide, by decide, sl_le (show 1 * 2 ≤ 2000 by decide)⟩
theorem thrice {Y : D} : mulD (.list [Y]) (.int 3) = some (.new [Y, Y, Y]) := many_list (k := 3) ⟨by decide, by decide, sl_le (show 1 * 3 ≤ 2000 by decide)⟩
theorem right_ok (a b c : Int) : ∃ o, m_law_right [.own (W a b c)] = some (.val (.bool true), [o]) := by
  obtain ⟨a1, b1, c1, r1, r10, r11, e1⟩ := draw_ok a b c (n := 3) (by decide) (by decide)
  obtain ⟨mo, hmo, mo2, mo50⟩ : ∃ mo : Int, (if r1 = 0 then 9 else 3) = mo ∧ 2 ≤ mo ∧ mo ≤ 50 := ⟨_, rfl, by split <;> decide, by split <;> decide⟩
  obtain ⟨a2, b2, c2, h, k, r, tl, S, e2⟩ := law_sound_ok a1 b1 c1 (most := mo) mo2 mo50
  obtain ⟨ms, fin, Rp, ed⟩ := sound_rep S
  have la := law_laid_ok S
  rw [ed] at la
  obtain ⟨n, hn⟩ : ∃ n, (h :: r).length = n := ⟨_, rfl⟩
  have h11 := S.d.a
  have h70 := S.d.b
  obtain ⟨a3, b3, c3, hs, hsl, ok, e3⟩ := law_history_ok a2 b2 c2 (n := n) (by omega) (by omega)
  obtain ⟨Y, ms', fin', H, R', yl, dr'⟩ := hist_ok hs Rp hn ok
  obtain ⟨T, _⟩ := Rp.tail hn
  have x1 := after_history_ok Rp H (by rw [hn]; exact ok) hsl
  have x2 := law_after_ok H
  have dl : (fin.drop 9).length + 9 = n := by
    rw [List.length_drop, T.len]
    omega
  have nb : ∀ d ∈ fin.drop 9, NB d := fun d hd => by
    obtain ⟨j, hj⟩ := List.mem_iff_getElem?.mp hd
    rw [List.getElem?_drop] at hj
    exact T.nb (9 + j) d (by omega) hj
  have x3 := law_counted_ok (n := n) (by omega) ok dl
  have x4 := told_contents_ok (n := n) (by omega) ok dl (by omega) nb hsl
  have x5 := R'.cont
  rw [dr'] at x5
  have x6 := R'.sound
  have sY := R'.sm
  have sC := R'.smDr
  rw [dr'] at sC
  have s1 := (Rp.sm.sh (by decide) (by decide)).re
  have s2 : Sh (.list [.tuple Y, .tuple Y]) := (Sm.lst (e := 2) (b := 6400) (n := 2) (ds := [.tuple Y, .tuple Y]) (fun d z => by
    simp only [List.mem_cons, List.mem_nil_iff, or_false, or_self] at z
    rw [z]
    exact sY) (by simp)).sh (by decide) (by decide)
  have s3 : Sh (.list [.tuple (contAll hs (fin.drop 9)), .tuple (contAll hs (fin.drop 9)), .tuple (contAll hs (fin.drop 9))]) := (Sm.lst (e := 2) (b := 6400) (n := 3) (ds := [.tuple (contAll hs (fin.drop 9)), .tuple (contAll hs (fin.drop 9)), .tuple (contAll hs (fin.drop 9))]) (fun d z => by
    simp only [List.mem_cons, List.mem_nil_iff, or_false, or_self] at z
    rw [z]
    exact sC) (by simp)).sh (by decide) (by decide)
  have s2 := s2.re
  have s3 := s3.re
  clear H R' Rp S T nb dl sY sC dr'
  rw [← hn] at e3
  generalize hs.map Ev.d = E' at *
  generalize contAll hs (fin.drop 9) = G at *
  generalize fin.drop 9 = L at *
  generalize h :: r = X at *
  generalize (PyData.list [.tuple Y, .tuple Y]).shown = t2 at s2
  generalize (PyData.list [.tuple G, .tuple G, .tuple G]).shown = t3 at s3
  generalize (PyData.tuple X).shown = t1 at s1
  have hz2 : (2 : Nat) ≤ sizeLine := sl_le (by decide)
  have hz1 : (1 : Nat) ≤ sizeLine := sl_le (by decide)
  have hz3 : (3 : Nat) ≤ sizeLine := sl_le (by decide)
  have key : ∀ Φ : Phi, Φ.fn 0 [.own (W a1 b1 c1), .val (.int mo)] = some (.val (.tuple X), [W a2 b2 c2]) → Φ.fn 1 [.own (W a b c), .val (.int 3)] = some (.val (.int r1), [W a1 b1 c1]) → Φ.fn 2 [.own (W a2 b2 c2), .val (.int X.length)] = some (.val (.tuple E'), [W a3 b3 c3]) → Φ.fn 3 [.val (.tuple X)] = some (.val (.tuple L), []) → Φ.fn 4 [.val (.tuple X), .val (.tuple E')] = some (.val (.tuple Y), []) → Φ.fn 5 [.val (.tuple X), .val (.tuple E')] = some (.val (.tuple Y), []) → Φ.fn 6 [.val (.tuple L), .val (.tuple E')] = some (.val (.tuple G), []) → Φ.fn 7 [.val (.tuple L), .val (.tuple E')] = some (.val (.tuple G), []) → Φ.fn 8 [.val (.tuple Y)] = some (.val (.tuple G), []) → Φ.fn 9 [.val (.tuple Y)] = some (.val (.bool true), []) →
      ∃ rest, bk Φ b_law_right [.own true (W a b c), .emp, .emp, .emp, .emp, .emp, .emp, .emp] = some (.ret (.val (.bool true)), .own true (W a3 b3 c3) :: rest) := fun Φ g0 g1 g2 g3 g4 g5 g6 g7 g8 g9 => by
    refine ⟨[.val (.tuple X), .val (.tuple G), .own false [.tuple G, .tuple G, .tuple G], .val (.str t1), .val (.tuple E'), .val (.tuple L), .val (.tuple Y)], ?_⟩
    refine bk_asg (r := .val (.tuple X)) (s1 := [.own true (W a2 b2 c2), .emp, .emp, .emp, .emp, .emp, .emp, .emp]) ?_ (s2 := [.own true (W a2 b2 c2), .val (.tuple X), .emp, .emp, .emp, .emp, .emp, .emp]) rfl ?_
    · by_cases q : r1 = 0
      · rw [if_pos q] at hmo
        subst hmo
        simp [g1, g0, q, eqq_int, ev_slot, ev_lit, ev_gc, ev_bin, ev_neg, ev_not, ev_and, ev_or, ev_cmp, ev_cmp2, ev_ite, ev_tup, ev_lst, ev_ix, ev_sl, ev_f1, ev_f2, ev_isT, ev_call, ev_callK, evs, evo, evo', evA, callD, argsOf, PArg.arg, ownsOf, putOuts, toB, R.get, R.sto, R.flat, cmpD, ltD, leD, isND, binD, addD, subD, modD, ixD, slD, f1D, f2D, lenD, absD, intD, retR, outsOf, Arg.slot, putP, putPs, evRs, setR, okSet, subR, isOwn, putT, putTs, Lit.d, isTD, isEmp, wipeS, compF, max2D, min2D, dmD, lstD, tupD]
      · rw [if_neg q] at hmo
        subst hmo
        simp [g1, g0, q, eqq_int, ev_slot, ev_lit, ev_gc, ev_bin, ev_neg, ev_not, ev_and, ev_or, ev_cmp, ev_cmp2, ev_ite, ev_tup, ev_lst, ev_ix, ev_sl, ev_f1, ev_f2, ev_isT, ev_call, ev_callK, evs, evo, evo', evA, callD, argsOf, PArg.arg, ownsOf, putOuts, toB, R.get, R.sto, R.flat, cmpD, ltD, leD, isND, binD, addD, subD, modD, ixD, slD, f1D, f2D, lenD, absD, intD, retR, outsOf, Arg.slot, putP, putPs, evRs, setR, okSet, subR, isOwn, putT, putTs, Lit.d, isTD, isEmp, wipeS, compF, max2D, min2D, dmD, lstD, tupD]
    refine bk_par (rs := [.val (.str t1), .val (.tuple E')]) (s1 := [.own true (W a3 b3 c3), .val (.tuple X), .emp, .emp, .emp, .emp, .emp, .emp]) hz2 ?_ (s2 := [.own true (W a3 b3 c3), .val (.tuple X), .emp, .emp, .val (.str t1), .val (.tuple E'), .emp, .emp]) rfl ?_
    · simp [g2, s1, ev_slot, ev_lit, ev_gc, ev_bin, ev_neg, ev_not, ev_and, ev_or, ev_cmp, ev_cmp2, ev_ite, ev_tup, ev_lst, ev_ix, ev_sl, ev_f1, ev_f2, ev_isT, ev_call, ev_callK, evs, evo, evo', evA, callD, argsOf, PArg.arg, ownsOf, putOuts, toB, R.get, R.sto, R.flat, cmpD, ltD, leD, isND, binD, addD, subD, modD, ixD, slD, f1D, f2D, lenD, absD, intD, retR, outsOf, Arg.slot, putP, putPs, evRs, setR, okSet, subR, isOwn, putT, putTs, Lit.d, isTD, isEmp, wipeS, compF, max2D, min2D, dmD, lstD, tupD]
    refine bk_par (rs := [.val (.tuple L), .val (.tuple Y)]) (s1 := [.own true (W a3 b3 c3), .val (.tuple X), .emp, .emp, .val (.str t1), .val (.tuple E'), .emp, .emp]) hz2 ?_ (s2 := [.own true (W a3 b3 c3), .val (.tuple X), .emp, .emp, .val (.str t1), .val (.tuple E'), .val (.tuple L), .val (.tuple Y)]) rfl ?_
    · simp [g3, g4, ev_slot, ev_lit, ev_gc, ev_bin, ev_neg, ev_not, ev_and, ev_or, ev_cmp, ev_cmp2, ev_ite, ev_tup, ev_lst, ev_ix, ev_sl, ev_f1, ev_f2, ev_isT, ev_call, ev_callK, evs, evo, evo', evA, callD, argsOf, PArg.arg, ownsOf, putOuts, toB, R.get, R.sto, R.flat, cmpD, ltD, leD, isND, binD, addD, subD, modD, ixD, slD, f1D, f2D, lenD, absD, intD, retR, outsOf, Arg.slot, putP, putPs, evRs, setR, okSet, subR, isOwn, putT, putTs, Lit.d, isTD, isEmp, wipeS, compF, max2D, min2D, dmD, lstD, tupD]
    refine bk_ifF (s1 := [.own true (W a3 b3 c3), .val (.tuple X), .emp, .emp, .val (.str t1), .val (.tuple E'), .val (.tuple L), .val (.tuple Y)]) ?_ ?_
    · simp [g4, g5, hz1, hz2, s2, twice, eqv_str, ev_slot, ev_lit, ev_gc, ev_bin, ev_neg, ev_not, ev_and, ev_or, ev_cmp, ev_cmp2, ev_ite, ev_tup, ev_lst, ev_ix, ev_sl, ev_f1, ev_f2, ev_isT, ev_call, ev_callK, evs, evo, evo', evA, callD, argsOf, PArg.arg, ownsOf, putOuts, toB, R.get, R.sto, R.flat, cmpD, ltD, leD, isND, binD, addD, subD, modD, ixD, slD, f1D, f2D, lenD, absD, intD, retR, outsOf, Arg.slot, putP, putPs, evRs, setR, okSet, subR, isOwn, putT, putTs, Lit.d, isTD, isEmp, wipeS, compF, max2D, min2D, dmD, lstD, tupD]
    refine bk_asg (r := .val (.tuple G)) (s1 := [.own true (W a3 b3 c3), .val (.tuple X), .emp, .emp, .val (.str t1), .val (.tuple E'), .val (.tuple L), .val (.tuple Y)]) ?_ (s2 := [.own true (W a3 b3 c3), .val (.tuple X), .val (.tuple G), .emp, .val (.str t1), .val (.tuple E'), .val (.tuple L), .val (.tuple Y)]) rfl ?_
    · simp [g6, ev_slot, ev_lit, ev_gc, ev_bin, ev_neg, ev_not, ev_and, ev_or, ev_cmp, ev_cmp2, ev_ite, ev_tup, ev_lst, ev_ix, ev_sl, ev_f1, ev_f2, ev_isT, ev_call, ev_callK, evs, evo, evo', evA, callD, argsOf, PArg.arg, ownsOf, putOuts, toB, R.get, R.sto, R.flat, cmpD, ltD, leD, isND, binD, addD, subD, modD, ixD, slD, f1D, f2D, lenD, absD, intD, retR, outsOf, Arg.slot, putP, putPs, evRs, setR, okSet, subR, isOwn, putT, putTs, Lit.d, isTD, isEmp, wipeS, compF, max2D, min2D, dmD, lstD, tupD]
    refine bk_asg (r := .new [.tuple G, .tuple G, .tuple G]) (s1 := [.own true (W a3 b3 c3), .val (.tuple X), .val (.tuple G), .emp, .val (.str t1), .val (.tuple E'), .val (.tuple L), .val (.tuple Y)]) ?_ (s2 := [.own true (W a3 b3 c3), .val (.tuple X), .val (.tuple G), .own false [.tuple G, .tuple G, .tuple G], .val (.str t1), .val (.tuple E'), .val (.tuple L), .val (.tuple Y)]) rfl (bk_ret (r := .val (.bool true)) ?_ rfl)
    · simp [g7, g8, hz3, ev_slot, ev_lit, ev_gc, ev_bin, ev_neg, ev_not, ev_and, ev_or, ev_cmp, ev_cmp2, ev_ite, ev_tup, ev_lst, ev_ix, ev_sl, ev_f1, ev_f2, ev_isT, ev_call, ev_callK, evs, evo, evo', evA, callD, argsOf, PArg.arg, ownsOf, putOuts, toB, R.get, R.sto, R.flat, cmpD, ltD, leD, isND, binD, addD, subD, modD, ixD, slD, f1D, f2D, lenD, absD, intD, retR, outsOf, Arg.slot, putP, putPs, evRs, setR, okSet, subR, isOwn, putT, putTs, Lit.d, isTD, isEmp, wipeS, compF, max2D, min2D, dmD, lstD, tupD]
    · simp [g9, hz1, s1, s3, thrice, eqv_str, isND, ev_slot, ev_lit, ev_gc, ev_bin, ev_neg, ev_not, ev_and, ev_or, ev_cmp, ev_cmp2, ev_ite, ev_tup, ev_lst, ev_ix, ev_sl, ev_f1, ev_f2, ev_isT, ev_call, ev_callK, evs, evo, evo', evA, callD, argsOf, PArg.arg, ownsOf, putOuts, toB, R.get, R.sto, R.flat, cmpD, ltD, leD, isND, binD, addD, subD, modD, ixD, slD, f1D, f2D, lenD, absD, intD, retR, outsOf, Arg.slot, putP, putPs, evRs, setR, okSet, subR, isOwn, putT, putTs, Lit.d, isTD, isEmp, wipeS, compF, max2D, min2D, dmD, lstD, tupD]
  obtain ⟨rest, e⟩ := key p_law_right (by rw [q_law_right_0]; exact e2) (by rw [q_law_right_1]; exact e1) (by rw [q_law_right_2]; exact e3) (by rw [q_law_right_3]; exact la) (by rw [q_law_right_4]; exact x1) (by rw [q_law_right_5]; exact x2) (by rw [q_law_right_6]; exact x3) (by rw [q_law_right_7]; exact x4) (by rw [q_law_right_8]; exact x5) (by rw [q_law_right_9]; exact x6)
  exact ⟨_, run_ok (Nat.le_of_ble_eq_true rfl) e rfl rfl⟩
theorem law_holds : LawHolds m_law 63 := by
  intro ns hn
  let S : D := scr (ns.map .int)
  have len : ∃ j : Int, 0 ≤ j ∧ j ≤ 4 ∧ ∀ Φ : Phi, ev Φ (.f2 .max (.lit (.int 2)) (.f2 .min (.f1 .len (.slot 0)) (.lit (.int 4)))) [.val S, .emp] = some (.val (.int j), [.val S, .emp]) := by
    by_cases z1 : 4 < (ns.length : Int)
    · exact ⟨4, by decide, by decide, fun Φ => by simp [S, scr, z1, ev_slot, ev_lit, ev_gc, ev_bin, ev_neg, ev_not, ev_and, ev_or, ev_cmp, ev_cmp2, ev_ite, ev_tup, ev_lst, ev_ix, ev_sl, ev_f1, ev_f2, ev_isT, ev_call, ev_callK, evs, evo, evo', evA, callD, argsOf, PArg.arg, ownsOf, putOuts, toB, R.get, R.sto, R.flat, cmpD, ltD, leD, isND, binD, addD, subD, modD, ixD, slD, f1D, f2D, lenD, absD, intD, retR, outsOf, Arg.slot, putP, putPs, evRs, setR, okSet, subR, isOwn, putT, putTs, Lit.d, isTD, isEmp, wipeS, compF, max2D, min2D, dmD, lstD, tupD]⟩
    · by_cases z2 : 2 < (ns.length : Int)
      · exact ⟨ns.length, by omega, by omega, fun Φ => by simp [S, scr, z1, z2, ev_slot, ev_lit, ev_gc, ev_bin, ev_neg, ev_not, ev_and, ev_or, ev_cmp, ev_cmp2, ev_ite, ev_tup, ev_lst, ev_ix, ev_sl, ev_f1, ev_f2, ev_isT, ev_call, ev_callK, evs, evo, evo', evA, callD, argsOf, PArg.arg, ownsOf, putOuts, toB, R.get, R.sto, R.flat, cmpD, ltD, leD, isND, binD, addD, subD, modD, ixD, slD, f1D, f2D, lenD, absD, intD, retR, outsOf, Arg.slot, putP, putPs, evRs, setR, okSet, subR, isOwn, putT, putTs, Lit.d, isTD, isEmp, wipeS, compF, max2D, min2D, dmD, lstD, tupD]⟩
      · exact ⟨2, by decide, by decide, fun Φ => by simp [S, scr, z1, z2, ev_slot, ev_lit, ev_gc, ev_bin, ev_neg, ev_not, ev_and, ev_or, ev_cmp, ev_cmp2, ev_ite, ev_tup, ev_lst, ev_ix, ev_sl, ev_f1, ev_f2, ev_isT, ev_call, ev_callK, evs, evo, evo', evA, callD, argsOf, PArg.arg, ownsOf, putOuts, toB, R.get, R.sto, R.flat, cmpD, ltD, leD, isND, binD, addD, subD, modD, ixD, slD, f1D, f2D, lenD, absD, intD, retR, outsOf, Arg.slot, putP, putPs, evRs, setR, okSet, subR, isOwn, putT, putTs, Lit.d, isTD, isEmp, wipeS, compF, max2D, min2D, dmD, lstD, tupD]⟩
  obtain ⟨j, j0, j4, len⟩ := len
  have key : ∀ Φ : Phi, (∀ a b c : Int, ∃ o, Φ.fn 0 [.own (W a b c)] = some (.val (.bool true), [o])) → (∀ t : Int, 0 ≤ t → ∃ a b c, Φ.fn 1 [.val S, .val (.int t)] = some (.new (W a b c), [])) →
      bk Φ b_law [.val S, .emp] = some (.ret (.val (.bool true)), [.val S, .emp]) := fun Φ h0 h1 => by
    have c := ev_comp (Φ := Φ) (own := [("_law_turn", 1)]) (tg := .name 1) (co := .none) (e := .call 0 (.n (.call 1 (.v (.slot 0) (.v (.slot 1) (.nil)))) (.nil))) (s := [.val S, .emp]) (fun _ => some (.bool true)) (evI_rng0 (len Φ) j0 (by omega)) rfl (fun d hd => by
      simp only [rgD, List.mem_map] at hd
      obtain ⟨k, _, rfl⟩ := hd
      obtain ⟨a, b, c, e1⟩ := h1 (0 + (k : Int)) (by omega)
      obtain ⟨o, e0⟩ := h0 a b c
      refine ⟨[.val S, .val (.int (0 + (k : Int)))], ?_, rfl⟩
      generalize (0 + (k : Int)) = t at e1
      simp [e0, e1, ev_slot, ev_lit, ev_gc, ev_bin, ev_neg, ev_not, ev_and, ev_or, ev_cmp, ev_cmp2, ev_ite, ev_tup, ev_lst, ev_ix, ev_sl, ev_f1, ev_f2, ev_isT, ev_call, ev_callK, evs, evo, evo', evA, callD, argsOf, PArg.arg, ownsOf, putOuts, toB, R.get, R.sto, R.flat, cmpD, ltD, leD, isND, binD, addD, subD, modD, ixD, slD, f1D, f2D, lenD, absD, intD, retR, outsOf, Arg.slot, putP, putPs, evRs, setR, okSet, subR, isOwn, putT, putTs, Lit.d, isTD, isEmp, wipeS, compF, max2D, min2D, dmD, lstD, tupD]) (by rw [rgD_len]; exact sl_le (by omega))
    refine bk_ret (r := .val (.bool true)) ?_ rfl
    rw [ev_f1, c]
    simp [rgD, R.get, f1D, allD, List.filterMap_map, Function.comp_def, boolsL_map]
  exact run_ok (Nat.le_of_ble_eq_true rfl) (key p_law (by rw [q_law_0]; exact right_ok) (by rw [q_law_1]; exact fun t ht => well_ok ns ht)) rfl rfl
end L23

set_option Elab.async false
set_option linter.all false
set_option maxRecDepth 100000
set_option maxHeartbeats 4000000
open PySem PySem.Spec PyProof.Rows L2 Mi
open L23
open PySem PySem.W PyProof.Rows in
set_option maxHeartbeats 0 in
theorem PySem.Challenge.cw_lettermend_k23_whole_histories_of_disks_holds : PySem.Challenge.rw_lettermend_k23_whole_histories_of_disks.Holds := by
  w_on; o_law; k_head; (case hw => w_witness2)
  k_fill
  refine walkG (l := PySem.Challenge.rw_lettermend_k23_whole_histories_of_disks) (n := 63) (k := 11) (x := "_law_script") (m := L23.m_law) rfl (by decide) rfl ⟨rfl, by decide, by decide⟩ (fun w h Y => PySem.W.kIn_of Y) ?F L23.law_holds
  case F =>
    intro w mg fa h KX G hmg
    refine' L23.all_mk KX G hmg ?a0 ?l0 ?c0 ?k0 ?a1 ?l1 ?c1 ?k1 ?a2 ?l2 ?c2 ?k2 ?a3 ?l3 ?c3 ?k3 ?a4 ?l4 ?c4 ?k4 ?a5 ?l5 ?c5 ?k5 ?a6 ?l6 ?c6 ?k6 ?a7 ?l7 ?c7 ?k7 ?a8 ?l8 ?c8 ?k8 ?a9 ?l9 ?c9 ?k9 ?a10 ?l10 ?c10 ?k10 ?a11 ?l11 ?c11 ?k11 ?a12 ?l12 ?c12 ?k12 ?a13 ?l13 ?c13 ?k13 ?a14 ?l14 ?c14 ?k14 ?a15 ?l15 ?c15 ?k15 ?a16 ?l16 ?c16 ?k16 ?a17 ?l17 ?c17 ?k17 ?a18 ?l18 ?c18 ?k18 ?a19 ?l19 ?c19 ?k19 ?a20 ?l20 ?c20 ?k20 ?a21 ?l21 ?c21 ?k21 ?a22 ?l22 ?c22 ?k22 ?a23 ?l23 ?c23 ?k23 ?a24 ?l24 ?c24 ?k24 ?a25 ?l25 ?c25 ?k25 ?a26 ?l26 ?c26 ?k26 ?a27 ?l27 ?c27 ?k27 ?a28 ?l28 ?c28 ?k28 ?a29 ?l29 ?c29 ?k29 ?a30 ?l30 ?c30 ?k30 ?a31 ?l31 ?c31 ?k31 ?a32 ?l32 ?c32 ?k32 ?a33 ?l33 ?c33 ?k33 ?a34 ?l34 ?c34 ?k34 ?a35 ?l35 ?c35 ?k35 ?a36 ?l36 ?c36 ?k36 ?a37 ?l37 ?c37 ?k37 ?a38 ?l38 ?c38 ?k38 ?a39 ?l39 ?c39 ?k39 ?a40 ?l40 ?c40 ?k40 ?a41 ?l41 ?c41 ?k41 ?a42 ?l42 ?c42 ?k42 ?a43 ?l43 ?c43 ?k43 ?a44 ?l44 ?c44 ?k44 ?a45 ?l45 ?c45 ?k45 ?gl0 ?gl1 ?gl2 ?gl3 ?gl4 ?gl5 ?gl6 ?gl7 ?z0 ?z1 ?z2 ?z3 ?z4 ?z5 ?z6 ?z7 ?z8 ?z9 ?z10 ?z11 ?z12 ?z13 ?z14 ?z15 ?z16 ?z17 ?z18 ?z19 ?z20 ?z21
    (case a0 => k_is)
    (case l0 => k_is)
    (case c0 => k_is)
    (case k0 => k_is)
    (case a1 => k_is)
    (case l1 => k_is)
    (case c1 => k_is)
    (case k1 => k_is)
    (case a2 => k_is)
    (case l2 => k_is)
    (case c2 => k_is)
    (case k2 => k_is)
    (case a3 => k_is)
    (case l3 => k_is)
    (case c3 => k_is)
    (case k3 => k_is)
    (case a4 => k_is)
    (case l4 => k_is)
    (case c4 => k_is)
    (case k4 => k_is)
    (case a5 => k_is)
    (case l5 => k_is)
    (case c5 => k_is)
    (case k5 => k_is)
    (case a6 => k_is)
    (case l6 => k_is)
    (case c6 => k_is)
    (case k6 => k_is)
    (case a7 => k_is)
    (case l7 => k_is)
    (case c7 => k_is)
    (case k7 => k_is)
    (case a8 => k_is)
    (case l8 => k_is)
    (case c8 => k_is)
    (case k8 => k_is)
    (case a9 => k_is)
    (case l9 => k_is)
    (case c9 => k_is)
    (case k9 => k_is)
    (case a10 => k_is)
    (case l10 => k_is)
    (case c10 => k_is)
    (case k10 => k_is)
    (case a11 => k_is)
    (case l11 => k_is)
    (case c11 => k_is)
    (case k11 => k_is)
    (case a12 => k_is)
    (case l12 => k_is)
    (case c12 => k_is)
    (case k12 => k_is)
    (case a13 => k_is)
    (case l13 => k_is)
    (case c13 => k_is)
    (case k13 => k_is)
    (case a14 => k_is)
    (case l14 => k_is)
    (case c14 => k_is)
    (case k14 => k_is)
    (case a15 => k_is)
    (case l15 => k_is)
    (case c15 => k_is)
    (case k15 => k_is)
    (case a16 => k_is)
    (case l16 => k_is)
    (case c16 => k_is)
    (case k16 => k_is)
    (case a17 => k_is)
    (case l17 => k_is)
    (case c17 => k_is)
    (case k17 => k_is)
    (case a18 => k_is)
    (case l18 => k_is)
    (case c18 => k_is)
    (case k18 => k_is)
    (case a19 => k_is)
    (case l19 => k_is)
    (case c19 => k_is)
    (case k19 => k_is)
    (case a20 => k_is)
    (case l20 => k_is)
    (case c20 => k_is)
    (case k20 => k_is)
    (case a21 => k_is)
    (case l21 => k_is)
    (case c21 => k_is)
    (case k21 => k_is)
    (case a22 => k_is)
    (case l22 => k_is)
    (case c22 => k_is)
    (case k22 => k_is)
    (case a23 => k_is)
    (case l23 => k_is)
    (case c23 => k_is)
    (case k23 => k_is)
    (case a24 => k_is)
    (case l24 => k_is)
    (case c24 => k_is)
    (case k24 => k_is)
    (case a25 => k_is)
    (case l25 => k_is)
    (case c25 => k_is)
    (case k25 => k_is)
    (case a26 => k_is)
    (case l26 => k_is)
    (case c26 => k_is)
    (case k26 => k_is)
    (case a27 => k_is)
    (case l27 => k_is)
    (case c27 => k_is)
    (case k27 => k_is)
    (case a28 => k_is)
    (case l28 => k_is)
    (case c28 => k_is)
    (case k28 => k_is)
    (case a29 => k_is)
    (case l29 => k_is)
    (case c29 => k_is)
    (case k29 => k_is)
    (case a30 => k_is)
    (case l30 => k_is)
    (case c30 => k_is)
    (case k30 => k_is)
    (case a31 => k_is)
    (case l31 => k_is)
    (case c31 => k_is)
    (case k31 => k_is)
    (case a32 => k_is)
    (case l32 => k_is)
    (case c32 => k_is)
    (case k32 => k_is)
    (case a33 => k_is)
    (case l33 => k_is)
    (case c33 => k_is)
    (case k33 => k_is)
    (case a34 => k_is)
    (case l34 => k_is)
    (case c34 => k_is)
    (case k34 => k_is)
    (case a35 => k_is)
    (case l35 => k_is)
    (case c35 => k_is)
    (case k35 => k_is)
    (case a36 => k_is)
    (case l36 => k_is)
    (case c36 => k_is)
    (case k36 => k_is)
    (case a37 => k_is)
    (case l37 => k_is)
    (case c37 => k_is)
    (case k37 => k_is)
    (case a38 => k_is)
    (case l38 => k_is)
    (case c38 => k_is)
    (case k38 => k_is)
    (case a39 => k_is)
    (case l39 => k_is)
    (case c39 => k_is)
    (case k39 => k_is)
    (case a40 => k_is)
    (case l40 => k_is)
    (case c40 => k_is)
    (case k40 => k_is)
    (case a41 => k_is)
    (case l41 => k_is)
    (case c41 => k_is)
    (case k41 => k_is)
    (case a42 => k_is)
    (case l42 => k_is)
    (case c42 => k_is)
    (case k42 => k_is)
    (case a43 => k_is)
    (case l43 => k_is)
    (case c43 => k_is)
    (case k43 => k_is)
    (case a44 => k_is)
    (case l44 => k_is)
    (case c44 => k_is)
    (case k44 => k_is)
    (case a45 => k_is)
    (case l45 => k_is)
    (case c45 => k_is)
    (case k45 => k_is)
    (case gl0 => k_is)
    (case gl1 => k_is)
    (case gl2 => k_is)
    (case gl3 => k_is)
    (case gl4 => k_is)
    (case gl5 => k_is)
    (case gl6 => k_is)
    (case gl7 => k_is)
    (case z0 => k_is)
    (case z1 => k_is)
    (case z2 => k_is)
    (case z3 => k_is)
    (case z4 => k_is)
    (case z5 => k_is)
    (case z6 => k_is)
    (case z7 => k_is)
    (case z8 => k_is)
    (case z9 => k_is)
    (case z10 => k_is)
    (case z11 => k_is)
    (case z12 => k_is)
    (case z13 => k_is)
    (case z14 => k_is)
    (case z15 => k_is)
    (case z16 => k_is)
    (case z17 => k_is)
    (case z18 => k_is)
    (case z19 => k_is)
    (case z20 => k_is)
    (case z21 => k_is)

