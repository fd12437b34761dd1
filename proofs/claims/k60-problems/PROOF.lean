import PyProof.Rows.All
import Wide.All
import OpenK.AllK
import Wide.FinOn
import KE.KStateDown
import Lean
import HandS.ForMost
import HandS.Defaults
import HandS.Head0
import HandS.Head1
import HandS.Head2
import HandS.HeadEnd
import HandS.HeadHook1
import HandS.HeadHook2
import PyProof.ReprRoads
import HandS.TupAny
import HandS.Style
import HandS.Deep
import HandS.Flow
import HandS.TupMul
import KE.KTupSum
import KE.DataMinMax
import HandS.Zip
import HandS.SortInts
import HandS.NoneIn
import HandS.SetFor
import HandS.Strs
import HandS.IsInst
import HandS.More
import PySem.Challenge.RW_tablewright_k60_whole_problems
set_option Elab.async false
set_option linter.all false
/-! Ev1: a small language of values (no heap, no frames) and its runs. -/
namespace Ev
open PySem
abbrev D := PyData
abbrev En := List (Option D)
/-- the drawing state's outer list (its lists of ints hold the script's cells) -/
abbrev Tape := Option (List D)
abbrev R := Option (D × Tape)
abbrev CF := Nat → List D → Tape → R
/-- how a slot stands: unknown, a frozen datum, a frozen dict (keys ints and texts; tuples), the drawing state, its inner list, an own list of frozen items, an own list of own lists, an own dict (keys ints and texts; tuples) -/
inductive Ty | u | p | pK | pT | st | cl | o | oo | dK | dT deriving DecidableEq
inductive BOp | add | sub | mul | mod | fdiv | pow deriving DecidableEq
inductive COp | eq | ne | lt | le | gt | ge | isin | notin deriving DecidableEq
inductive B1 | len | tuple | list | int | abs | sum | max | min | all | any | sorted | sset | lset | repr | lrange | trange deriving DecidableEq
inductive B2 | max | min deriving DecidableEq
inductive IK | seq | r1 | r2 | enum | zip | items deriving DecidableEq
inductive Mt | index | get1 | get2 | count deriving DecidableEq
/-- the built-in types of an isinstance -/
inductive Kc | tup | lst | str | int | bool deriving DecidableEq
inductive Tg | n (i : Nat) | t (ts : List Tg) | l (ts : List Tg)
inductive IE
  | v (i : Nat)
  | c (d : D)
  | yes
  | tup (es : List IE) | lst (es : List IE)
  | dct (kes : List IE)
  | dnew (t : Bool)
  | dix (t : Bool) (a b : IE)
  | din (t neg : Bool) (a b : IE)
  | dget (t : Bool) (a b c : IE)
  | dlen (t : Bool) (a : IE)
  | dcp (a : IE)
  | isi (k : Kc) (a : IE)
  | bin (o : BOp) (a b : IE)
  | cmp (o : COp) (a b : IE)
  | cmp2 (o o' : COp) (a b c : IE)
  | isN (a : IE) | notN (a : IE)
  | and (a b : IE) | or (a b : IE) | not (a : IE)
  | ite (c a b : IE)
  | ix (a b : IE)
  | slF (a lo : IE) | slT (a hi : IE) | slB (a lo hi : IE) | rev (a : IE)
  | b1 (f : B1) (a : IE) | b2 (f : B2) (a b : IE)
  | call (f : Nat) (es : List IE)
  | mth (m : Mt) (a : IE) (es : List IE)
  | comp (own : List Nat) (tg : Tg) (k : IK) (args : List IE) (cond elt : IE)
  | comp2 (own : List Nat) (tg : Tg) (k : IK) (args : List IE) (cond : IE) (tg2 : Tg) (k2 : IK) (args2 : List IE) (cond2 elt : IE)
  | dcomp (own : List Nat) (tg : Tg) (k : IK) (args : List IE) (cond key elt : IE)
  | stx (i n : Nat) | clen (i : Nat) | cix (i : Nat) (e : IE)
  | dcst (kvs : List (Str × D)) (e : IE)
inductive IS
  | set (tg : Tg) (e : IE)
  | own (i : Nat) (t : Ty) (e : IE)
  | par (i j : Nat) (a b : IE)
  | setix (i : Nat) (k e : IE)
  | setix2 (i : Nat) (k1 k2 e : IE)
  | setd (t : Bool) (i : Nat) (k e : IE)
  | app (i : Nat) (e : IE)
  | ext (i : Nat) (e : IE)
  | pop (j i : Nat)
  | ex (e : IE)
  | ret (e : IE) | retN
  | ite (c : IE) (a b : List IS)
  | for (tg : Tg) (k : IK) (args : List IE) (body : List IS) (kill : List Nat) (G : List Ty)
  | whl (c : IE) (body : List IS) (kill : List Nat) (G : List Ty)
  | brk | cont
  | frz (i : Nat)
  | cget (j i n : Nat)
  | cset (i : Nat) (k e : IE)
  | sset (i n : Nat) (e : IE)
  | retSt (i : Nat) (tm : List (Option Int))
inductive Out
  | nx (γ : En) (τ : Tape) | bk (γ : En) (τ : Tape) | ct (γ : En) (τ : Tape) | rt (d : D) (τ : Tape)
def rd (γ : En) (i : Nat) : Option D := γ.getD i none
def kill (γ : En) (ks : List Nat) : En := ks.foldl (fun g i => g.set i none) γ
mutual
/-- a target takes a value -/
def bindT : Tg → D → En → Option En
  | .n i, x, γ => some (γ.set i (some x))
  | .t ts, .tuple xs, γ => bindTs ts xs γ
  | .l ts, .list xs, γ => bindTs ts xs γ
  | _, _, _ => none
def bindTs : List Tg → List D → En → Option En
  | [], [], γ => some γ
  | t :: ts, x :: xs, γ => (bindT t x γ).bind fun g => bindTs ts xs g
  | _, _, _ => none
end
def isNoneD : D → Bool
  | .none => true
  | _ => false
def truth : D → Option Bool
  | .none => some false
  | .bool b => some b
  | .int i => some (i != 0)
  | .str x => if x.length ≤ sizeLine then some ((x.length : Int) != 0) else none
  | .list xs => some (!xs.isEmpty)
  | .tuple xs => some (!xs.isEmpty)
  | .dict _ => none
/-! ### operators -/
def opMulI (i j : Int) : Option D := if i.natAbs < 18446744073709551616 ∨ j.natAbs < 18446744073709551616 then some (.int (i * j)) else none
def opAdd : D → D → Option D
  | .int i, .int j => some (.int (i + j))
  | .list xs, .list ys => if xs.length + ys.length ≤ sizeLine then some (.list (xs ++ ys)) else none
  | .tuple xs, .tuple ys => if xs.length + ys.length ≤ sizeLine then some (.tuple (xs ++ ys)) else none
  | _, _ => none
def opSub : D → D → Option D
  | .int i, .int j => some (.int (i - j))
  | _, _ => none
def opMul : D → D → Option D
  | .int i, .int j => opMulI i j
  | .tuple xs, .int j => if (List.replicate j.toNat xs).flatten.length ≤ sizeLine ∧ j.natAbs ≤ 1000 ∧ xs.length ≤ 1000 then some (.tuple (List.replicate j.toNat xs).flatten) else none
  | .list xs, .int j => if (List.replicate j.toNat xs).flatten.length ≤ sizeLine ∧ j.natAbs ≤ 1000 ∧ xs.length * j.toNat ≤ sizeLine then some (.list (List.replicate j.toNat xs).flatten) else none
  | _, _ => none
def opMod : D → D → Option D
  | .int i, .int j => if 0 < j then some (.int (i % j)) else none
  | _, _ => none
def opDiv : D → D → Option D
  | .int i, .int j => if 0 < j ∧ j.natAbs < 1073741824 then some (.int (i / j)) else none
  | _, _ => none
def opPow : D → D → Option D
  | .int i, .int j => if 0 ≤ j ∧ j.natAbs ≤ 1000000 ∧ i.natAbs < 2 ^ 64 then some (.int (i ^ j.toNat)) else none
  | _, _ => none
def opBin : BOp → D → D → Option D
  | .add => opAdd | .sub => opSub | .mul => opMul | .mod => opMod | .fdiv => opDiv | .pow => opPow
/-- of two data at least one is of small depth -/
def shallow (x y : D) : Bool := decide (x.depth ≤ 100) || decide (y.depth ≤ 100)
/-- a key of a dict: an int or a text; a tuple of such -/
def keyB : D → Bool
  | .int _ => true
  | .str _ => true
  | _ => false
def keyF : Bool → D → Bool
  | false, x => keyB x
  | true, .tuple xs => xs.all keyB
  | true, _ => false
def dget : List (D × D) → D → Option D
  | [], _ => none
  | (k, v) :: r, x => if PyData.eqv k x then some v else dget r x
def dput (kvs : List (D × D)) (x y : D) : List (D × D) := if (kvs.any fun p => PyData.eqv p.1 x) = true then kvs.map (fun p => if PyData.eqv p.1 x = true then (p.1, y) else p) else kvs ++ [(x, y)]
def isiB : Kc → D → Bool
  | .tup, .tuple _ => true | .lst, .list _ => true | .str, .str _ => true | .int, .int _ => true | .int, .bool _ => true | .bool, .bool _ => true
  | _, _ => false
def cInt (p : Int → Int → Bool) : D → D → Option Bool
  | .int i, .int j => some (p i j)
  | _, _ => none
def cEq (x y : D) : Option Bool := if shallow x y then some (PyData.eqv x y) else none
def seqOf : D → Option (List D)
  | .list xs => some xs
  | .tuple xs => some xs
  | _ => none
def cIn (x y : D) : Option Bool := (seqOf y).bind fun ys => if x.depth ≤ 100 then some (ys.any fun z => PyData.eqv z x) else none
def opCmp : COp → D → D → Option Bool
  | .eq => cEq
  | .ne => fun x y => (cEq x y).map (!·)
  | .lt => cInt fun i j => decide (i < j)
  | .le => cInt fun i j => decide (i ≤ j)
  | .gt => cInt fun i j => decide (j < i)
  | .ge => cInt fun i j => decide (j ≤ i)
  | .isin => cIn
  | .notin => fun x y => (cIn x y).map (!·)
def opIx : D → D → Option D
  | .list xs, .int i => L2.atI xs i
  | .tuple xs, .int i => L2.atI xs i
  | _, _ => none
def dictOf : D → Option (List (D × D))
  | .dict kvs => some kvs
  | _ => none
def opDix (t : Bool) (m x : D) : Option D := (dictOf m).bind fun kvs => if keyF t x then dget kvs x else none
def opDin (t neg : Bool) (x m : D) : Option D := (dictOf m).bind fun kvs => if keyF t x then some (.bool (if neg then !(dget kvs x).isSome else (dget kvs x).isSome)) else none
def opDget (t : Bool) (m x y : D) : Option D := (dictOf m).bind fun kvs => if keyF t x then some ((dget kvs x).getD y) else none
def opDput (t : Bool) (m x y : D) : Option D := (dictOf m).bind fun kvs => if keyF t x ∧ kvs.length < sizeLine then some (.dict (dput kvs x y)) else none
def cutD (xs : List D) (lo hi : Option Int) : List D := (xs.drop (HT.sIx xs.length 0 lo)).take (HT.sIx xs.length xs.length hi - HT.sIx xs.length 0 lo)
def opSl : D → Option Int → Option Int → Option D
  | .list xs, lo, hi => some (.list (cutD xs lo hi))
  | .tuple xs, lo, hi => some (.tuple (cutD xs lo hi))
  | _, _, _ => none
def intOf : D → Option Int
  | .int i => some i
  | _ => none
def intsOf : List D → Option (List Int)
  | [] => some []
  | .int i :: r => (intsOf r).map (i :: ·)
  | _ :: _ => none
def boolsOf : List D → Option (List Bool)
  | [] => some []
  | .bool b :: r => (boolsOf r).map (b :: ·)
  | _ :: _ => none
def maxI : List Int → Option Int
  | [] => none
  | x :: r => some (r.foldl max x)
def minI : List Int → Option Int
  | [] => none
  | x :: r => some (r.foldl min x)
def bLen : D → Option D
  | .list xs => some (.int xs.length)
  | .tuple xs => some (.int xs.length)
  | _ => none
def bTup : D → Option D
  | .list xs => some (.tuple xs)
  | .tuple xs => some (.tuple xs)
  | _ => none
def bLst : D → Option D
  | .list xs => some (.list xs)
  | .tuple xs => some (.list xs)
  | _ => none
def bInt : D → Option D
  | .int i => some (.int i)
  | .bool b => some (.int (if b then 1 else 0))
  | _ => none
def bAbs : D → Option D
  | .int i => some (.int (if i < 0 then -i else i))
  | _ => none
def listOf : D → Option (List D)
  | .list xs => some xs
  | _ => none
def bSum (x : D) : Option D := ((seqOf x).bind intsOf).map fun ns => .int ns.sum
def bMax (x : D) : Option D := ((seqOf x).bind intsOf).bind fun ns => (maxI ns).map .int
def bMin (x : D) : Option D := ((seqOf x).bind intsOf).bind fun ns => (minI ns).map .int
def bAll (x : D) : Option D := ((listOf x).bind boolsOf).map fun bs => .bool (bs.all id)
def bAny (x : D) : Option D := ((listOf x).bind boolsOf).map fun bs => .bool (bs.any id)
/-- the text of a list or tuple (no repr runs around) -/
def reprD : D → Option D
  | .list xs => if (PyData.list xs).showable = true ∧ (PyData.list xs).hasDict = false ∧ (PyData.list xs).shown.length ≤ sizeLine ∧ PyData.strOk (PyData.list xs).shown = true ∧ (PyData.list xs).depth ≤ 100 then some (.str (PyData.list xs).shown) else none
  | .tuple xs => if (PyData.tuple xs).showable = true ∧ (PyData.tuple xs).hasDict = false ∧ (PyData.tuple xs).shown.length ≤ sizeLine ∧ PyData.strOk (PyData.tuple xs).shown = true ∧ (PyData.tuple xs).depth ≤ 100 then some (.str (PyData.tuple xs).shown) else none
  | _ => none
/-- ints, ascending -/
def insI (x : Int) : List Int → List Int
  | [] => [x]
  | y :: r => if x ≤ y then x :: y :: r else y :: insI x r
def sortI : List Int → List Int
  | [] => []
  | x :: r => insI x (sortI r)
def bSort (x : D) : Option D := ((listOf x).bind intsOf).map fun ns => .list ((sortI ns).map .int)
/-- the ints, each once, ascending -/
def insU (x : Int) : List Int → List Int
  | [] => [x]
  | y :: r => if x < y then x :: y :: r else if x = y then y :: r else y :: insU x r
def usort : List Int → List Int
  | [] => []
  | x :: r => insU x (usort r)
def bSset (x : D) : Option D := ((listOf x).bind intsOf).bind fun ns => if ns.length < 64 then some (.list ((usort ns).map .int)) else none
def bLset (x : D) : Option D := ((listOf x).bind intsOf).bind fun ns => if ns.length ≤ 4000 then some (.int ((usort ns).length : Nat)) else none
def opB1 : B1 → D → Option D
  | .sset => bSset | .lset => bLset
  | .repr => reprD | .sorted => bSort
  | .len => bLen | .tuple => bTup | .list => bLst | .int => bInt | .abs => bAbs
  | .sum => bSum | .max => bMax | .min => bMin | .all => bAll | .any => bAny
  | _ => fun _ => none
def i2 (f : Int → Int → Int) : D → D → Option D
  | .int i, .int j => some (.int (f i j))
  | _, _ => none
def opB2 : B2 → D → D → Option D
  | .max => i2 fun i j => if j > i then j else i
  | .min => i2 fun i j => if j < i then j else i
/-- the first place of an equal item -/
def ixOf (x : D) : List D → Option Nat
  | [] => none
  | z :: r => if PyData.eqv z x then some 0 else (ixOf x r).map (· + 1)
def mIndex (x : D) (as : List D) : Option D := match as with
  | [y] => (listOf x).bind fun xs => if y.depth ≤ 100 then (ixOf y xs).map fun j => .int (j : Nat) else none
  | _ => none
def opMth : Mt → D → List D → Option D
  | .index => mIndex
  | _ => fun _ _ => none
def rangeD (a : Int) (n : Nat) : List D := (List.range n).map fun i => .int (a + (i : Nat))
def itSeq : List D → Option (List D)
  | [x] => seqOf x
  | _ => none
def itR1 : List D → Option (List D)
  | [.int n] => if n.natAbs < 4611686018427387904 then some (rangeD 0 n.toNat) else none
  | _ => none
def itR2 : List D → Option (List D)
  | [.int a, .int b] => if a.natAbs < 4611686018427387904 ∧ b.natAbs < 4611686018427387904 then some (rangeD a (b - a).toNat) else none
  | _ => none
def itEnum : List D → Option (List D)
  | [.list xs] => some (xs.zipIdx.map fun p => .tuple [.int (p.2 : Nat), p.1])
  | _ => none
def itZip : List D → Option (List D)
  | [.list xs, .list ys] => some ((xs.zip ys).map fun p => .tuple [p.1, p.2])
  | [.tuple xs, .tuple ys] => some ((xs.zip ys).map fun p => .tuple [p.1, p.2])
  | _ => none
def items : IK → List D → Option (List D)
  | .seq => itSeq | .r1 => itR1 | .r2 => itR2 | .enum => itEnum | .zip => itZip
  | .items => fun _ => none
/-- the walks whose number of turns may be beyond a list's length -/
def lenOk (k : IK) (xs : List D) : Bool := match k with
  | .r1 | .r2 => decide (xs.length ≤ sizeLine)
  | _ => true
def updIx : D → D → D → Option D
  | .list xs, .int i, y => (L2.ixN xs.length i).map fun j => .list (xs.set j y)
  | _, _, _ => none
def updIx2 : D → D → D → D → Option D
  | .list xs, .int i, k, y => (L2.ixN xs.length i).bind fun j => (xs[j]?).bind fun l => match l with
    | .list ys => (updIx (.list ys) k y).map fun l' => .list (xs.set j l')
    | _ => none
  | _, _, _, _ => none
def pairUp : List D → Option (List (D × D))
  | [] => some []
  | k :: v :: r => (pairUp r).map ((k, v) :: ·)
  | [_] => none
/-! ### the drawing state -/
def isIntD : D → Option Int
  | .int k => some k
  | _ => none
def isListD : D → Option (List D)
  | .list cs => some cs
  | _ => none
def tapeInt (τ : Tape) (n : Nat) : Option Int := τ.bind fun l => (l[n]?).bind isIntD
def tapeCells (τ : Tape) : Option (List D) := τ.bind fun l => l.findSome? isListD
def setCells (l : List D) (cs : List D) : List D := l.map fun d => if (isListD d).isSome then .list cs else d
def tmL (tm : List (Option Int)) (cs : List D) : List D := tm.map fun o => match o with | some k => .int k | none => .list cs
/-- the last pair of a key -/
def lastK (kvs : List (Str × D)) (x : Str) : Option D := kvs.foldl (fun acc p => if x = p.1 then some p.2 else acc) none
def strOf : D → Option Str
  | .str x => some x
  | _ => none
/-! ### runs -/
def compL (f : D → Tape → Option (Option D × Tape)) : List D → Tape → Option (List D × Tape)
  | [], τ => some ([], τ)
  | x :: xs, τ => (f x τ).bind fun r => (compL f xs r.2).map fun q => (r.1.toList ++ q.1, q.2)
def compLs (f : D → Tape → Option (List D × Tape)) : List D → Tape → Option (List D × Tape)
  | [], τ => some ([], τ)
  | x :: xs, τ => (f x τ).bind fun r => (compLs f xs r.2).map fun q => (r.1 ++ q.1, q.2)
def forL (f : D → En → Tape → Option Out) (ks : List Nat) : List D → En → Tape → Option Out
  | [], γ, τ => some (.nx γ τ)
  | x :: xs, γ, τ => (f x γ τ).bind fun o => match o with
    | .nx γ' τ' => forL f ks xs (kill γ' ks) τ'
    | .ct γ' τ' => forL f ks xs (kill γ' ks) τ'
    | .bk γ' τ' => some (.nx (kill γ' ks) τ')
    | .rt d τ' => some (.rt d τ')
def whileL (c : En → Tape → Option (Bool × Tape)) (f : En → Tape → Option Out) (ks : List Nat) : Nat → En → Tape → Option Out
  | 0, _, _ => none
  | m + 1, γ, τ => (c γ τ).bind fun p => if p.1 then (f γ p.2).bind fun o => match o with
      | .nx γ' τ' => whileL c f ks m (kill γ' ks) τ'
      | .ct γ' τ' => whileL c f ks m (kill γ' ks) τ'
      | .bk γ' τ' => some (.nx (kill γ' ks) τ')
      | .rt d τ' => some (.rt d τ')
    else some (.nx γ p.2)
def bigL : Nat := 10 ^ 30
/-- a test: the truth of what comes -/
def tst (r : R) : Option (Bool × Tape) := r.bind fun p => (truth p.1).map fun k => (k, p.2)
mutual
def evalE (cf : CF) : IE → En → Tape → R
  | .v i, γ, τ => (rd γ i).map fun d => (d, τ)
  | .c d, _, τ => some (d, τ)
  | .yes, _, τ => some (.bool true, τ)
  | .tup es, γ, τ => (evalEs cf es γ τ).map fun p => (.tuple p.1, p.2)
  | .lst es, γ, τ => (evalEs cf es γ τ).map fun p => (.list p.1, p.2)
  | .dct es, γ, τ => (evalEs cf es γ τ).bind fun p => (pairUp p.1).bind fun ps => if ps.all (fun q => keyB q.1) then some (.dict (ps.foldl (fun m q => dput m q.1 q.2) []), p.2) else none
  | .dnew _, _, τ => some (.dict [], τ)
  | .dix t a b, γ, τ => (evalE cf a γ τ).bind fun p => (evalE cf b γ p.2).bind fun q => (opDix t p.1 q.1).map fun d => (d, q.2)
  | .din t neg a b, γ, τ => (evalE cf a γ τ).bind fun p => (evalE cf b γ p.2).bind fun q => (opDin t neg p.1 q.1).map fun d => (d, q.2)
  | .dget t a b c, γ, τ => (evalE cf a γ τ).bind fun p => (evalE cf b γ p.2).bind fun q => (evalE cf c γ q.2).bind fun r => (opDget t p.1 q.1 r.1).map fun d => (d, r.2)
  | .dlen _ a, γ, τ => (evalE cf a γ τ).bind fun p => (dictOf p.1).map fun kvs => (.int kvs.length, p.2)
  | .dcp a, γ, τ => (evalE cf a γ τ).bind fun p => (dictOf p.1).map fun kvs => (.dict kvs, p.2)
  | .isi k a, γ, τ => (evalE cf a γ τ).map fun p => (.bool (isiB k p.1), p.2)
  | .bin o a b, γ, τ => (evalE cf a γ τ).bind fun p => (evalE cf b γ p.2).bind fun q => (opBin o p.1 q.1).map fun d => (d, q.2)
  | .cmp o a b, γ, τ => (evalE cf a γ τ).bind fun p => (evalE cf b γ p.2).bind fun q => (opCmp o p.1 q.1).map fun d => (.bool d, q.2)
  | .cmp2 o o' a b c, γ, τ => (evalE cf a γ τ).bind fun p => (evalE cf b γ p.2).bind fun q => (opCmp o p.1 q.1).bind fun d =>
      if d then (evalE cf c γ q.2).bind fun r => (opCmp o' q.1 r.1).map fun d' => (.bool d', r.2) else some (.bool false, q.2)
  | .isN a, γ, τ => (evalE cf a γ τ).map fun p => (.bool (isNoneD p.1), p.2)
  | .notN a, γ, τ => (evalE cf a γ τ).map fun p => (.bool (!isNoneD p.1), p.2)
  | .and a b, γ, τ => (evalE cf a γ τ).bind fun p => (truth p.1).bind fun k => if k then evalE cf b γ p.2 else some p
  | .or a b, γ, τ => (evalE cf a γ τ).bind fun p => (truth p.1).bind fun k => if k then some p else evalE cf b γ p.2
  | .not a, γ, τ => (tst (evalE cf a γ τ)).map fun p => (.bool (!p.1), p.2)
  | .ite c a b, γ, τ => (tst (evalE cf c γ τ)).bind fun p => if p.1 then evalE cf a γ p.2 else evalE cf b γ p.2
  | .ix a b, γ, τ => (evalE cf a γ τ).bind fun p => (evalE cf b γ p.2).bind fun q => (opIx p.1 q.1).map fun d => (d, q.2)
  | .slF a lo, γ, τ => (evalE cf a γ τ).bind fun p => (evalE cf lo γ p.2).bind fun q => (intOf q.1).bind fun i => (opSl p.1 (some i) none).map fun d => (d, q.2)
  | .slT a hi, γ, τ => (evalE cf a γ τ).bind fun p => (evalE cf hi γ p.2).bind fun q => (intOf q.1).bind fun i => (opSl p.1 none (some i)).map fun d => (d, q.2)
  | .slB a lo hi, γ, τ => (evalE cf a γ τ).bind fun p => (evalE cf lo γ p.2).bind fun q => (evalE cf hi γ q.2).bind fun r => (intOf q.1).bind fun i => (intOf r.1).bind fun j => (opSl p.1 (some i) (some j)).map fun d => (d, r.2)
  | .rev a, γ, τ => (evalE cf a γ τ).bind fun p => (match p.1 with | .list xs => some (.list xs.reverse) | _ => none : Option D).map fun d => (d, p.2)
  | .b1 f a, γ, τ => (evalE cf a γ τ).bind fun p => (opB1 f p.1).map fun d => (d, p.2)
  | .b2 f a b, γ, τ => (evalE cf a γ τ).bind fun p => (evalE cf b γ p.2).bind fun q => (opB2 f p.1 q.1).map fun d => (d, q.2)
  | .call f es, γ, τ => (evalEs cf es γ τ).bind fun p => cf f p.1 p.2
  | .mth m a es, γ, τ => (evalE cf a γ τ).bind fun p => (evalEs cf es γ p.2).bind fun q => (opMth m p.1 q.1).map fun d => (d, q.2)
  | .comp _ tg k args cond elt, γ, τ => (evalEs cf args γ τ).bind fun p => (items k p.1).bind fun xs => if lenOk k xs then
      (compL (fun x t => (bindT tg x γ).bind fun g => (tst (evalE cf cond g t)).bind fun b => if b.1 then (evalE cf elt g b.2).map fun y => (some y.1, y.2) else some (none, b.2)) xs p.2).map fun q => (.list q.1, q.2) else none
  | .comp2 _ tg k args cond tg2 k2 args2 cond2 elt, γ, τ => (evalEs cf args γ τ).bind fun p => (items k p.1).bind fun xs =>
      (compLs (fun x t => (bindT tg x γ).bind fun g => (tst (evalE cf cond g t)).bind fun b => if b.1 then
        (evalEs cf args2 g b.2).bind fun p2 => (items k2 p2.1).bind fun ys => compL (fun y t2 => (bindT tg2 y g).bind fun g2 => (tst (evalE cf cond2 g2 t2)).bind fun b2 =>
          if b2.1 then (evalE cf elt g2 b2.2).map fun z => (some z.1, z.2) else some (none, b2.2)) ys p2.2
        else some ([], b.2)) xs p.2).bind fun q => if q.1.length ≤ sizeLine then some (.list q.1, q.2) else none
  | .dcomp _ _ _ _ _ _ _, _, _ => none
  | .stx _ n, _, τ => (tapeInt τ n).map fun k => (.int k, τ)
  | .clen _, _, τ => (tapeCells τ).map fun cs => (.int cs.length, τ)
  | .cix _ e, γ, τ => (evalE cf e γ τ).bind fun p => (tapeCells p.2).bind fun cs => (opIx (.list cs) p.1).map fun d => (d, p.2)
  | .dcst kvs e, γ, τ => (evalE cf e γ τ).bind fun p => (strOf p.1).bind fun x => (lastK kvs x).map fun d => (d, p.2)
def evalEs (cf : CF) : List IE → En → Tape → Option (List D × Tape)
  | [], _, τ => some ([], τ)
  | e :: es, γ, τ => (evalE cf e γ τ).bind fun p => (evalEs cf es γ p.2).map fun q => (p.1 :: q.1, q.2)
end
mutual
def execS (cf : CF) : IS → En → Tape → Option Out
  | .set tg e, γ, τ => (evalE cf e γ τ).bind fun p => (bindT tg p.1 γ).map fun g => .nx g p.2
  | .own i _ e, γ, τ => (evalE cf e γ τ).map fun p => .nx (γ.set i (some p.1)) p.2
  | .par i j a b, γ, τ => (evalE cf a γ τ).bind fun p => (evalE cf b γ p.2).map fun q => .nx ((γ.set i (some p.1)).set j (some q.1)) q.2
  | .setix i k e, γ, τ => (evalE cf e γ τ).bind fun p => (evalE cf k γ p.2).bind fun q => (rd γ i).bind fun l => (updIx l q.1 p.1).map fun l' => .nx (γ.set i (some l')) q.2
  | .setix2 i k1 k2 e, γ, τ => (evalE cf e γ τ).bind fun p => (evalE cf k1 γ p.2).bind fun q => (evalE cf k2 γ q.2).bind fun r => (rd γ i).bind fun l => (updIx2 l q.1 r.1 p.1).map fun l' => .nx (γ.set i (some l')) r.2
  | .setd t i k e, γ, τ => (evalE cf e γ τ).bind fun p => (evalE cf k γ p.2).bind fun q => (rd γ i).bind fun l => (opDput t l q.1 p.1).map fun l' => .nx (γ.set i (some l')) q.2
  | .app i e, γ, τ => (evalE cf e γ τ).bind fun p => (rd γ i).bind fun l => match l with
      | .list xs => if xs.length < sizeLine then some (.nx (γ.set i (some (.list (xs ++ [p.1])))) p.2) else none
      | _ => none
  | .ext i e, γ, τ => (evalE cf e γ τ).bind fun p => (rd γ i).bind fun l => match l, p.1 with
      | .list xs, .list ys => if xs.length + ys.length ≤ sizeLine then some (.nx (γ.set i (some (.list (xs ++ ys)))) p.2) else none
      | _, _ => none
  | .pop j i, γ, τ => (rd γ i).bind fun l => match l with
      | .list xs => (xs[xs.length - 1]?).map fun y => .nx ((γ.set i (some (.list xs.dropLast))).set j (some y)) τ
      | _ => none
  | .ex e, γ, τ => (evalE cf e γ τ).map fun p => .nx γ p.2
  | .ret e, γ, τ => (evalE cf e γ τ).map fun p => .rt p.1 p.2
  | .retN, γ, τ => some (.rt .none τ)
  | .ite c a b, γ, τ => (tst (evalE cf c γ τ)).bind fun p => if p.1 then execSs cf a γ p.2 else execSs cf b γ p.2
  | .for tg k args body ks _, γ, τ => (evalEs cf args γ τ).bind fun p => (items k p.1).bind fun xs =>
      forL (fun x g t => (bindT tg x g).bind fun g' => execSs cf body g' t) ks xs γ p.2
  | .whl c body ks _, γ, τ => whileL (fun g t => tst (evalE cf c g t)) (fun g t => execSs cf body g t) ks bigL γ τ
  | .brk, γ, τ => some (.bk γ τ)
  | .cont, γ, τ => some (.ct γ τ)
  | .frz _, γ, τ => some (.nx γ τ)
  | .cget j _ n, γ, τ => τ.bind fun l => (l[n]?).bind fun d => (isListD d).map fun _ => .nx (γ.set j (some .none)) τ
  | .cset _ k e, γ, τ => (evalE cf e γ τ).bind fun p => (evalE cf k γ p.2).bind fun q => q.2.bind fun l => (tapeCells q.2).bind fun cs => (intOf p.1).bind fun v => (intOf q.1).bind fun z => (L2.ixN cs.length z).map fun j => .nx γ (some (setCells l (cs.set j (.int v))))
  | .sset _ n e, γ, τ => (evalE cf e γ τ).bind fun p => p.2.bind fun l => (tapeInt p.2 n).bind fun _ => (intOf p.1).map fun v => .nx γ (some (l.set n (.int v)))
  | .retSt i tm, γ, τ => match τ with
    | none => (rd γ i).bind fun l => (listOf l).bind fun cs => (intsOf cs).map fun _ => .rt .none (some (tmL tm cs))
    | some _ => none
def execSs (cf : CF) : List IS → En → Tape → Option Out
  | [], γ, τ => some (.nx γ τ)
  | s :: ss, γ, τ => (execS cf s γ τ).bind fun o => match o with
      | .nx g t => execSs cf ss g t
      | o => some o
end
/-- a def: its parameters' kinds, what it hands back, its slots, its body; or a function told by itself -/
inductive Fd
  | body (pty : List Ty) (res : Ty) (nv : Nat) (b : List IS)
  | prim (pty : List Ty) (res : Ty) (g : List D → Tape → R)
def Fd.pty : Fd → List Ty
  | .body p _ _ _ => p
  | .prim p _ _ => p
def Fd.res : Fd → Ty
  | .body _ r _ _ => r
  | .prim _ r _ => r
abbrev Prg := List Fd
def runB (cf : CF) (nv : Nat) (b : List IS) (ds : List D) (τ : Tape) : R :=
  (execSs cf b (ds.map some ++ List.replicate (nv - ds.length) none) τ).bind fun o => match o with
    | .nx _ t => some (.none, t)
    | .rt d t => some (d, t)
    | _ => none
def callF (P : Prg) : Nat → Nat → List D → Tape → R
  | 0, _, _, _ => none
  | n + 1, f, ds, τ => match P[f]? with
    | some (.body _ _ nv b) => runB (callF P n) nv b ds τ
    | some (.prim _ _ g) => g ds τ
    | none => none
end Ev
set_option Elab.async false
set_option linter.all false
set_option maxRecDepth 100000
set_option autoImplicit false
/-! Ev2: how a datum stands in the layer's heap; worlds of frozen objects; the drawing state; slots. -/
namespace Ev
open PySem PySem.Spec PyProof.Rows L2
mutual
/-- v is the datum d, by the objects of B alone -/
inductive Rp (B : Hp) : V → D → Prop
  | non : Rp B .non .none
  | bl (b : Bool) : Rp B (.bl b) (.bool b)
  | int (i : Int) : Rp B (.int i) (.int i)
  | str (x : Str) : PyData.strOk x = true → Rp B (.str x) (.str x)
  | lst {a : Addr} {vs : List V} {ds : List D} : B a = some (.lst vs) → RpA B vs ds → ds.length ≤ sizeLine → Rp B (.ref a) (.list ds)
  | tup {a : Addr} {vs : List V} {ds : List D} : B a = some (.tup vs) → RpA B vs ds → ds.length ≤ sizeLine → Rp B (.ref a) (.tuple ds)
inductive RpA (B : Hp) : List V → List D → Prop
  | nil : RpA B [] []
  | cons {v : V} {vs : List V} {d : D} {ds : List D} : Rp B v d → RpA B vs ds → RpA B (v :: vs) (d :: ds)
end
mutual
theorem Rp.mono {B B' : Hp} (h : Same B B') : ∀ {v : V} {d : D}, Rp B v d → Rp B' v d
  | _, _, .non => .non
  | _, _, .bl b => .bl b
  | _, _, .int i => .int i
  | _, _, .str x k => .str x k
  | _, _, .lst e r l => .lst (h _ _ e) (RpA.mono h r) l
  | _, _, .tup e r l => .tup (h _ _ e) (RpA.mono h r) l
theorem RpA.mono {B B' : Hp} (h : Same B B') : ∀ {vs : List V} {ds : List D}, RpA B vs ds → RpA B' vs ds
  | _, _, .nil => .nil
  | _, _, .cons a r => .cons (Rp.mono h a) (RpA.mono h r)
end
section
variable {B : Hp}
theorem RpA.length : ∀ {vs : List V} {ds : List D}, RpA B vs ds → vs.length = ds.length
  | _, _, .nil => rfl
  | _, _, .cons _ r => by rw [List.length_cons, List.length_cons, RpA.length r]
theorem RpA.get : ∀ {vs : List V} {ds : List D} {j : Nat} {d : D}, RpA B vs ds → ds[j]? = some d → ∃ v, vs[j]? = some v ∧ Rp B v d
  | _, _, _, _, .nil, e => by simp at e
  | _, _, 0, _, .cons a _, e => by
    simp only [List.getElem?_cons_zero, Option.some.injEq] at e
    subst e
    exact ⟨_, rfl, a⟩
  | _, _, j + 1, _, .cons _ r, e => RpA.get (j := j) r (by simpa using e)
theorem RpA.getV : ∀ {vs : List V} {ds : List D} {j : Nat} {v : V}, RpA B vs ds → vs[j]? = some v → ∃ d, ds[j]? = some d ∧ Rp B v d
  | _, _, _, _, .nil, e => by simp at e
  | _, _, 0, _, .cons a _, e => by
    simp only [List.getElem?_cons_zero, Option.some.injEq] at e
    subst e
    exact ⟨_, rfl, a⟩
  | _, _, j + 1, _, .cons _ r, e => RpA.getV (j := j) r (by simpa using e)
theorem RpA.append : ∀ {vs ws : List V} {ds es : List D}, RpA B vs ds → RpA B ws es → RpA B (vs ++ ws) (ds ++ es)
  | _, _, _, _, .nil, s => s
  | _, _, _, _, .cons a r, s => .cons a (RpA.append r s)
theorem RpA.take : ∀ {vs : List V} {ds : List D} (n : Nat), RpA B vs ds → RpA B (vs.take n) (ds.take n)
  | _, _, 0, _ => .nil
  | _, _, _ + 1, .nil => .nil
  | _, _, n + 1, .cons a r => .cons a (RpA.take n r)
theorem RpA.drop : ∀ {vs : List V} {ds : List D} (n : Nat), RpA B vs ds → RpA B (vs.drop n) (ds.drop n)
  | _, _, 0, r => r
  | _, _, _ + 1, .nil => .nil
  | _, _, n + 1, .cons _ r => RpA.drop n r
theorem RpA.set {v : V} {d : D} (h : Rp B v d) : ∀ {vs : List V} {ds : List D} (j : Nat), RpA B vs ds → RpA B (vs.set j v) (ds.set j d)
  | _, _, _, .nil => .nil
  | _, _, 0, .cons _ r => .cons h r
  | _, _, j + 1, .cons a r => .cons a (RpA.set h j r)
theorem RpA.reverse {vs : List V} {ds : List D} (h : RpA B vs ds) : RpA B vs.reverse ds.reverse := by
  induction vs generalizing ds with
  | nil => cases h; exact .nil
  | cons v vs ih =>
    cases h with
    | cons a r =>
      rw [List.reverse_cons, List.reverse_cons]
      exact (ih r).append (.cons a .nil)
theorem RpA.rep {vs : List V} {ds : List D} (h : RpA B vs ds) : ∀ n : Nat, RpA B (List.replicate n vs).flatten (List.replicate n ds).flatten
  | 0 => .nil
  | n + 1 => by
    rw [List.replicate_succ, List.replicate_succ, List.flatten_cons, List.flatten_cons]
    exact h.append (RpA.rep h n)
theorem RpA.dropLast {vs : List V} {ds : List D} (h : RpA B vs ds) : RpA B vs.dropLast ds.dropLast := by
  rw [List.dropLast_eq_take, List.dropLast_eq_take, h.length]
  exact h.take _
theorem RpA.ints : ∀ {vs : List V} {ds : List D} {ns : List Int}, RpA B vs ds → intsOf ds = some ns → vs = ns.map V.int
  | _, _, _, .nil, e => by
    simp only [intsOf, Option.some.injEq] at e
    subst e
    rfl
  | _, _, ns, .cons (v := v) (d := d) (vs := vs) (ds := ds) a r, e => by
    cases a with
    | int i =>
      rw [intsOf] at e
      obtain ⟨ms, e1, e2⟩ := Option.map_eq_some_iff.mp e
      subst e2
      rw [List.map_cons, ← RpA.ints r e1]
    | _ => simp [intsOf] at e
theorem RpA.bools : ∀ {vs : List V} {ds : List D} {bs : List Bool}, RpA B vs ds → boolsOf ds = some bs → vs = bs.map V.bl
  | _, _, _, .nil, e => by
    simp only [boolsOf, Option.some.injEq] at e
    subst e
    rfl
  | _, _, ns, .cons (v := v) (d := d) (vs := vs) (ds := ds) a r, e => by
    cases a with
    | bl i =>
      rw [boolsOf] at e
      obtain ⟨ms, e1, e2⟩ := Option.map_eq_some_iff.mp e
      subst e2
      rw [List.map_cons, ← RpA.bools r e1]
    | _ => simp [boolsOf] at e
end
mutual
theorem Rp.dp {K : PySem.W.Frag} {B H : Hp} (h : Same B H) : ∀ {v : V} {d : D}, Rp B v d → Dp K H v d
  | _, _, .non => .non
  | _, _, .bl b => .bl b
  | _, _, .int i => .int i
  | _, _, .str x _ => .str x
  | _, _, .lst e r _ => .lst (SqL.of (h _ _ e)) (RpA.dp h r)
  | _, _, .tup e r _ => .tup (SqT.of (h _ _ e)) (RpA.dp h r)
theorem RpA.dp {K : PySem.W.Frag} {B H : Hp} (h : Same B H) : ∀ {vs : List V} {ds : List D}, RpA B vs ds → DpAll K H vs ds
  | _, _, .nil => .nil
  | _, _, .cons a r => .cons (Rp.dp h a) (RpA.dp h r)
end
mutual
theorem Rp.lay {B : Hp} : ∀ {v : V} {d : D}, Rp B v d → PyData.canLay0 d = true
  | _, _, .non => by simp only [PyData.canLay0]
  | _, _, .bl b => by simp only [PyData.canLay0]
  | _, _, .int i => by simp only [PyData.canLay0]
  | _, _, .str x k => by simpa only [PyData.canLay0] using k
  | _, _, .lst e r _ => by simpa only [PyData.canLay0] using RpA.lay r
  | _, _, .tup e r _ => by simpa only [PyData.canLay0] using RpA.lay r
theorem RpA.lay {B : Hp} : ∀ {vs : List V} {ds : List D}, RpA B vs ds → PyData.canLayAll0 ds = true
  | _, _, .nil => by simp only [PyData.canLayAll0]
  | _, _, .cons a r => by simp only [PyData.canLayAll0, Rp.lay a, RpA.lay r, Bool.and_self]
end
/-! ### dicts -/
def keyD : Key → D
  | .inl i => .int i
  | .inr x => .str x
def keyOk : Key → Prop
  | .inl _ => True
  | .inr x => PyData.strOk x = true
inductive RpK (B : Hp) : List (Key × V) → List (D × D) → Prop
  | nil : RpK B [] []
  | cons {k : Key} {v : V} {d : D} {ks : List (Key × V)} {ds : List (D × D)} : keyOk k → Rp B v d → RpK B ks ds → RpK B ((k, v) :: ks) ((keyD k, d) :: ds)
inductive RpT (B : Hp) : List (List Key × V) → List (D × D) → Prop
  | nil : RpT B [] []
  | cons {k : List Key} {v : V} {d : D} {ks : List (List Key × V)} {ds : List (D × D)} : (∀ x ∈ k, keyOk x) → k.length ≤ sizeLine → Rp B v d → RpT B ks ds → RpT B ((k, v) :: ks) ((.tuple (k.map keyD), d) :: ds)
theorem RpK.mono {B B' : Hp} (h : Same B B') : ∀ {ks : List (Key × V)} {ds : List (D × D)}, RpK B ks ds → RpK B' ks ds
  | _, _, .nil => .nil
  | _, _, .cons o a r => .cons o (a.mono h) (RpK.mono h r)
theorem RpT.mono {B B' : Hp} (h : Same B B') : ∀ {ks : List (List Key × V)} {ds : List (D × D)}, RpT B ks ds → RpT B' ks ds
  | _, _, .nil => .nil
  | _, _, .cons o l a r => .cons o l (a.mono h) (RpT.mono h r)
theorem RpK.length {B : Hp} : ∀ {ks : List (Key × V)} {ds : List (D × D)}, RpK B ks ds → ks.length = ds.length
  | _, _, .nil => rfl
  | _, _, .cons _ _ r => by rw [List.length_cons, List.length_cons, RpK.length r]
theorem RpT.length {B : Hp} : ∀ {ks : List (List Key × V)} {ds : List (D × D)}, RpT B ks ds → ks.length = ds.length
  | _, _, .nil => rfl
  | _, _, .cons _ _ _ r => by rw [List.length_cons, List.length_cons, RpT.length r]
/-! ### worlds -/
/-- what is frozen; where the drawing state stands (its outer list, its inner list) -/
structure Wd where
  B : Hp
  st : Option (Addr × Addr)
def Wd.tp (W : Wd) (a : Addr) : Prop := ∃ x c, W.st = some (x, c) ∧ (a = x ∨ a = c)
def Wd.add (W : Wd) (p : Addr) (o : HO) : Wd := { W with B := upd W.B p o }
/-- an item of the drawing state's outer list -/
def tv (c : Addr) : D → V
  | .int i => .int i
  | _ => .ref c
inductive TapeOk (W : Wd) : Tape → Hp → Prop
  | off {H : Hp} : W.st = none → TapeOk W none H
  | on {H : Hp} {l : List D} (a c : Addr) (cells : List Int) : W.st = some (a, c) → a ≠ c → W.B a = none → W.B c = none → H c = some (.lst (cells.map V.int)) → cells.length ≤ sizeLine →
      H a = some (.lst (l.map (tv c))) → l.length ≤ sizeLine → (∀ d ∈ l, (∃ i, d = .int i) ∨ d = .list (cells.map .int)) → TapeOk W (some l) H
structure WI (W : Wd) (τ : Tape) (H : Hp) : Prop where
  sub : Same W.B H
  tape : TapeOk W τ H
/-- a step: the heap grows, what is frozen stays, only the drawing state changes -/
structure FrE (W : Wd) (H : Hp) (W' : Wd) (H' : Hp) : Prop where
  st : ∀ x, W.st = some x → W'.st = some x
  stn : ∀ a, W'.tp a → W.tp a ∨ H a = none
  B : Same W.B W'.B
  nb : ∀ a, W'.B a ≠ none → W.B a ≠ none ∨ H a = none
  hp : ∀ a o, H a = some o → ¬ W.tp a → H' a = some o
  Ht : ∀ a, H a ≠ none → H' a ≠ none
theorem FrE.refl (W : Wd) (H : Hp) : FrE W H W H := ⟨fun _ h => h, fun _ h => .inl h, Same.refl _, fun _ h => .inl h, fun _ _ h _ => h, fun _ h => h⟩
theorem FrE.tpof {W W' : Wd} {H H' : Hp} (f : FrE W H W' H') {a : Addr} (h : W.tp a) : W'.tp a := by
  obtain ⟨x, c, e, r⟩ := h
  exact ⟨x, c, f.st _ e, r⟩
theorem FrE.ntp {W W' : Wd} {H H' : Hp} (f : FrE W H W' H') {a : Addr} {o : HO} (h : H a = some o) (n : ¬ W.tp a) : ¬ W'.tp a := fun t => by
  rcases f.stn a t with z | z
  · exact n z
  · rw [h] at z
    cases z
theorem FrE.trans {W W1 W2 : Wd} {H H1 H2 : Hp} (f : FrE W H W1 H1) (g : FrE W1 H1 W2 H2) : FrE W H W2 H2 := by
  have nn : ∀ a, H1 a = none → H a = none := fun a h => by
    cases q : H a with
    | none => rfl
    | some o => exact absurd h (f.Ht a (by rw [q]; exact fun z => nomatch z))
  refine ⟨fun x h => g.st x (f.st x h), fun a h => ?_, f.B.trans g.B, fun a h => ?_, fun a o h n => ?_, fun a h => g.Ht a (f.Ht a h)⟩
  · rcases g.stn a h with z | z
    · exact f.stn a z
    · exact .inr (nn a z)
  · rcases g.nb a h with z | z
    · exact f.nb a z
    · exact .inr (nn a z)
  · exact g.hp a o (f.hp a o h n) (f.ntp h n)
theorem FrE.free {W W' : Wd} {H H' : Hp} (f : FrE W H W' H') {a : Addr} (h : H' a = none) : H a = none := by
  cases q : H a with
  | none => rfl
  | some o => exact absurd h (f.Ht a (by rw [q]; exact fun z => nomatch z))
/-- a frozen object is none of the drawing state's -/
theorem WI.notp {W : Wd} {τ : Tape} {H : Hp} (w : WI W τ H) {a : Addr} {o : HO} (h : W.B a = some o) : ¬ W.tp a := by
  rintro ⟨x, c, e, r⟩
  cases w.tape with
  | off e' => rw [e] at e'; cases e'
  | on x' c' cells e' n h1 h2 =>
    rw [e] at e'
    cases e'
    rcases r with rfl | rfl
    · rw [h] at h1; cases h1
    · rw [h] at h2; cases h2
theorem WI.tpx {W : Wd} {τ : Tape} {H : Hp} (w : WI W τ H) {a : Addr} (h : W.tp a) : ∃ xs, H a = some (.lst xs) := by
  obtain ⟨x, c, e, r⟩ := h
  cases w.tape with
  | off e' => rw [e] at e'; cases e'
  | on x' c' cells e' n h1 h2 e1 l1 e2 =>
    rw [e] at e'
    cases e'
    rcases r with rfl | rfl
    · exact ⟨_, e2⟩
    · exact ⟨_, e1⟩
/-- a new object, frozen at once -/
theorem new_obj {W : Wd} {τ : Tape} {H : Hp} (w : WI W τ H) {p : Addr} (o : HO) (hp : H p = none) : FrE W H (W.add p o) (upd H p o) ∧ WI (W.add p o) τ (upd H p o) := by
  have bp : W.B p = none := w.sub.free hp
  have ntp : ∀ a, W.tp a → a ≠ p := fun a t e => by
    obtain ⟨xs, q⟩ := w.tpx t
    rw [e, hp] at q
    cases q
  refine ⟨⟨fun _ h => h, fun _ h => .inl h, fun b x e => ?_, fun a h => ?_, fun a x e _ => ?_, fun a h => ?_⟩, ⟨fun b x e => ?_, ?_⟩⟩
  · show upd W.B p o b = some x
    rw [upd_ne (ne_of_none e bp)]
    exact e
  · by_cases e : a = p
    · exact .inr (e ▸ hp)
    · have h : upd W.B p o a ≠ none := h
      rw [upd_ne e] at h
      exact .inl h
  · rw [upd_ne (ne_of_none e hp)]
    exact e
  · by_cases e : a = p
    · exact absurd (e ▸ hp) h
    · rw [upd_ne e]
      exact h
  · have e : upd W.B p o b = some x := e
    by_cases k : b = p
    · subst k
      rw [upd_same] at e ⊢
      exact e
    · rw [upd_ne k] at e ⊢
      exact w.sub b x e
  · cases w.tape with
    | off e => exact .off e
    | on a c cells e n h1 h2 e1 l1 e2 l2 al =>
      have na : a ≠ p := ntp a ⟨a, c, e, .inl rfl⟩
      have nc : c ≠ p := ntp c ⟨a, c, e, .inr rfl⟩
      refine .on a c cells e n ?_ ?_ ?_ l1 ?_ l2 al
      · show upd W.B p o a = none
        rw [upd_ne na]; exact h1
      · show upd W.B p o c = none
        rw [upd_ne nc]; exact h2
      · rw [upd_ne nc]; exact e1
      · rw [upd_ne na]; exact e2
theorem WI.none_ {W : Wd} {τ : Tape} {H : Hp} (w : WI W τ H) {p : Addr} (h : H p = none) : W.B p = none := w.sub.free h
/-! ### operands: frozen data, or own lists and dicts that stand -/
def OwnL (W : Wd) (H : Hp) (v : V) (ds : List D) : Prop := ∃ a vs, v = .ref a ∧ H a = some (.lst vs) ∧ ¬ W.tp a ∧ RpA W.B vs ds ∧ ds.length ≤ sizeLine
def OwnK (W : Wd) (H : Hp) (v : V) (ds : List (D × D)) : Prop := ∃ a ks, v = .ref a ∧ H a = some (.dK ks) ∧ ¬ W.tp a ∧ RpK W.B ks ds
def OwnT (W : Wd) (H : Hp) (v : V) (ds : List (D × D)) : Prop := ∃ a ks, v = .ref a ∧ H a = some (.dT ks) ∧ ¬ W.tp a ∧ RpT W.B ks ds
def Opd (W : Wd) (H : Hp) (v : V) (d : D) : Prop := Rp W.B v d ∨ ∃ ds, d = .list ds ∧ OwnL W H v ds
/-- an operand that is a dict -/
def OpdD (t : Bool) (W : Wd) (H : Hp) (v : V) (d : D) : Prop := ∃ ds, d = .dict ds ∧ if t then OwnT W H v ds else OwnK W H v ds
/-- a frozen dict -/
def RpD (t : Bool) (B : Hp) (v : V) (d : D) : Prop := ∃ a ds, v = .ref a ∧ d = .dict ds ∧ if t then ∃ ks, B a = some (.dT ks) ∧ RpT B ks ds else ∃ ks, B a = some (.dK ks) ∧ RpK B ks ds
/-- a value as a def takes it or hands it back -/
def Jv (W : Wd) : Ty → V → D → Prop
  | .p => Rp W.B
  | .pK => RpD false W.B
  | .pT => RpD true W.B
  | .st => fun v d => d = .none ∧ ∃ a c, v = .ref a ∧ W.st = some (a, c)
  | _ => fun _ _ => False
section
variable {W W' : Wd} {H H' : Hp} {τ : Tape} {v : V} {d : D}
theorem OwnL.mono (f : FrE W H W' H') {ds : List D} (h : OwnL W H v ds) : OwnL W' H' v ds := by
  obtain ⟨a, vs, e, h1, n, r, l⟩ := h
  exact ⟨a, vs, e, f.hp a _ h1 n, f.ntp h1 n, r.mono f.B, l⟩
theorem OwnK.mono (f : FrE W H W' H') {ds : List (D × D)} (h : OwnK W H v ds) : OwnK W' H' v ds := by
  obtain ⟨a, vs, e, h1, n, r⟩ := h
  exact ⟨a, vs, e, f.hp a _ h1 n, f.ntp h1 n, r.mono f.B⟩
theorem OwnT.mono (f : FrE W H W' H') {ds : List (D × D)} (h : OwnT W H v ds) : OwnT W' H' v ds := by
  obtain ⟨a, vs, e, h1, n, r⟩ := h
  exact ⟨a, vs, e, f.hp a _ h1 n, f.ntp h1 n, r.mono f.B⟩
theorem Opd.mono (f : FrE W H W' H') (h : Opd W H v d) : Opd W' H' v d := by
  rcases h with h | ⟨ds, e, h⟩
  · exact .inl (h.mono f.B)
  · exact .inr ⟨ds, e, h.mono f⟩
theorem OpdD.mono {t : Bool} (f : FrE W H W' H') (h : OpdD t W H v d) : OpdD t W' H' v d := by
  obtain ⟨ds, e, h⟩ := h
  refine ⟨ds, e, ?_⟩
  cases t with
  | true => exact OwnT.mono f h
  | false => exact OwnK.mono f h
theorem RpD.mono {t : Bool} {B B' : Hp} (h : Same B B') (r : RpD t B v d) : RpD t B' v d := by
  obtain ⟨a, ds, e, e', q⟩ := r
  refine ⟨a, ds, e, e', ?_⟩
  cases t with
  | true =>
    obtain ⟨ks, h1, h2⟩ := q
    exact ⟨ks, h _ _ h1, h2.mono h⟩
  | false =>
    obtain ⟨ks, h1, h2⟩ := q
    exact ⟨ks, h _ _ h1, h2.mono h⟩
theorem RpD.opd {t : Bool} (w : WI W τ H) (r : RpD t W.B v d) : OpdD t W H v d := by
  obtain ⟨a, ds, e, e', q⟩ := r
  refine ⟨ds, e', ?_⟩
  cases t with
  | true =>
    obtain ⟨ks, h1, h2⟩ := q
    exact ⟨a, ks, e, w.sub _ _ h1, w.notp h1, h2⟩
  | false =>
    obtain ⟨ks, h1, h2⟩ := q
    exact ⟨a, ks, e, w.sub _ _ h1, w.notp h1, h2⟩
theorem Jv.mono (f : FrE W H W' H') {t : Ty} (h : Jv W t v d) : Jv W' t v d := by
  cases t with
  | p => exact Rp.mono f.B h
  | pK => exact RpD.mono f.B h
  | pT => exact RpD.mono f.B h
  | st =>
    obtain ⟨e, a, c, h1, h2⟩ := h
    exact ⟨e, a, c, h1, f.st _ h2⟩
  | _ => exact h.elim
theorem Opd.int {i : Int} (h : Opd W H v (.int i)) : v = .int i := by
  rcases h with h | ⟨ds, e, h⟩
  · cases h; rfl
  · cases e
theorem Opd.bool {b : Bool} (h : Opd W H v (.bool b)) : v = .bl b := by
  rcases h with h | ⟨ds, e, h⟩
  · cases h; rfl
  · cases e
theorem Opd.none_ (h : Opd W H v .none) : v = .non := by
  rcases h with h | ⟨ds, e, h⟩
  · cases h; rfl
  · cases e
theorem Opd.str {x : Str} (h : Opd W H v (.str x)) : v = .str x ∧ PyData.strOk x = true := by
  rcases h with h | ⟨ds, e, h⟩
  · cases h with
    | str _ k => exact ⟨rfl, k⟩
  · cases e
theorem Opd.list (w : WI W τ H) {ds : List D} (h : Opd W H v (.list ds)) : OwnL W H v ds := by
  rcases h with h | ⟨ds', e, h⟩
  · cases h with
    | lst e r l => exact ⟨_, _, rfl, w.sub _ _ e, w.notp e, r, l⟩
  · cases e; exact h
theorem Opd.tup {ds : List D} (h : Opd W H v (.tuple ds)) : ∃ a vs, v = .ref a ∧ W.B a = some (.tup vs) ∧ RpA W.B vs ds ∧ ds.length ≤ sizeLine := by
  rcases h with h | ⟨ds', e, h⟩
  · cases h with
    | tup e r l => exact ⟨_, _, rfl, e, r, l⟩
  · cases e
theorem Opd.tupR {ds : List D} (h : Opd W H v (.tuple ds)) : Rp W.B v (.tuple ds) := by
  rcases h with h | ⟨ds', e, h⟩
  · exact h
  · cases e
theorem Opd.nodict {ds : List (D × D)} (h : Opd W H v (.dict ds)) : False := by
  rcases h with h | ⟨ds', e, h⟩
  · cases h
  · cases e
theorem Opd.non_iff (h : Opd W H v d) : v = .non ↔ d = .none := by
  rcases h with h | ⟨ds', e, h⟩
  · cases h <;> simp
  · subst e
    obtain ⟨a, vs, e, _⟩ := h
    subst e
    simp
theorem Opd.isN (h : Opd W H v d) : decide (v = .non) = isNoneD d := by
  have := h.non_iff
  cases d <;> simp [this, isNoneD]
/-- for deep comparisons -/
theorem Opd.dp {K : PySem.W.Frag} (w : WI W τ H) (h : Opd W H v d) : Dp K H v d ∧ PyData.canLay0 d = true := by
  rcases h with h | ⟨ds, e, h⟩
  · exact ⟨h.dp w.sub, h.lay⟩
  · subst e
    obtain ⟨a, vs, rfl, h1, _, r, _⟩ := h
    exact ⟨.lst (SqL.of h1) (r.dp w.sub), by simpa only [PyData.canLay0] using r.lay⟩
end
/-! ### slots -/
def InnerL (W : Wd) (H : Hp) : List V → List D → List Addr → Prop
  | [], [], [] => True
  | .ref a :: vs, .list ds :: es, b :: as => a = b ∧ (∃ ws, H a = some (.lst ws) ∧ W.B a = none ∧ ¬ W.tp a ∧ RpA W.B ws ds ∧ ds.length ≤ sizeLine) ∧ InnerL W H vs es as
  | _, _, _ => False
def Slot (W : Wd) (H : Hp) : Ty → Option D → Option V → List Addr → Prop
  | .u, _, _, F => F = []
  | .p, g, s, F => F = [] ∧ ∃ d v, g = some d ∧ s = some v ∧ Rp W.B v d
  | .pK, g, s, F => F = [] ∧ ∃ d v, g = some d ∧ s = some v ∧ RpD false W.B v d
  | .pT, g, s, F => F = [] ∧ ∃ d v, g = some d ∧ s = some v ∧ RpD true W.B v d
  | .st, g, s, F => F = [] ∧ g = some .none ∧ ∃ a c, s = some (.ref a) ∧ W.st = some (a, c)
  | .cl, g, s, F => F = [] ∧ g = some .none ∧ ∃ a c, s = some (.ref c) ∧ W.st = some (a, c)
  | .o, g, s, F => ∃ a vs ds, F = [a] ∧ g = some (.list ds) ∧ s = some (.ref a) ∧ H a = some (.lst vs) ∧ W.B a = none ∧ ¬ W.tp a ∧ RpA W.B vs ds ∧ ds.length ≤ sizeLine
  | .oo, g, s, F => ∃ a as vs ds, F = a :: as ∧ g = some (.list ds) ∧ s = some (.ref a) ∧ H a = some (.lst vs) ∧ W.B a = none ∧ ¬ W.tp a ∧ InnerL W H vs ds as ∧ ds.length ≤ sizeLine
  | .dK, g, s, F => ∃ a ks ds, F = [a] ∧ g = some (.dict ds) ∧ s = some (.ref a) ∧ H a = some (.dK ks) ∧ W.B a = none ∧ ¬ W.tp a ∧ RpK W.B ks ds
  | .dT, g, s, F => ∃ a ks ds, F = [a] ∧ g = some (.dict ds) ∧ s = some (.ref a) ∧ H a = some (.dT ks) ∧ W.B a = none ∧ ¬ W.tp a ∧ RpT W.B ks ds
theorem InnerL.mono {W W' : Wd} {H H' : Hp} (f : FrE W H W' H') : ∀ {vs : List V} {ds : List D} {as : List Addr}, InnerL W H vs ds as → InnerL W' H' vs ds as
  | [], [], [], _ => trivial
  | .ref a :: vs, .list ds :: es, b :: as, h => by
    obtain ⟨e, ⟨ws, h1, h2, n, r, l⟩, t⟩ := h
    refine ⟨e, ⟨ws, f.hp a _ h1 n, ?_, f.ntp h1 n, r.mono f.B, l⟩, InnerL.mono f t⟩
    cases q : W'.B a with
    | none => rfl
    | some o =>
      rcases f.nb a (by rw [q]; exact fun z => nomatch z) with z | z
      · exact absurd h2 z
      · rw [h1] at z; cases z
theorem FrE.ownB {W W' : Wd} {H H' : Hp} (f : FrE W H W' H') {a : Addr} {o : HO} (h1 : H a = some o) (h2 : W.B a = none) : W'.B a = none := by
  cases q : W'.B a with
  | none => rfl
  | some o =>
    rcases f.nb a (by rw [q]; exact fun z => nomatch z) with z | z
    · exact absurd h2 z
    · rw [h1] at z; cases z
theorem Slot.mono {W W' : Wd} {H H' : Hp} (f : FrE W H W' H') {t : Ty} {g : Option D} {s : Option V} {F : List Addr} (h : Slot W H t g s F) : Slot W' H' t g s F := by
  cases t with
  | u => exact h
  | p =>
    obtain ⟨e, d, v, h1, h2, r⟩ := h
    exact ⟨e, d, v, h1, h2, r.mono f.B⟩
  | pK =>
    obtain ⟨e, d, v, h1, h2, r⟩ := h
    exact ⟨e, d, v, h1, h2, r.mono f.B⟩
  | pT =>
    obtain ⟨e, d, v, h1, h2, r⟩ := h
    exact ⟨e, d, v, h1, h2, r.mono f.B⟩
  | st =>
    obtain ⟨e, e', a, c, h1, h2⟩ := h
    exact ⟨e, e', a, c, h1, f.st _ h2⟩
  | cl =>
    obtain ⟨e, e', a, c, h1, h2⟩ := h
    exact ⟨e, e', a, c, h1, f.st _ h2⟩
  | o =>
    obtain ⟨a, vs, ds, e, h1, h2, h3, h4, n, r, l⟩ := h
    exact ⟨a, vs, ds, e, h1, h2, f.hp a _ h3 n, f.ownB h3 h4, f.ntp h3 n, r.mono f.B, l⟩
  | oo =>
    obtain ⟨a, as, vs, ds, e, h1, h2, h3, h4, n, r, l⟩ := h
    exact ⟨a, as, vs, ds, e, h1, h2, f.hp a _ h3 n, f.ownB h3 h4, f.ntp h3 n, r.mono f, l⟩
  | dK =>
    obtain ⟨a, vs, ds, e, h1, h2, h3, h4, n, r⟩ := h
    exact ⟨a, vs, ds, e, h1, h2, f.hp a _ h3 n, f.ownB h3 h4, f.ntp h3 n, r.mono f.B⟩
  | dT =>
    obtain ⟨a, vs, ds, e, h1, h2, h3, h4, n, r⟩ := h
    exact ⟨a, vs, ds, e, h1, h2, f.hp a _ h3 n, f.ownB h3 h4, f.ntp h3 n, r.mono f.B⟩
def ty (Γ : List Ty) (i : Nat) : Ty := Γ.getD i .u
structure SL (W : Wd) (fp : Nat → List Addr) (Γ : List Ty) (γ : En) (σ : L2.St) (H : Hp) : Prop where
  slot : ∀ i, Slot W H (ty Γ i) (rd γ i) (σ.getD i none) (fp i)
  nd : ∀ i, (fp i).Nodup
  dj : ∀ i j, i ≠ j → ∀ a ∈ fp i, a ∉ fp j
  len : γ.length = σ.length
  lenG : Γ.length = σ.length
theorem SL.mono {W W' : Wd} {H H' : Hp} {fp : Nat → List Addr} {Γ : List Ty} {γ : En} {σ : L2.St} (f : FrE W H W' H') (h : SL W fp Γ γ σ H) : SL W' fp Γ γ σ H' :=
  ⟨fun i => (h.slot i).mono f, h.nd, h.dj, h.len, h.lenG⟩
theorem getD_some {α : Type} {l : List (Option α)} {i : Nat} {x : α} (h : l.getD i none = some x) : l[i]? = some (some x) := by
  rw [List.getD_eq_getElem?_getD] at h
  cases q : l[i]? with
  | none => rw [q] at h; cases h
  | some y =>
    rw [q] at h
    have h : y = some x := h
    rw [h]
end Ev
set_option Elab.async false
set_option linter.all false
set_option maxRecDepth 100000
set_option autoImplicit false
/-! Ev3: readings of expressions by runs; operators. -/
namespace Ev
open PySem PySem.Spec PyProof.Rows L2
theorem PEw {X : Cx} {e : Expr} {t t' : TE} (h : PE X e t) (w : ∀ σ H Q, t' σ H Q → t σ H Q) : PE X e t' := ⟨fun pins s σ H Q I h' => h.run pins s σ H Q I (w σ H Q h')⟩
theorem PTw {X : Cx} {e : Expr} {t t' : TT} (h : PT X e t) (w : ∀ σ H Q, t' σ H Q → t σ H Q) : PT X e t' := ⟨fun pins s σ H Q I h' => h.run pins s σ H Q I (w σ H Q h')⟩
theorem PWw {X : Cx} {e : Expr} {t t' : TT} (h : PW X e t) (w : ∀ σ H Q, t' σ H Q → t σ H Q) : PW X e t' := ⟨fun wh pins s σ H Q I h' => h.run wh pins s σ H Q I (w σ H Q h')⟩
theorem PAw {X : Cx} {es : List Expr} {t t' : TA} (h : PA X es t) (w : ∀ σ H Q, t' σ H Q → t σ H Q) : PA X es t' := ⟨fun pos pins s σ H Q I h' => h.run pos pins s σ H Q I (w σ H Q h')⟩
theorem PSw {X : Cx} {st : Stmt} {t t' : TS} (h : PS X st t) (w : ∀ D σ H, t' D σ H → t D σ H) : PS X st t' := ⟨fun pins s σ H D I h' => h.run pins s σ H D I (w D σ H h')⟩
theorem PSsw {X : Cx} {st : List Stmt} {t t' : TS} (h : PSs X st t) (w : ∀ D σ H, t' D σ H → t D σ H) : PSs X st t' := ⟨fun pins s σ H D I h' => h.run pins s σ H D I (w D σ H h')⟩
theorem PIw {X : Cx} {tg e : Expr} {t t' : TI} (h : PI X tg e t) (w : ∀ σ H R, t' σ H R → t σ H R) : PI X tg e t' := ⟨fun pins s σ H R I h' => h.run pins s σ H R I (w σ H R h')⟩
section
variable (cf : CF) (Γ : List Ty)
def tJ (ie : IE) (t : Ty) : TE := fun σ H Q => ∃ W fp γ τ d τ', WI W τ H ∧ SL W fp Γ γ σ H ∧ evalE cf ie γ τ = some (d, τ') ∧ ∀ v W' H', FrE W H W' H' → WI W' τ' H' → Jv W' t v d → Q v H'
def tB (ie : IE) : TE := fun σ H Q => ∃ W fp γ τ d τ', WI W τ H ∧ SL W fp Γ γ σ H ∧ evalE cf ie γ τ = some (d, τ') ∧ ∀ v W' H', FrE W H W' H' → WI W' τ' H' → Opd W' H' v d → Q v H'
def tD (t : Bool) (ie : IE) : TE := fun σ H Q => ∃ W fp γ τ d τ', WI W τ H ∧ SL W fp Γ γ σ H ∧ evalE cf ie γ τ = some (d, τ') ∧ ∀ v W' H', FrE W H W' H' → WI W' τ' H' → OpdD t W' H' v d → Q v H'
def tT (ie : IE) : TT := fun σ H Q => ∃ W fp γ τ b τ', WI W τ H ∧ SL W fp Γ γ σ H ∧ tst (evalE cf ie γ τ) = some (b, τ') ∧ ∀ W' H', FrE W H W' H' → WI W' τ' H' → Q b H'
def JvA (W : Wd) : List Ty → List V → List D → Prop
  | [], [], [] => True
  | t :: ts, v :: vs, d :: ds => Jv W t v d ∧ JvA W ts vs ds
  | _, _, _ => False
def tJs (ies : List IE) (ts : List Ty) : TA := fun σ H Q => ∃ W fp γ τ ds τ', WI W τ H ∧ SL W fp Γ γ σ H ∧ evalEs cf ies γ τ = some (ds, τ') ∧ ∀ vs W' H', FrE W H W' H' → WI W' τ' H' → JvA W' ts vs ds → Q vs H'
def tPs (ies : List IE) : TA := fun σ H Q => ∃ W fp γ τ ds τ', WI W τ H ∧ SL W fp Γ γ σ H ∧ evalEs cf ies γ τ = some (ds, τ') ∧ ∀ vs W' H', FrE W H W' H' → WI W' τ' H' → RpA W'.B vs ds → Q vs H'
/-- operands: data, or own lists -/
def OpA (W : Wd) (H : Hp) : List V → List D → Prop
  | [], [] => True
  | v :: vs, d :: ds => Opd W H v d ∧ OpA W H vs ds
  | _, _ => False
def tBs (ies : List IE) : TA := fun σ H Q => ∃ W fp γ τ ds τ', WI W τ H ∧ SL W fp Γ γ σ H ∧ evalEs cf ies γ τ = some (ds, τ') ∧ ∀ vs W' H', FrE W H W' H' → WI W' τ' H' → OpA W' H' vs ds → Q vs H'
end
theorem JvA.mono {W W' : Wd} {H H' : Hp} (f : FrE W H W' H') : ∀ {ts : List Ty} {vs : List V} {ds : List D}, JvA W ts vs ds → JvA W' ts vs ds
  | [], [], [], _ => trivial
  | _ :: _, _ :: _, _ :: _, h => ⟨h.1.mono f, JvA.mono f h.2⟩
theorem OpA.mono {W W' : Wd} {H H' : Hp} (f : FrE W H W' H') : ∀ {vs : List V} {ds : List D}, OpA W H vs ds → OpA W' H' vs ds
  | [], [], _ => trivial
  | _ :: _, _ :: _, h => ⟨h.1.mono f, OpA.mono f h.2⟩
section
variable {cf : CF} {Γ : List Ty} {X : Cx}
/-- two operands, the left one first -/
theorem seq2 {ia ib : IE} {W : Wd} {fp : Nat → List Addr} {γ : En} {τ τ1 τ2 : Tape} {x y : D} {σ : L2.St} {H : Hp} {Rr : V → V → Hp → Prop} (w : WI W τ H) (sl : SL W fp Γ γ σ H)
    (e1 : evalE cf ia γ τ = some (x, τ1)) (e2 : evalE cf ib γ τ1 = some (y, τ2)) (h : ∀ vx vy W2 H2, FrE W H W2 H2 → WI W2 τ2 H2 → Opd W2 H2 vx x → Opd W2 H2 vy y → Rr vx vy H2) :
    tB cf Γ ia σ H fun vx H1 => tB cf Γ ib σ H1 fun vy H2 => Rr vx vy H2 :=
  ⟨W, fp, γ, τ, x, τ1, w, sl, e1, fun vx W1 H1 f1 w1 o1 => ⟨W1, fp, γ, τ1, y, τ2, w1, sl.mono f1, e2, fun vy W2 H2 f2 w2 o2 => h vx vy W2 H2 (f1.trans f2) w2 (o1.mono f2) o2⟩⟩
/-! ### names, constants -/
theorem slot_at {W : Wd} {fp : Nat → List Addr} {γ : En} {σ : L2.St} {H : Hp} (sl : SL W fp Γ γ σ H) (i : Nat) {t : Ty} (ht : ty Γ i = t) : Slot W H t (rd γ i) (σ.getD i none) (fp i) := ht ▸ sl.slot i
theorem rd_ev {i : Nat} {γ : En} {τ τ' : Tape} {d : D} (e : evalE cf (.v i) γ τ = some (d, τ')) : rd γ i = some d ∧ τ' = τ := by
  simp only [evalE, Option.map_eq_some_iff, Prod.mk.injEq] at e
  obtain ⟨a, h, rfl, rfl⟩ := e
  exact ⟨h, rfl⟩
theorem je_v {i : Nat} {e : Expr} {t : Ty} (h : PE X e (tVar i)) (ht : ty Γ i = t) (hk : t = .p ∨ t = .pK ∨ t = .pT ∨ t = .st) : PE X e (tJ cf Γ (.v i) t) := by
  refine PEw h fun σ H Q ⟨W, fp, γ, τ, d, τ', w, sl, ev, q⟩ => ?_
  obtain ⟨hr, rfl⟩ := rd_ev ev
  have s := slot_at sl i ht
  rcases hk with rfl | rfl | rfl | rfl
  · obtain ⟨_, d', v, h1, h2, r⟩ := s
    rw [hr] at h1
    cases h1
    exact ⟨v, getD_some h2, q v W H (.refl W H) w r⟩
  · obtain ⟨_, d', v, h1, h2, r⟩ := s
    rw [hr] at h1
    cases h1
    exact ⟨v, getD_some h2, q v W H (.refl W H) w r⟩
  · obtain ⟨_, d', v, h1, h2, r⟩ := s
    rw [hr] at h1
    cases h1
    exact ⟨v, getD_some h2, q v W H (.refl W H) w r⟩
  · obtain ⟨_, h1, a, c, h2, r⟩ := s
    rw [hr] at h1
    cases h1
    exact ⟨_, getD_some h2, q _ W H (.refl W H) w ⟨rfl, a, c, rfl, r⟩⟩
theorem jb_v {i : Nat} {e : Expr} (h : PE X e (tVar i)) (ht : ty Γ i = .p ∨ ty Γ i = .o) : PE X e (tB cf Γ (.v i)) := by
  refine PEw h fun σ H Q ⟨W, fp, γ, τ, d, τ', w, sl, ev, q⟩ => ?_
  obtain ⟨hr, rfl⟩ := rd_ev ev
  rcases ht with ht | ht
  · have s := slot_at sl i ht
    obtain ⟨_, d', v, h1, h2, r⟩ := s
    rw [hr] at h1
    cases h1
    exact ⟨v, getD_some h2, q v W H (.refl W H) w (.inl r)⟩
  · have s := slot_at sl i ht
    obtain ⟨a, vs, ds, _, h1, h2, h3, h4, n, r, l⟩ := s
    rw [hr] at h1
    cases h1
    exact ⟨_, getD_some h2, q _ W H (.refl W H) w (.inr ⟨ds, rfl, a, vs, rfl, h3, n, r, l⟩)⟩
theorem jd_v {i : Nat} {e : Expr} {t : Bool} (h : PE X e (tVar i)) (ht : ty Γ i = (if t then .dT else .dK) ∨ ty Γ i = if t then .pT else .pK) : PE X e (tD cf Γ t (.v i)) := by
  refine PEw h fun σ H Q ⟨W, fp, γ, τ, d, τ', w, sl, ev, q⟩ => ?_
  obtain ⟨hr, rfl⟩ := rd_ev ev
  cases t with
  | true =>
    rcases ht with ht | ht
    · have s := slot_at sl i (t := .dT) ht
      obtain ⟨a, ks, ds, _, h1, h2, h3, h4, n, r⟩ := s
      rw [hr] at h1
      cases h1
      exact ⟨_, getD_some h2, q _ W H (.refl W H) w ⟨ds, rfl, a, ks, rfl, h3, n, r⟩⟩
    · have s := slot_at sl i (t := .pT) ht
      obtain ⟨_, d', v, h1, h2, r⟩ := s
      rw [hr] at h1
      cases h1
      exact ⟨v, getD_some h2, q v W H (.refl W H) w (RpD.opd w r)⟩
  | false =>
    rcases ht with ht | ht
    · have s := slot_at sl i (t := .dK) ht
      obtain ⟨a, ks, ds, _, h1, h2, h3, h4, n, r⟩ := s
      rw [hr] at h1
      cases h1
      exact ⟨_, getD_some h2, q _ W H (.refl W H) w ⟨ds, rfl, a, ks, rfl, h3, n, r⟩⟩
    · have s := slot_at sl i (t := .pK) ht
      obtain ⟨_, d', v, h1, h2, r⟩ := s
      rw [hr] at h1
      cases h1
      exact ⟨v, getD_some h2, q v W H (.refl W H) w (RpD.opd w r)⟩
theorem je_c {e : Expr} {v : V} {d : D} (h : PE X e (tC v)) (r : ∀ B, Rp B v d) : PE X e (tJ cf Γ (.c d) .p) := by
  refine PEw h fun σ H Q ⟨W, fp, γ, τ, d', τ', w, sl, ev, q⟩ => ?_
  simp only [evalE, Option.some.injEq, Prod.mk.injEq] at ev
  obtain ⟨rfl, rfl⟩ := ev
  exact q v W H (.refl W H) w (r _)
theorem jb_of {e : Expr} {ie : IE} (h : PE X e (tJ cf Γ ie .p)) : PE X e (tB cf Γ ie) :=
  PEw h fun σ H Q ⟨W, fp, γ, τ, d, τ', w, sl, ev, q⟩ => ⟨W, fp, γ, τ, d, τ', w, sl, ev, fun v W' H' f w' r => q v W' H' f w' (.inl r)⟩
theorem jd_of {e : Expr} {ie : IE} {t : Bool} (h : PE X e (tJ cf Γ ie (if t then .pT else .pK))) : PE X e (tD cf Γ t ie) :=
  PEw h fun σ H Q ⟨W, fp, γ, τ, d, τ', w, sl, ev, q⟩ => ⟨W, fp, γ, τ, d, τ', w, sl, ev, fun v W' H' f w' r => q v W' H' f w' (by
    cases t with
    | true => exact RpD.opd w' r
    | false => exact RpD.opd w' r)⟩
/-! ### lists of expressions -/
theorem evs_nil {γ : En} {τ : Tape} {p : List D × Tape} (e : evalEs cf [] γ τ = some p) : p = ([], τ) := by
  simp only [evalEs, Option.some.injEq] at e
  exact e.symm
theorem evs_cons {ie : IE} {ies : List IE} {γ : En} {τ τ' : Tape} {ds : List D} (e : evalEs cf (ie :: ies) γ τ = some (ds, τ')) :
    ∃ d τ1 ds', evalE cf ie γ τ = some (d, τ1) ∧ evalEs cf ies γ τ1 = some (ds', τ') ∧ ds = d :: ds' := by
  simp only [evalEs, Option.bind_eq_some_iff, Option.map_eq_some_iff, Prod.mk.injEq, Prod.exists] at e
  obtain ⟨d, τ1, h1, ds', τ2, h2, rfl, rfl⟩ := e
  exact ⟨d, τ1, ds', h1, h2, rfl⟩
theorem js_nil : PA X [] (tJs cf Γ [] []) := PAw pa_nil fun σ H Q ⟨W, fp, γ, τ, ds, τ', w, sl, ev, q⟩ => by
  cases evs_nil ev
  exact q [] W H (.refl W H) w trivial
theorem js_cons {e : Expr} {es : List Expr} {ie : IE} {ies : List IE} {t : Ty} {ts : List Ty} (h : PE X e (tJ cf Γ ie t)) (hr : PA X es (tJs cf Γ ies ts)) (hs : starEach (e :: es) X.env = (false, eval e X.env) :: starEach es X.env) :
    PA X (e :: es) (tJs cf Γ (ie :: ies) (t :: ts)) := PAw (pa_cons h hr hs) fun σ H Q ⟨W, fp, γ, τ, ds, τ', w, sl, ev, q⟩ => by
  obtain ⟨d, τ1, ds', e1, e2, rfl⟩ := evs_cons ev
  exact ⟨W, fp, γ, τ, d, τ1, w, sl, e1, fun v W1 H1 f1 w1 r1 => ⟨W1, fp, γ, τ1, ds', τ', w1, sl.mono f1, e2, fun vs W2 H2 f2 w2 r2 => q (v :: vs) W2 H2 (f1.trans f2) w2 ⟨r1.mono f2, r2⟩⟩⟩
theorem jps_nil : PA X [] (tPs cf Γ []) := PAw pa_nil fun σ H Q ⟨W, fp, γ, τ, ds, τ', w, sl, ev, q⟩ => by
  cases evs_nil ev
  exact q [] W H (.refl W H) w .nil
theorem jps_cons {e : Expr} {es : List Expr} {ie : IE} {ies : List IE} (h : PE X e (tJ cf Γ ie .p)) (hr : PA X es (tPs cf Γ ies)) (hs : starEach (e :: es) X.env = (false, eval e X.env) :: starEach es X.env) :
    PA X (e :: es) (tPs cf Γ (ie :: ies)) := PAw (pa_cons h hr hs) fun σ H Q ⟨W, fp, γ, τ, ds, τ', w, sl, ev, q⟩ => by
  obtain ⟨d, τ1, ds', e1, e2, rfl⟩ := evs_cons ev
  exact ⟨W, fp, γ, τ, d, τ1, w, sl, e1, fun v W1 H1 f1 w1 r1 => ⟨W1, fp, γ, τ1, ds', τ', w1, sl.mono f1, e2, fun vs W2 H2 f2 w2 r2 => q (v :: vs) W2 H2 (f1.trans f2) w2 (.cons (Rp.mono f2.B r1) r2)⟩⟩
theorem jbs_nil : PA X [] (tBs cf Γ []) := PAw pa_nil fun σ H Q ⟨W, fp, γ, τ, ds, τ', w, sl, ev, q⟩ => by
  cases evs_nil ev
  exact q [] W H (.refl W H) w trivial
theorem jbs_cons {e : Expr} {es : List Expr} {ie : IE} {ies : List IE} (h : PE X e (tB cf Γ ie)) (hr : PA X es (tBs cf Γ ies)) (hs : starEach (e :: es) X.env = (false, eval e X.env) :: starEach es X.env) :
    PA X (e :: es) (tBs cf Γ (ie :: ies)) := PAw (pa_cons h hr hs) fun σ H Q ⟨W, fp, γ, τ, ds, τ', w, sl, ev, q⟩ => by
  obtain ⟨d, τ1, ds', e1, e2, rfl⟩ := evs_cons ev
  exact ⟨W, fp, γ, τ, d, τ1, w, sl, e1, fun v W1 H1 f1 w1 r1 => ⟨W1, fp, γ, τ1, ds', τ', w1, sl.mono f1, e2, fun vs W2 H2 f2 w2 r2 => q (v :: vs) W2 H2 (f1.trans f2) w2 ⟨r1.mono f2, r2⟩⟩⟩
theorem evs_len {ies : List IE} {γ : En} : ∀ {τ τ' : Tape} {ds : List D}, evalEs cf ies γ τ = some (ds, τ') → ds.length = ies.length := by
  induction ies with
  | nil => intro τ τ' ds e; cases evs_nil e; rfl
  | cons a r ih =>
    intro τ τ' ds e
    obtain ⟨d, τ1, ds', e1, e2, rfl⟩ := evs_cons e
    rw [List.length_cons, List.length_cons, ih e2]
theorem je_tup {es : List Expr} {ies : List IE} {pos : Pos} {k : Nat} (h : PA X es (tPs cf Γ ies)) (hl : ies.length ≤ sizeLine) : PE X (.Tuple es k pos) (tJ cf Γ (.tup ies) .p) :=
  PEw (pe_tup h) fun σ H Q ⟨W, fp, γ, τ, d, τ', w, sl, ev, q⟩ => by
    simp only [evalE, Option.map_eq_some_iff, Prod.mk.injEq, Prod.exists] at ev
    obtain ⟨ds, _, e1, rfl, rfl⟩ := ev
    refine ⟨W, fp, γ, τ, ds, _, w, sl, e1, fun vs W1 H1 f1 w1 r1 => ?_⟩
    have hz : ds.length ≤ sizeLine := by rw [evs_len e1]; exact hl
    refine ⟨by rw [r1.length]; exact hz, fun p hp => ?_⟩
    obtain ⟨f2, w2⟩ := new_obj w1 (.tup vs) hp
    exact q _ _ _ (f1.trans f2) w2 (.tup upd_same (r1.mono f2.B) hz)
theorem je_lst {es : List Expr} {ies : List IE} {pos : Pos} (h : PA X es (tPs cf Γ ies)) (hl : ies.length ≤ sizeLine) : PE X (.List es pos) (tJ cf Γ (.lst ies) .p) :=
  PEw (pe_lst h) fun σ H Q ⟨W, fp, γ, τ, d, τ', w, sl, ev, q⟩ => by
    simp only [evalE, Option.map_eq_some_iff, Prod.mk.injEq, Prod.exists] at ev
    obtain ⟨ds, _, e1, rfl, rfl⟩ := ev
    refine ⟨W, fp, γ, τ, ds, _, w, sl, e1, fun vs W1 H1 f1 w1 r1 => ?_⟩
    have hz : ds.length ≤ sizeLine := by rw [evs_len e1]; exact hl
    refine ⟨by rw [r1.length]; exact hz, fun p hp => ?_⟩
    obtain ⟨f2, w2⟩ := new_obj w1 (.lst vs) hp
    exact q _ _ _ (f1.trans f2) w2 (.lst upd_same (r1.mono f2.B) hz)
/-! ### operators of two operands -/
/-- a rule by values: f tells the value -/
def rOp2 (f : D → D → Option D) : R2 := fun x y H Q => ∃ W τ dx dy d, WI W τ H ∧ Opd W H x dx ∧ Opd W H y dy ∧ f dx dy = some d ∧ ∀ v W' H', FrE W H W' H' → WI W' τ H' → Rp W'.B v d → Q v H'
theorem w_op2 {f : D → D → Option D} {ia ib ie : IE} {σ : L2.St} {H : Hp} {Q : VK} (he : ∀ γ τ d τ', evalE cf ie γ τ = some (d, τ') → ∃ x τ1 y, evalE cf ia γ τ = some (x, τ1) ∧ evalE cf ib γ τ1 = some (y, τ') ∧ f x y = some d)
    (h : tJ cf Γ ie .p σ H Q) : tOp (rOp2 f) (tB cf Γ ia) (tB cf Γ ib) σ H Q := by
  obtain ⟨W, fp, γ, τ, d, τ', w, sl, ev, q⟩ := h
  obtain ⟨x, τ1, y, e1, e2, e3⟩ := he γ τ d τ' ev
  exact seq2 (Rr := fun vx vy H2 => rOp2 f vx vy H2 Q) w sl e1 e2 fun vx vy W2 H2 f2 w2 o1 o2 => ⟨W2, τ', x, y, d, w2, o1, o2, e3, fun v W3 H3 f3 w3 r => q v W3 H3 (f2.trans f3) w3 r⟩
theorem ev_bin {o : BOp} {a b : IE} {γ : En} {τ τ' : Tape} {d : D} (e : evalE cf (.bin o a b) γ τ = some (d, τ')) : ∃ x τ1 y, evalE cf a γ τ = some (x, τ1) ∧ evalE cf b γ τ1 = some (y, τ') ∧ opBin o x y = some d := by
  simp only [evalE, Option.bind_eq_some_iff, Option.map_eq_some_iff, Prod.mk.injEq, Prod.exists] at e
  obtain ⟨x, τ1, h1, y, τ2, h2, d', h3, rfl, rfl⟩ := e
  exact ⟨x, τ1, y, h1, h2, h3⟩
theorem ev_cmp {o : COp} {a b : IE} {γ : En} {τ τ' : Tape} {d : D} (e : evalE cf (.cmp o a b) γ τ = some (d, τ')) : ∃ x τ1 y, evalE cf a γ τ = some (x, τ1) ∧ evalE cf b γ τ1 = some (y, τ') ∧ (opCmp o x y).map PyData.bool = some d := by
  simp only [evalE, Option.bind_eq_some_iff, Option.map_eq_some_iff, Prod.mk.injEq, Prod.exists] at e
  obtain ⟨x, τ1, h1, y, τ2, h2, d', h3, rfl, rfl⟩ := e
  exact ⟨x, τ1, y, h1, h2, by rw [h3]; rfl⟩
def opA : BOp → Operator
  | .add => .Add | .sub => .Sub | .mul => .Mult | .mod => .Mod | .fdiv => .FloorDiv | .pow => .Pow
def copA : COp → CmpOp
  | .eq => .Eq | .ne => .NotEq | .lt => .Lt | .le => .LtE | .gt => .Gt | .ge => .GtE | .isin => .In | .notin => .NotIn
theorem or_add : OpR X (binaryOp .Add) (rOp2 (opBin .add)) := by
  intro pins s σ H x y v u Q I rx ry h
  obtain ⟨W, τ, dx, dy, d, w, ox, oy, e, q⟩ := h
  have e : opAdd dx dy = some d := e
  unfold opAdd at e
  split at e <;> first | cases e | skip
  · cases ox.int
    cases oy.int
    exact op_add pins s σ H _ _ v u Q I rx ry ⟨_, _, rfl, rfl, q _ W H (.refl W H) w (.int _)⟩
  · rename_i xs ys _
    split at e <;> first | cases e | skip
    rename_i hz
    obtain ⟨a, vs, rfl, h1, n1, r1, l1⟩ := ox.list w
    obtain ⟨b, ws, rfl, h2, n2, r2, l2⟩ := oy.list w
    refine op_cat pins s σ H _ _ v u Q I rx ry ⟨a, b, vs, ws, rfl, rfl, h1, h2, by rw [r1.length, r2.length]; exact hz, fun p hp => ?_⟩
    obtain ⟨f, w'⟩ := new_obj w (.lst (vs ++ ws)) hp
    exact q _ _ _ f w' (.lst upd_same ((r1.append r2).mono f.B) (by rw [List.length_append]; exact hz))
  · rename_i xs ys _
    split at e <;> first | cases e | skip
    rename_i hz
    obtain ⟨a, vs, rfl, h1, r1, l1⟩ := ox.tup
    obtain ⟨b, ws, rfl, h2, r2, l2⟩ := oy.tup
    refine op_catA pins s σ H _ _ v u Q I rx ry ⟨a, b, vs, ws, rfl, rfl, SqT.of (w.sub _ _ h1), SqT.of (w.sub _ _ h2), by rw [r1.length, r2.length]; exact hz, fun e0 => ?_, fun _ e0 => ?_, fun _ _ p hp => ?_⟩
    · subst e0
      cases r1
      exact q _ W H (.refl W H) w (.tup h2 r2 l2)
    · subst e0
      cases r2
      refine q _ W H (.refl W H) w (.tup h1 (by rw [List.append_nil]; exact r1) (by rw [List.append_nil]; exact l1))
    · obtain ⟨f, w'⟩ := new_obj w (.tup (vs ++ ws)) hp
      exact q _ _ _ f w' (.tup upd_same ((r1.append r2).mono f.B) (by rw [List.length_append]; exact hz))
theorem or_sub : OpR X (binaryOp .Sub) (rOp2 (opBin .sub)) := by
  intro pins s σ H x y v u Q I rx ry h
  obtain ⟨W, τ, dx, dy, d, w, ox, oy, e, q⟩ := h
  have e : opSub dx dy = some d := e
  unfold opSub at e
  split at e <;> first | cases e | skip
  cases ox.int
  cases oy.int
  exact op_sub pins s σ H _ _ v u Q I rx ry ⟨_, _, rfl, rfl, q _ W H (.refl W H) w (.int _)⟩
theorem or_mod : OpR X (binaryOp .Mod) (rOp2 (opBin .mod)) := by
  intro pins s σ H x y v u Q I rx ry h
  obtain ⟨W, τ, dx, dy, d, w, ox, oy, e, q⟩ := h
  have e : opMod dx dy = some d := e
  unfold opMod at e
  split at e <;> first | cases e | skip
  split at e <;> first | cases e | skip
  rename_i hz
  cases ox.int
  cases oy.int
  exact op_mod pins s σ H _ _ v u Q I rx ry ⟨_, _, rfl, rfl, hz, q _ W H (.refl W H) w (.int _)⟩
theorem or_fdiv : OpR X (binaryOp .FloorDiv) (rOp2 (opBin .fdiv)) := by
  intro pins s σ H x y v u Q I rx ry h
  obtain ⟨W, τ, dx, dy, d, w, ox, oy, e, q⟩ := h
  have e : opDiv dx dy = some d := e
  unfold opDiv at e
  split at e <;> first | cases e | skip
  split at e <;> first | cases e | skip
  rename_i hz
  cases ox.int
  cases oy.int
  exact op_fdiv pins s σ H _ _ v u Q I rx ry ⟨_, _, rfl, rfl, ⟨hz.1, by have := hz.2; omega⟩, q _ W H (.refl W H) w (.int _)⟩
theorem or_pow : OpR X (binaryOp .Pow) (rOp2 (opBin .pow)) := by
  intro pins s σ H x y v u Q I rx ry h
  obtain ⟨W, τ, dx, dy, d, w, ox, oy, e, q⟩ := h
  have e : opPow dx dy = some d := e
  unfold opPow at e
  split at e <;> first | cases e | skip
  split at e <;> first | cases e | skip
  rename_i hz
  cases ox.int
  cases oy.int
  exact op_pow pins s σ H _ _ v u Q I rx ry ⟨_, _, rfl, rfl, ⟨hz.1, by have := hz.2.1; omega, hz.2.2⟩, q _ W H (.refl W H) w (.int _)⟩
/-! ### comparisons -/
abbrev fCmp (o : COp) : D → D → Option D := fun x y => (opCmp o x y).map PyData.bool
theorem or_eq (hu : X.A.units + 150 < cLine) : OpR X (compareOp .Eq) (rOp2 (fCmp .eq)) := by
  intro pins s σ H x y v u Q I rx ry h
  obtain ⟨W, τ, dx, dy, d, w, ox, oy, e, q⟩ := h
  have hx := ox.dp (K := X.K) w
  have hy := oy.dp (K := X.K) w
  simp only [fCmp, opCmp, cEq] at e
  split at e <;> first | cases e | skip
  rename_i hs
  obtain ⟨as, r1⟩ := Dp.reads I dx x v hx.1 rx
  obtain ⟨bs, r2⟩ := Dp.reads I dy y u hy.1 ry
  refine SeqAt.compareEq_reads r1 r2 hx.2 hy.2 ?_ ⟨.bl _, H, I, rfl, q _ W H (.refl W H) w (.bl _)⟩
  have h1 : min dx.depth dy.depth ≤ dx.depth := Nat.min_le_left _ _
  have h2 : min dx.depth dy.depth ≤ dy.depth := Nat.min_le_right _ _
  simp only [shallow, Bool.or_eq_true, decide_eq_true_eq] at hs
  omega
theorem or_ne (hu : X.A.units + 150 < cLine) : OpR X (compareOp .NotEq) (rOp2 (fCmp .ne)) := by
  intro pins s σ H x y v u Q I rx ry h
  obtain ⟨W, τ, dx, dy, d, w, ox, oy, e, q⟩ := h
  have hx := ox.dp (K := X.K) w
  have hy := oy.dp (K := X.K) w
  simp only [fCmp, opCmp, cEq] at e
  split at e <;> first | cases e | skip
  rename_i hs
  obtain ⟨as, r1⟩ := Dp.reads I dx x v hx.1 rx
  obtain ⟨bs, r2⟩ := Dp.reads I dy y u hy.1 ry
  refine SeqAt.compareNe_reads r1 r2 hx.2 hy.2 ?_ ⟨.bl _, H, I, rfl, q _ W H (.refl W H) w (.bl _)⟩
  have h1 : min dx.depth dy.depth ≤ dx.depth := Nat.min_le_left _ _
  have h2 : min dx.depth dy.depth ≤ dy.depth := Nat.min_le_right _ _
  simp only [shallow, Bool.or_eq_true, decide_eq_true_eq] at hs
  omega
theorem or_ints {o : COp} {p : Int → Int → Bool} {g : Value → Value → Sem Value} (ho : OpR X g (rI0 fun i j => .bl (p i j)))
    (hp : ∀ x y b, opCmp o x y = some b → ∃ i j, x = .int i ∧ y = .int j ∧ b = p i j) : OpR X g (rOp2 (fCmp o)) := by
  intro pins s σ H x y v u Q I rx ry h
  obtain ⟨W, τ, dx, dy, d, w, ox, oy, e, q⟩ := h
  obtain ⟨b, e1, e2⟩ := Option.map_eq_some_iff.mp e
  obtain ⟨i, j, rfl, rfl, rfl⟩ := hp dx dy b e1
  subst e2
  cases ox.int
  cases oy.int
  exact ho pins s σ H _ _ v u Q I rx ry ⟨_, _, rfl, rfl, q _ W H (.refl W H) w (.bl _)⟩
theorem cInt_some {p : Int → Int → Bool} {x y : D} {b : Bool} (e : cInt p x y = some b) : ∃ i j, x = .int i ∧ y = .int j ∧ b = p i j := by
  unfold cInt at e
  split at e <;> first | cases e | skip
  exact ⟨_, _, rfl, rfl, rfl⟩
theorem or_lt : OpR X (compareOp .Lt) (rOp2 (fCmp .lt)) := or_ints op_lt fun x y b e => cInt_some e
theorem or_le : OpR X (compareOp .LtE) (rOp2 (fCmp .le)) := or_ints op_le fun x y b e => cInt_some e
theorem or_gt : OpR X (compareOp .Gt) (rOp2 (fCmp .gt)) := or_ints op_gt fun x y b e => cInt_some e
theorem or_ge : OpR X (compareOp .GtE) (rOp2 (fCmp .ge)) := or_ints op_ge fun x y b e => cInt_some e
theorem lay_list {ds : List D} (h : PyData.canLay0 (.list ds) = true) : PyData.canLayAll0 ds = true := by simpa only [PyData.canLay0] using h
theorem lay_tup {ds : List D} (h : PyData.canLay0 (.tuple ds) = true) : PyData.canLayAll0 ds = true := by simpa only [PyData.canLay0] using h
theorem or_in (hu : X.A.units + 150 < cLine) : OpR X (compareOp .In) (rOp2 (fCmp .isin)) := by
  intro pins s σ H x y v u Q I rx ry h
  obtain ⟨W, τ, dx, dy, d, w, ox, oy, e, q⟩ := h
  have hx := ox.dp (K := X.K) w
  have hy := oy.dp (K := X.K) w
  obtain ⟨as, r1⟩ := Dp.reads I dx x v hx.1 rx
  obtain ⟨bs, r2⟩ := Dp.reads I dy y u hy.1 ry
  simp only [fCmp, opCmp, Option.map_map] at e
  obtain ⟨b, e1, e2⟩ := Option.map_eq_some_iff.mp e
  subst e2
  unfold cIn at e1
  obtain ⟨ys, e3, e4⟩ := Option.bind_eq_some_iff.mp e1
  split at e4 <;> first | cases e4 | skip
  rename_i hs
  have h2 : min (PyData.depthAll ys) dx.depth ≤ dx.depth := Nat.min_le_right _ _
  unfold seqOf at e3
  split at e3 <;> first | cases e3 | skip
  · exact SeqAt.in_list_reads r2 r1 (lay_list hy.2) hx.2 (by omega) ⟨.bl _, H, I, rfl, q _ W H (.refl W H) w (.bl _)⟩
  · exact SeqAt.in_tuple_reads r2 r1 (lay_tup hy.2) hx.2 (by omega) ⟨.bl _, H, I, rfl, q _ W H (.refl W H) w (.bl _)⟩
theorem or_notin (hu : X.A.units + 150 < cLine) : OpR X (compareOp .NotIn) (rOp2 (fCmp .notin)) := by
  intro pins s σ H x y v u Q I rx ry h
  obtain ⟨W, τ, dx, dy, d, w, ox, oy, e, q⟩ := h
  have hx := ox.dp (K := X.K) w
  have hy := oy.dp (K := X.K) w
  obtain ⟨as, r1⟩ := Dp.reads I dx x v hx.1 rx
  obtain ⟨bs, r2⟩ := Dp.reads I dy y u hy.1 ry
  simp only [fCmp, opCmp, Option.map_map] at e
  obtain ⟨b, e1, e2⟩ := Option.map_eq_some_iff.mp e
  subst e2
  unfold cIn at e1
  obtain ⟨ys, e3, e4⟩ := Option.bind_eq_some_iff.mp e1
  split at e4 <;> first | cases e4 | skip
  rename_i hs
  have h2 : min (PyData.depthAll ys) dx.depth ≤ dx.depth := Nat.min_le_right _ _
  unfold seqOf at e3
  split at e3 <;> first | cases e3 | skip
  · exact SeqAt.notIn_list_reads r2 r1 (lay_list hy.2) hx.2 (by omega) ⟨.bl _, H, I, rfl, q _ W H (.refl W H) w (.bl _)⟩
  · exact SeqAt.notIn_tuple_reads r2 r1 (lay_tup hy.2) hx.2 (by omega) ⟨.bl _, H, I, rfl, q _ W H (.refl W H) w (.bl _)⟩
theorem or_cmp (hu : X.A.units + 150 < cLine) : ∀ o : COp, OpR X (compareOp (copA o)) (rOp2 (fCmp o))
  | .eq => or_eq hu | .ne => or_ne hu | .lt => or_lt | .le => or_le | .gt => or_gt | .ge => or_ge | .isin => or_in hu | .notin => or_notin hu
end
end Ev
set_option Elab.async false
set_option linter.all false
set_option maxRecDepth 100000
set_option maxHeartbeats 4000000
set_option autoImplicit false
/-! EvMul: tuple * int. -/
namespace Ev
open PySem PySem.Spec PyProof.Rows L2
theorem tup_rep1 (l : Addr) (items : Array Value) (n : Nat) (dd : Option Addr) (sl : Array (Option Value)) (x : Int) (u : Tok) (c0 : (decide (x < -(2 ^ 63)) || decide (x ≥ 2 ^ 63)) = false) (c1 : (items.isEmpty || x == 1) = true) :
    Meets (Builtin.«tuple.__mul__» ⟨[.ref l, .int x u], []⟩) (fun _ R s => s.heap.get? l = some { cls := .type "tuple", dict := dd, data := .seq items n, slots := sl } ∧ R (.ok (.ret (.ref l))) s) :=
  .of_wp fun prog w A R s h => by
    obtain ⟨hp, g, d, tk, os⟩ := s
    obtain ⟨hl, h⟩ := h
    have f1 := AutoSeq1.idx_int
    wp_walk using wpAny_loadPart' hl
    repeat (first
      | (refine wpAny_ite_false (decide_eq_false (by rw [c0]; exact Bool.false_ne_true)) ?_; wp_walk using wpAny_loadPart' hl)
      | (refine wpAny_ite_true (decide_eq_true (by rw [c1])) ?_; wp_walk using wpAny_loadPart' hl))
    exact ⟨_, rfl, h⟩
theorem tup_rep0 (l : Addr) (items : Array Value) (n : Nat) (dd : Option Addr) (sl : Array (Option Value)) (x : Int) (u : Tok) (c0 : (decide (x < -(2 ^ 63)) || decide (x ≥ 2 ^ 63)) = false) (c1 : (items.isEmpty || x == 1) = false) (c2 : (decide (x ≤ 0) || items.isEmpty) = true) :
    Meets (Builtin.«tuple.__mul__» ⟨[.ref l, .int x u], []⟩) (fun _ R s => s.heap.get? l = some { cls := .type "tuple", dict := dd, data := .seq items n, slots := sl } ∧
      R (.ok (.ret (Value.ref s.heap.objs.size))) { s with heap := s.heap.push { cls := Value.type "tuple", data := Data.seq #[] }, toks := s.toks }) :=
  .of_wp fun prog w A R s h => by
    obtain ⟨hp, g, d, tk, os⟩ := s
    obtain ⟨hl, h⟩ := h
    have f1 := AutoSeq1.idx_int
    wp_walk using wpAny_loadPart' hl
    repeat (first
      | (refine wpAny_ite_false (decide_eq_false (by rw [c0]; exact Bool.false_ne_true)) ?_; wp_walk using wpAny_loadPart' hl)
      | (refine wpAny_ite_false (decide_eq_false (by rw [c1]; exact Bool.false_ne_true)) ?_; wp_walk using wpAny_loadPart' hl)
      | (refine wpAny_ite_true (decide_eq_true (by rw [c2])) ?_; wp_walk using wpAny_loadPart' hl))
    exact ⟨_, rfl, h⟩
section
variable {X : Cx}
theorem op_repS {pins : List (Addr × Obj)} {s : Shared} {σ : L2.St} {H : Hp} {l : Addr} {k : Int} {xs : List V} {u : Value} {Q : VK} (I : Inv X pins σ H s) (ry : RelV (.int k) u) (hT : SqT X.K H l xs) (h1 : -(2 ^ 63) ≤ k) (h2 : k < 2 ^ 63)
    (q1 : xs = [] ∨ k = 1 → Q (.ref l) H) (q0 : ¬ (xs = [] ∨ k = 1) → k ≤ 0 → ∀ p, H p = none → Q (.ref p) (upd H p (.tup []))) (hk : (xs = [] ∨ k = 1) ∨ k ≤ 0) :
    wpAny (model X.prog X.w) X.A (binaryOp .Mult (.ref l) u) (EP X pins σ Q) X.xe s := by
  obtain ⟨t, rfl⟩ := ry
  obtain ⟨its, r, ⟨⟨cls, dd, data, sl⟩, ho, hc, n, hd⟩, hs⟩ := I.tuple hT
  simp only at hc hd
  subst hc hd
  have hle : its.length = xs.length := r.length.symm
  have he : its.toArray.isEmpty = xs.isEmpty := by
    cases its with
    | nil =>
      cases xs with
      | nil => rfl
      | cons a b => cases hle
    | cons a b =>
      cases xs with
      | nil => cases hle
      | cons a b => rfl
  have c0 : (decide (k < -(2 ^ 63)) || decide (k ≥ 2 ^ 63)) = false := by
    rw [decide_eq_false (by omega), decide_eq_false (by omega)] <;> rfl
  by_cases c : xs = [] ∨ k = 1
  · have c1 : (its.toArray.isEmpty || k == 1) = true := by
      rw [he]
      rcases c with rfl | rfl
      · rfl
      · simp
    exact wpAny_binaryOp_repeat_ref (T := "tuple") (U := "int") (by decide) ⟨_, ho, rfl⟩ (fun s' => typeIs_int s' k t) noFill_tuple_mul F.fills_int_mul F.slot_int_rmul repeat_tuple F.slot_int_index.lookup
      (call_meets F.slot_int_rmul (typeIs_int s k t) F.entry_int_rmul (F.args_int_rmul_2 _ _) (int_rmul_tuple k t l its.toArray n dd sl)
        ⟨ho, rfl, ⟨_, ho, rfl⟩, call_meets F.slot_tuple_mul ⟨_, ho, rfl⟩ F.entry_tuple_mul (F.args_tuple_mul_2 _ _) (tup_rep1 l its.toArray n dd sl k t c0 c1) ⟨ho, ⟨.ref l, H, I, rfl, q1 c⟩⟩⟩)
  · have hx : xs.isEmpty = false := by
      cases xs with
      | nil => exact absurd (.inl rfl) c
      | cons a b => rfl
    have k1 : (k == 1) = false := beq_eq_false_iff_ne.mpr fun e => c (.inr e)
    have c1 : (its.toArray.isEmpty || k == 1) = false := by rw [he, hx, k1]; rfl
    have k0 : k ≤ 0 := hk.resolve_left c
    have c2 : (decide (k ≤ 0) || its.toArray.isEmpty) = true := by rw [decide_eq_true k0, Bool.true_or]
    refine wpAny_binaryOp_repeat_ref (T := "tuple") (U := "int") (by decide) ⟨_, ho, rfl⟩ (fun s' => typeIs_int s' k t) noFill_tuple_mul F.fills_int_mul F.slot_int_rmul repeat_tuple F.slot_int_index.lookup
      (call_meets F.slot_int_rmul (typeIs_int s k t) F.entry_int_rmul (F.args_int_rmul_2 _ _) (int_rmul_tuple k t l its.toArray n dd sl)
        ⟨ho, rfl, ⟨_, ho, rfl⟩, call_meets F.slot_tuple_mul ⟨_, ho, rfl⟩ F.entry_tuple_mul (F.args_tuple_mul_2 _ _) (tup_rep0 l its.toArray n dd sl k t c0 c1 c2) ⟨ho, ?_⟩⟩)
    refine ⟨.ref s.heap.objs.size, _, I.laid (t' := s.toks) (o := .tup []) (fun b ob q => Heap.get?_push_of_some _ q) (Nat.le_refl _) ?_, rfl, q0 c k0 _ (I.hok.fresh (Nat.le_refl _))⟩
    exact ⟨Nat.zero_le _, [], .nil, IsTup.new _ _⟩
theorem or_mul : OpR X (binaryOp .Mult) (rOp2 (opBin .mul)) := by
  intro pins s σ H x y v u Q I rx ry h
  obtain ⟨W, τ, dx, dy, d, w, ox, oy, e, q⟩ := h
  have e : opMul dx dy = some d := e
  unfold opMul at e
  split at e <;> first | cases e | skip
  · unfold opMulI at e
    split at e <;> first | cases e | skip
    rename_i hz
    cases ox.int
    cases oy.int
    exact op_mul pins s σ H _ _ v u Q I rx ry ⟨_, _, rfl, rfl, hz.elim (fun h => .inl ⟨by omega, by omega⟩) (fun h => .inr ⟨by omega, by omega⟩), q _ W H (.refl W H) w (.int _)⟩
  · rename_i xs j _
    split at e <;> first | cases e | skip
    rename_i hz
    obtain ⟨a, vs, rfl, h1, r1, l1⟩ := ox.tup
    cases oy.int
    have hl := r1.length
    by_cases c : (vs = [] ∨ j = 1) ∨ j ≤ 0
    · cases rx
      refine op_repS I ry (SqT.of (w.sub _ _ h1)) (by have := hz.2.1; omega) (by have := hz.2.1; omega) (fun c1 => ?_) (fun c1 c2 p hp => ?_) c
      · refine q _ W H (.refl W H) w ?_
        have e1 : (List.replicate j.toNat xs).flatten = xs := by
          rcases c1 with rfl | rfl
          · cases r1
            generalize j.toNat = m
            induction m with
            | zero => rfl
            | succ m ih => rw [List.replicate_succ, List.flatten_cons, ih]; rfl
          · simp
        rw [e1]
        exact .tup h1 r1 l1
      · obtain ⟨f, w'⟩ := new_obj w (.tup []) hp
        have e1 : (List.replicate j.toNat xs).flatten = [] := by
          have : j.toNat = 0 := by omega
          rw [this]
          rfl
        rw [e1] at q
        exact q _ _ _ f w' (.tup upd_same .nil (Nat.zero_le _))
    · refine op_repT pins s σ H _ _ v u Q I rx ry ⟨a, j, vs, rfl, rfl, SqT.of (w.sub _ _ h1), fun z => c (.inl (.inl z)), by omega, by have := hz.2.1; omega, by rw [hl]; exact hz.2.2, fun p hp => ?_⟩
      obtain ⟨f, w'⟩ := new_obj w (.tup (List.replicate j.toNat vs).flatten) hp
      exact q _ _ _ f w' (.tup upd_same ((r1.rep j.toNat).mono f.B) hz.1)
  · rename_i xs j _
    split at e <;> first | cases e | skip
    rename_i hz
    have fin : ∀ (a : Addr) (vs : List V), H a = some (.lst vs) → RpA W.B vs xs → ∀ p, H p = none → Q (.ref p) (upd H p (.lst (List.replicate j.toNat vs).flatten)) := fun a vs _ r1 p hp => by
      obtain ⟨f, w'⟩ := new_obj w (.lst (List.replicate j.toNat vs).flatten) hp
      exact q _ _ _ f w' (.lst upd_same ((r1.rep j.toNat).mono f.B) hz.1)
    cases oy.int
    rcases ox with ox | ⟨ds, hd, p, vs, rfl, hp, nb, ra, l⟩
    · cases ox with
      | lst eB r l =>
        exact op_rep pins s σ H _ _ v u Q I rx ry ⟨_, _, _, rfl, rfl, w.sub _ _ eB, by have := hz.2.1; omega, by have := hz.2.1; omega, by rw [r.length]; exact hz.2.2, fin _ _ (w.sub _ _ eB) r⟩
    · cases hd
      exact op_rep pins s σ H _ _ v u Q I rx ry ⟨_, _, _, rfl, rfl, hp, by have := hz.2.1; omega, by have := hz.2.1; omega, by rw [ra.length]; exact hz.2.2, fin _ _ hp ra⟩
theorem or_bin : ∀ o : BOp, OpR X (binaryOp (opA o)) (rOp2 (opBin o))
  | .add => or_add | .sub => or_sub | .mul => or_mul | .mod => or_mod | .fdiv => or_fdiv | .pow => or_pow
end
end Ev
set_option Elab.async false
set_option linter.all false
set_option maxRecDepth 100000
set_option autoImplicit false
/-! Ev4: more expressions: tests, choices, items, slices, built-ins. -/
namespace Ev
open PySem PySem.Spec PyProof.Rows L2
section
variable {cf : CF} {Γ : List Ty} {X : Cx}
theorem je_bin {o : BOp} {a b : Expr} {ia ib : IE} {pos : Pos} (ha : PE X a (tB cf Γ ia)) (hb : PE X b (tB cf Γ ib)) : PE X (.BinOp a (opA o) b pos) (tJ cf Γ (.bin o ia ib) .p) :=
  PEw (pe_op (or_bin o) ha hb) fun σ H Q h => w_op2 (fun _ _ _ _ e => ev_bin e) h
theorem behind_of {op : CmpOp} {b : Expr} (h : ∀ es k p, b ≠ .Set es k p) : behindInMarks op b = false := by
  unfold behindInMarks
  split
  · rename_i es k p
    exact absurd rfl (h es k p)
  · rfl
theorem je_cmp (hu : X.A.units + 150 < cLine) {o : COp} {a b : Expr} {ia ib : IE} {pos : Pos} (ha : PE X a (tB cf Γ ia)) (hb : PE X b (tB cf Γ ib)) (hm : ∀ es k p, b ≠ .Set es k p) : PE X (.Compare a [copA o] [b] pos) (tJ cf Γ (.cmp o ia ib) .p) :=
  PEw (pe_cmpR (or_cmp hu o) ha hb (behind_of hm)) fun σ H Q h => w_op2 (fun _ _ _ _ e => ev_cmp e) h
theorem jt_cmp (hu : X.A.units + 150 < cLine) {o : COp} {a b : Expr} {ia ib : IE} {pos : Pos} (ha : PE X a (tB cf Γ ia)) (hb : PE X b (tB cf Γ ib)) (hm : ∀ es k p, b ≠ .Set es k p) : PT X (.Compare a [copA o] [b] pos) (tT cf Γ (.cmp o ia ib)) :=
  PTw (pt_cmpR (or_cmp hu o) ha hb (behind_of hm)) fun σ H Q ⟨W, fp, γ, τ, k, τ', w, sl, ev, q⟩ => by
    simp only [tst, Option.bind_eq_some_iff, Option.map_eq_some_iff, Prod.mk.injEq, Prod.exists] at ev
    obtain ⟨d, τ1, e1, k', e2, rfl, rfl⟩ := ev
    refine w_op2 (cf := cf) (Γ := Γ) (ie := .cmp o ia ib) (fun _ _ _ _ e => ev_cmp e) ⟨W, fp, γ, τ, d, τ1, w, sl, e1, fun v W1 H1 f1 w1 r1 => ?_⟩
    obtain ⟨_, _, _, _, _, e4⟩ := ev_cmp e1
    obtain ⟨b, _, e5⟩ := Option.map_eq_some_iff.mp e4
    subst e5
    simp only [truth, Option.some.injEq] at e2
    subst e2
    exact ⟨b, Opd.bool (W := W1) (H := H1) (.inl r1), q W1 H1 f1 w1⟩
/-! ### chains of two comparisons -/
theorem w_cmp2 {o o' : COp} {ia ib ic : IE} {σ : L2.St} {H : Hp} {Q : VK} (h : tJ cf Γ (.cmp2 o o' ia ib ic) .p σ H Q) : tChain (rOp2 (fCmp o)) (rOp2 (fCmp o')) (tB cf Γ ia) (tB cf Γ ib) (tB cf Γ ic) σ H Q := by
  obtain ⟨W, fp, γ, τ, d, τ', w, sl, ev, q⟩ := h
  simp only [evalE, Option.bind_eq_some_iff, Prod.exists] at ev
  obtain ⟨x, τ1, e1, y, τ2, e2, k, e3, e4⟩ := ev
  refine seq2 (Rr := fun vx vy H2 => rOp2 (fCmp o) vx vy H2 fun z H3 => ∃ k, z = .bl k ∧ (if k = true then tB cf Γ ic σ H3 fun w' H4 => rOp2 (fCmp o') vy w' H4 Q else Q (.bl false) H3)) w sl e1 e2 fun vx vy W2 H2 f2 w2 o1 o2 => ?_
  refine ⟨W2, τ2, x, y, .bool k, w2, o1, o2, by simp only [fCmp, e3, Option.map_some], fun v W3 H3 f3 w3 r3 => ?_⟩
  refine ⟨k, Opd.bool (W := W3) (H := H3) (.inl r3), ?_⟩
  have sl3 := (sl.mono f2).mono f3
  cases k with
  | false =>
    rw [if_neg Bool.false_ne_true] at e4 ⊢
    cases e4
    exact q _ W3 H3 (f2.trans f3) w3 (.bl _)
  | true =>
    rw [if_pos rfl] at e4 ⊢
    simp only [Option.bind_eq_some_iff, Option.map_eq_some_iff, Prod.mk.injEq, Prod.exists] at e4
    obtain ⟨z, τ3, e5, k', e6, rfl, rfl⟩ := e4
    exact ⟨W3, fp, γ, τ2, z, τ3, w3, sl3, e5, fun v4 W4 H4 f4 w4 o4 => ⟨W4, τ3, y, z, .bool k', w4, (o2.mono f3).mono f4, o4, by simp only [fCmp, e6, Option.map_some], fun v5 W5 H5 f5 w5 r5 => q v5 W5 H5 (((f2.trans f3).trans f4).trans f5) w5 r5⟩⟩
theorem je_cmp2 (hu : X.A.units + 150 < cLine) {o o' : COp} {a b c : Expr} {ia ib ic : IE} {pos : Pos} (ha : PE X a (tB cf Γ ia)) (hb : PE X b (tB cf Γ ib)) (hc : PE X c (tB cf Γ ic)) (hm : ∀ es k p, c ≠ .Set es k p) :
    PE X (.Compare a [copA o, copA o'] [b, c] pos) (tJ cf Γ (.cmp2 o o' ia ib ic) .p) :=
  PEw (pe_chain (or_cmp hu o) (or_cmp hu o') ha hb hc (behind_of hm)) fun σ H Q h => w_cmp2 h
theorem cmp2_bool {o o' : COp} {ia ib ic : IE} {γ : En} {τ τ' : Tape} {d : D} (e : evalE cf (.cmp2 o o' ia ib ic) γ τ = some (d, τ')) : ∃ b, d = .bool b := by
  simp only [evalE, Option.bind_eq_some_iff, Prod.exists] at e
  obtain ⟨x, τ1, e1, y, τ2, e2, k, e3, e4⟩ := e
  cases k with
  | false =>
    rw [if_neg Bool.false_ne_true] at e4
    cases e4
    exact ⟨_, rfl⟩
  | true =>
    rw [if_pos rfl] at e4
    simp only [Option.bind_eq_some_iff, Option.map_eq_some_iff, Prod.mk.injEq, Prod.exists] at e4
    obtain ⟨z, τ3, e5, k', e6, rfl, rfl⟩ := e4
    exact ⟨_, rfl⟩
theorem jt_cmp2 (hu : X.A.units + 150 < cLine) {o o' : COp} {a b c : Expr} {ia ib ic : IE} {pos : Pos} (ha : PE X a (tB cf Γ ia)) (hb : PE X b (tB cf Γ ib)) (hc : PE X c (tB cf Γ ic)) (hm : ∀ es k p, c ≠ .Set es k p) :
    PT X (.Compare a [copA o, copA o'] [b, c] pos) (tT cf Γ (.cmp2 o o' ia ib ic)) :=
  PTw (pt_chain (or_cmp hu o) (or_cmp hu o') ha hb hc (behind_of hm)) fun σ H Q ⟨W, fp, γ, τ, k, τ', w, sl, ev, q⟩ => by
    simp only [tst, Option.bind_eq_some_iff, Option.map_eq_some_iff, Prod.mk.injEq, Prod.exists] at ev
    obtain ⟨d, τ1, e1, k', e2, rfl, rfl⟩ := ev
    refine w_cmp2 ⟨W, fp, γ, τ, d, τ1, w, sl, e1, fun v W1 H1 f1 w1 r1 => ?_⟩
    obtain ⟨b, rfl⟩ := cmp2_bool e1
    simp only [truth, Option.some.injEq] at e2
    subst e2
    exact ⟨b, Opd.bool (W := W1) (H := H1) (.inl r1), q W1 H1 f1 w1⟩
/-! ### is None -/
theorem je_isN {a : Expr} {ia : IE} {j : Nat} {pos pos' : Pos} (ha : PE X a (tB cf Γ ia)) : PE X (.Compare a [.Is] [.Constant .none j pos'] pos) (tJ cf Γ (.isN ia) .p) :=
  PEw (pe_cmp (pc_isN ha)) fun σ H Q ⟨W, fp, γ, τ, d, τ', w, sl, ev, q⟩ => by
    simp only [evalE, Option.map_eq_some_iff, Prod.mk.injEq, Prod.exists] at ev
    obtain ⟨x, τ1, e1, rfl, rfl⟩ := ev
    refine ⟨W, fp, γ, τ, x, τ1, w, sl, e1, fun v W1 H1 f1 w1 o1 => ?_⟩
    show Q (.bl (decide (v = .non))) H1
    rw [o1.isN]
    exact q _ W1 H1 f1 w1 (.bl _)
theorem je_notN {a : Expr} {ia : IE} {j : Nat} {pos pos' : Pos} (ha : PE X a (tB cf Γ ia)) : PE X (.Compare a [.IsNot] [.Constant .none j pos'] pos) (tJ cf Γ (.notN ia) .p) :=
  PEw (pe_cmp (pc_notN ha)) fun σ H Q ⟨W, fp, γ, τ, d, τ', w, sl, ev, q⟩ => by
    simp only [evalE, Option.map_eq_some_iff, Prod.mk.injEq, Prod.exists] at ev
    obtain ⟨x, τ1, e1, rfl, rfl⟩ := ev
    refine ⟨W, fp, γ, τ, x, τ1, w, sl, e1, fun v W1 H1 f1 w1 o1 => ?_⟩
    show Q (.bl (!decide (v = .non))) H1
    rw [o1.isN]
    exact q _ W1 H1 f1 w1 (.bl _)
theorem jt_isN {a : Expr} {ia : IE} {j : Nat} {pos pos' : Pos} (ha : PE X a (tB cf Γ ia)) : PT X (.Compare a [.Is] [.Constant .none j pos'] pos) (tT cf Γ (.isN ia)) :=
  PTw (pt_cmp (pc_isN ha)) fun σ H Q ⟨W, fp, γ, τ, k, τ', w, sl, ev, q⟩ => by
    simp only [tst, evalE, Option.bind_eq_some_iff, Option.map_eq_some_iff, Prod.mk.injEq, Prod.exists] at ev
    obtain ⟨_, _, ⟨x, τ1, e1, rfl, rfl⟩, k', e2, rfl, rfl⟩ := ev
    refine ⟨W, fp, γ, τ, x, τ1, w, sl, e1, fun v W1 H1 f1 w1 o1 => ⟨decide (v = .non), rfl, ?_⟩⟩
    rw [o1.isN]
    cases e2
    exact q W1 H1 f1 w1
theorem jt_notN {a : Expr} {ia : IE} {j : Nat} {pos pos' : Pos} (ha : PE X a (tB cf Γ ia)) : PT X (.Compare a [.IsNot] [.Constant .none j pos'] pos) (tT cf Γ (.notN ia)) :=
  PTw (pt_cmp (pc_notN ha)) fun σ H Q ⟨W, fp, γ, τ, k, τ', w, sl, ev, q⟩ => by
    simp only [tst, evalE, Option.bind_eq_some_iff, Option.map_eq_some_iff, Prod.mk.injEq, Prod.exists] at ev
    obtain ⟨_, _, ⟨x, τ1, e1, rfl, rfl⟩, k', e2, rfl, rfl⟩ := ev
    refine ⟨W, fp, γ, τ, x, τ1, w, sl, e1, fun v W1 H1 f1 w1 o1 => ⟨!decide (v = .non), rfl, ?_⟩⟩
    rw [o1.isN]
    cases e2
    exact q W1 H1 f1 w1
/-! ### truth -/
theorem truV {W : Wd} {τ : Tape} {H : Hp} {v : V} {d : D} {k : Bool} (w : WI W τ H) (o : Opd W H v d) (e : truth d = some k) : TruV X.K v H k := by
  unfold truth at e
  split at e
  · cases e; cases o.none_; rfl
  · cases e; cases o.bool; rfl
  · cases e; cases o.int; rfl
  · split at e <;> first | cases e | skip
    cases o.str.1
    exact ⟨by assumption, rfl⟩
  · rename_i xs
    cases e
    obtain ⟨a, vs, rfl, h1, _, r, _⟩ := o.list w
    refine .inl ⟨vs, SqL.of h1, ?_⟩
    cases r <;> rfl
  · rename_i xs
    cases e
    obtain ⟨a, vs, rfl, h1, r, _⟩ := o.tup
    refine .inr (.inl ⟨vs, SqT.of (w.sub _ _ h1), ?_⟩)
    cases r <;> rfl
  · cases e
/-- a test that is no comparison and no connective: its value's truth -/
theorem jt_val {e : Expr} {ie : IE} (h : PE X e (tB cf Γ ie)) (he : ∀ whole, isTrue e X.env whole = (do let v ← whole; standAt e.pos; holding [v] (truthy v))) : PT X e (tT cf Γ ie) :=
  PTw (pt_truth h he) fun σ H Q ⟨W, fp, γ, τ, k, τ', w, sl, ev, q⟩ => by
    simp only [tst, Option.bind_eq_some_iff, Option.map_eq_some_iff, Prod.mk.injEq, Prod.exists] at ev
    obtain ⟨d, τ1, e1, k', e2, rfl, rfl⟩ := ev
    exact ⟨W, fp, γ, τ, d, τ1, w, sl, e1, fun v W1 H1 f1 w1 o1 => ⟨k', truV w1 o1 e2, q W1 H1 f1 w1⟩⟩
theorem jt_not {a : Expr} {ia : IE} {pos : Pos} (h : PT X a (tT cf Γ ia)) : PT X (.UnaryOp .Not a pos) (tT cf Γ (.not ia)) :=
  PTw (pt_not h) fun σ H Q ⟨W, fp, γ, τ, k, τ', w, sl, ev, q⟩ => by
    simp only [tst, evalE, Option.bind_eq_some_iff, Option.map_eq_some_iff, Prod.mk.injEq, Prod.exists] at ev
    obtain ⟨_, _, ⟨b, τ1, ⟨d, τ2, e1, b', e3, e4, e5⟩, rfl, rfl⟩, k', e2, rfl, rfl⟩ := ev
    simp only [truth, Option.some.injEq] at e2
    subst e2
    subst e4 e5
    exact ⟨W, fp, γ, τ, b', τ2, w, sl, by simp only [tst, e1, Option.bind_some, e3, Option.map_some], fun W1 H1 f1 w1 => q W1 H1 f1 w1⟩
theorem je_not {a : Expr} {ia : IE} {pos : Pos} (h : PE X a (tB cf Γ ia)) : PE X (.UnaryOp .Not a pos) (tJ cf Γ (.not ia) .p) :=
  PEw (pe_notT h) fun σ H Q ⟨W, fp, γ, τ, d, τ', w, sl, ev, q⟩ => by
    simp only [tst, evalE, Option.bind_eq_some_iff, Option.map_eq_some_iff, Prod.mk.injEq, Prod.exists] at ev
    obtain ⟨b, τ1, ⟨x, τ2, e1, b', e3, e4, e5⟩, rfl, rfl⟩ := ev
    subst e4 e5
    exact ⟨W, fp, γ, τ, x, τ2, w, sl, e1, fun v W1 H1 f1 w1 o1 => ⟨b', truV w1 o1 e3, q _ W1 H1 f1 w1 (.bl _)⟩⟩
theorem jw_one {op : BoolOp} {a : Expr} {t : TT} {pos : Pos} (h : PT X a t) : PW X (.BoolOp op [a] pos) t := by
  cases op with
  | And => exact pw_and1 h
  | Or => exact pw_or1 h
theorem jw_and {a b : Expr} {rest : List Expr} {ia ib : IE} {pos : Pos} (h : PT X a (tT cf Γ ia)) (h' : PW X (.BoolOp .And (b :: rest) pos) (tT cf Γ ib)) : PW X (.BoolOp .And (a :: b :: rest) pos) (tT cf Γ (.and ia ib)) :=
  PWw (pw_and h h') fun σ H Q ⟨W, fp, γ, τ, k, τ', w, sl, ev, q⟩ => by
    simp only [tst, evalE, Option.bind_eq_some_iff, Option.map_eq_some_iff, Prod.mk.injEq, Prod.exists] at ev
    obtain ⟨d, τ1, ⟨x, τ2, e1, b, e2, e3⟩, k', e4, rfl, rfl⟩ := ev
    refine ⟨W, fp, γ, τ, b, τ2, w, sl, by simp only [tst, e1, Option.bind_some, e2, Option.map_some], fun W1 H1 f1 w1 => ?_⟩
    cases b with
    | true =>
      rw [if_pos rfl] at e3 ⊢
      exact ⟨W1, fp, γ, τ2, k', τ1, w1, sl.mono f1, by simp only [tst, e3, Option.bind_some, e4, Option.map_some], fun W2 H2 f2 w2 => q W2 H2 (f1.trans f2) w2⟩
    | false =>
      rw [if_neg Bool.false_ne_true] at e3 ⊢
      cases e3
      rw [e2] at e4
      cases e4
      exact q W1 H1 f1 w1
theorem jw_or {a b : Expr} {rest : List Expr} {ia ib : IE} {pos : Pos} (h : PT X a (tT cf Γ ia)) (h' : PW X (.BoolOp .Or (b :: rest) pos) (tT cf Γ ib)) : PW X (.BoolOp .Or (a :: b :: rest) pos) (tT cf Γ (.or ia ib)) :=
  PWw (pw_or h h') fun σ H Q ⟨W, fp, γ, τ, k, τ', w, sl, ev, q⟩ => by
    simp only [tst, evalE, Option.bind_eq_some_iff, Option.map_eq_some_iff, Prod.mk.injEq, Prod.exists] at ev
    obtain ⟨d, τ1, ⟨x, τ2, e1, b, e2, e3⟩, k', e4, rfl, rfl⟩ := ev
    refine ⟨W, fp, γ, τ, b, τ2, w, sl, by simp only [tst, e1, Option.bind_some, e2, Option.map_some], fun W1 H1 f1 w1 => ?_⟩
    cases b with
    | false =>
      rw [if_neg Bool.false_ne_true] at e3 ⊢
      exact ⟨W1, fp, γ, τ2, k', τ1, w1, sl.mono f1, by simp only [tst, e3, Option.bind_some, e4, Option.map_some], fun W2 H2 f2 w2 => q W2 H2 (f1.trans f2) w2⟩
    | true =>
      rw [if_pos rfl] at e3 ⊢
      cases e3
      rw [e2] at e4
      cases e4
      exact q W1 H1 f1 w1
/-- a and b, a or b as values -/
theorem je_and {a b : Expr} {rest : List Expr} {ia ib : IE} {pos : Pos} (h : PE X a (tJ cf Γ ia .p)) (h' : PE X (.BoolOp .And (b :: rest) pos) (tJ cf Γ ib .p)) : PE X (.BoolOp .And (a :: b :: rest) pos) (tJ cf Γ (.and ia ib) .p) :=
  PEw (pe_andT h h') fun σ H Q ⟨W, fp, γ, τ, d, τ', w, sl, ev, q⟩ => by
    simp only [evalE, Option.bind_eq_some_iff, Prod.exists] at ev
    obtain ⟨x, τ1, e1, b, e2, e3⟩ := ev
    refine ⟨W, fp, γ, τ, x, τ1, w, sl, e1, fun v W1 H1 f1 w1 r1 => ⟨b, truV w1 (.inl r1) e2, ?_⟩⟩
    cases b with
    | true =>
      rw [if_pos rfl] at e3 ⊢
      exact ⟨W1, fp, γ, τ1, d, τ', w1, sl.mono f1, e3, fun v2 W2 H2 f2 w2 r2 => q v2 W2 H2 (f1.trans f2) w2 r2⟩
    | false =>
      rw [if_neg Bool.false_ne_true] at e3 ⊢
      cases e3
      exact q v W1 H1 f1 w1 r1
theorem je_or {a b : Expr} {rest : List Expr} {ia ib : IE} {pos : Pos} (h : PE X a (tJ cf Γ ia .p)) (h' : PE X (.BoolOp .Or (b :: rest) pos) (tJ cf Γ ib .p)) : PE X (.BoolOp .Or (a :: b :: rest) pos) (tJ cf Γ (.or ia ib) .p) :=
  PEw (pe_orT h h') fun σ H Q ⟨W, fp, γ, τ, d, τ', w, sl, ev, q⟩ => by
    simp only [evalE, Option.bind_eq_some_iff, Prod.exists] at ev
    obtain ⟨x, τ1, e1, b, e2, e3⟩ := ev
    refine ⟨W, fp, γ, τ, x, τ1, w, sl, e1, fun v W1 H1 f1 w1 r1 => ⟨b, truV w1 (.inl r1) e2, ?_⟩⟩
    cases b with
    | false =>
      rw [if_neg Bool.false_ne_true] at e3 ⊢
      exact ⟨W1, fp, γ, τ1, d, τ', w1, sl.mono f1, e3, fun v2 W2 H2 f2 w2 r2 => q v2 W2 H2 (f1.trans f2) w2 r2⟩
    | true =>
      rw [if_pos rfl] at e3 ⊢
      cases e3
      exact q v W1 H1 f1 w1 r1
theorem je_ite {c a b : Expr} {ic ia ib : IE} {t : Ty} {pos : Pos} (hc : PT X c (tT cf Γ ic)) (ha : PE X a (tJ cf Γ ia t)) (hb : PE X b (tJ cf Γ ib t)) : PE X (.IfExp c a b pos) (tJ cf Γ (.ite ic ia ib) t) :=
  PEw (pe_ifExp hc ha hb) fun σ H Q ⟨W, fp, γ, τ, d, τ', w, sl, ev, q⟩ => by
    simp only [evalE, Option.bind_eq_some_iff, Prod.exists] at ev
    obtain ⟨k, τ1, e1, e2⟩ := ev
    refine ⟨W, fp, γ, τ, k, τ1, w, sl, e1, fun W1 H1 f1 w1 => ?_⟩
    cases k with
    | true =>
      rw [if_pos rfl] at e2 ⊢
      exact ⟨W1, fp, γ, τ1, d, τ', w1, sl.mono f1, e2, fun v2 W2 H2 f2 w2 r2 => q v2 W2 H2 (f1.trans f2) w2 r2⟩
    | false =>
      rw [if_neg Bool.false_ne_true] at e2 ⊢
      exact ⟨W1, fp, γ, τ1, d, τ', w1, sl.mono f1, e2, fun v2 W2 H2 f2 w2 r2 => q v2 W2 H2 (f1.trans f2) w2 r2⟩
/-! ### items, slices -/
theorem atI_rp {B : Hp} {vs : List V} {ds : List D} {i : Int} {d : D} (r : RpA B vs ds) (e : atI ds i = some d) : ∃ v, atI vs i = some v ∧ Rp B v d := by
  unfold atI at e ⊢
  rw [r.length]
  obtain ⟨j, e1, e2⟩ := Option.bind_eq_some_iff.mp e
  obtain ⟨v, e3, r3⟩ := r.get e2
  exact ⟨v, by rw [e1]; exact e3, r3⟩
theorem ir_ix : IxR X (rOp2 opIx) := by
  intro value slice pins s σ H x y v u Q I rx ry h hp
  obtain ⟨W, τ, dx, dy, d, w, ox, oy, e, q⟩ := h
  unfold opIx at e
  split at e
  · obtain ⟨a, vs, rfl, h1, _, r, _⟩ := ox.list w
    cases oy.int
    obtain ⟨v', e1, r1⟩ := atI_rp r e
    exact ix_seq value slice pins s σ H _ _ v u Q I rx ry (.inl ⟨a, vs, _, v', rfl, rfl, SqL.of h1, e1, q v' W H (.refl W H) w r1⟩) hp
  · obtain ⟨a, vs, rfl, h1, r, _⟩ := ox.tup
    cases oy.int
    obtain ⟨v', e1, r1⟩ := atI_rp r e
    exact ix_seq value slice pins s σ H _ _ v u Q I rx ry (.inr (.inl ⟨a, vs, _, v', rfl, rfl, SqT.of (w.sub _ _ h1), e1, q v' W H (.refl W H) w r1⟩)) hp
  · cases e
theorem ev_ix {a b : IE} {γ : En} {τ τ' : Tape} {d : D} (e : evalE cf (.ix a b) γ τ = some (d, τ')) : ∃ x τ1 y, evalE cf a γ τ = some (x, τ1) ∧ evalE cf b γ τ1 = some (y, τ') ∧ opIx x y = some d := by
  simp only [evalE, Option.bind_eq_some_iff, Option.map_eq_some_iff, Prod.mk.injEq, Prod.exists] at e
  obtain ⟨x, τ1, h1, y, τ2, h2, d', h3, rfl, rfl⟩ := e
  exact ⟨x, τ1, y, h1, h2, h3⟩
theorem je_ix {a b : Expr} {ia ib : IE} {pos : Pos} (ha : PE X a (tB cf Γ ia)) (hb : PE X b (tB cf Γ ib)) (hs : PlainIx b) : PE X (.Subscript a b pos) (tJ cf Γ (.ix ia ib) .p) :=
  PEw (pe_ix ir_ix ha hb hs) fun σ H Q h => w_op2 (fun _ _ _ _ e => ev_ix e) h
def rSl : V → Option Int → Option Int → Hp → VK → Prop := fun x lo hi H Q => ∃ W τ dx d, WI W τ H ∧ Opd W H x dx ∧ opSl dx lo hi = some d ∧ ∀ v W' H', FrE W H W' H' → WI W' τ H' → Rp W'.B v d → Q v H'
theorem cut_rp {B : Hp} {vs : List V} {ds : List D} (r : RpA B vs ds) (lo hi : Option Int) : RpA B (cutV vs lo hi) (cutD ds lo hi) := by
  unfold cutV cutD
  rw [r.length]
  exact (r.drop _).take _
theorem cut_len (ds : List D) (lo hi : Option Int) : (cutD ds lo hi).length ≤ ds.length := by
  unfold cutD
  rw [List.length_take, List.length_drop]
  omega
theorem sr_sl : SlR X rSl := by
  intro pins s σ H x v vl vu lo hi sl Q I rx hs pl pu h
  obtain ⟨W, τ, dx, d, w, ox, e, q⟩ := h
  unfold opSl at e
  split at e
  · cases e
    obtain ⟨a, vs, rfl, h1, _, r, l⟩ := ox.list w
    refine sl_list pins s σ H _ v vl vu lo hi sl Q I rx hs pl pu ⟨a, vs, rfl, SqL.of h1, fun p hp => ?_⟩
    obtain ⟨f, w'⟩ := new_obj w (.lst (cutV vs lo hi)) hp
    exact q _ _ _ f w' (.lst upd_same ((cut_rp r lo hi).mono f.B) (Nat.le_trans (cut_len _ _ _) l))
  · cases e
    obtain ⟨a, vs, rfl, h1, r, l⟩ := ox.tup
    refine sl_tupA pins s σ H _ v vl vu lo hi sl Q I rx hs pl pu ⟨a, vs, rfl, SqT.of (w.sub _ _ h1), fun c => ?_, fun _ p hp => ?_⟩
    · have e1 : cutV vs lo hi = vs := by
        unfold cutV
        rw [c.1, c.2]
        simp
      refine q _ W H (.refl W H) w (.tup h1 (by have := cut_rp r lo hi; rw [e1] at this; exact this) (Nat.le_trans (cut_len _ _ _) l))
    · obtain ⟨f, w'⟩ := new_obj w (.tup (cutV vs lo hi)) hp
      exact q _ _ _ f w' (.tup upd_same ((cut_rp r lo hi).mono f.B) (Nat.le_trans (cut_len _ _ _) l))
  · cases e
theorem intOf_some {d : D} {i : Int} (e : intOf d = some i) : d = .int i := by
  unfold intOf at e
  split at e
  · cases e; rfl
  · cases e
theorem je_slF {a lo : Expr} {ia il : IE} {pos p2 : Pos} (ha : PE X a (tB cf Γ ia)) (hl : PE X lo (tB cf Γ il)) : PE X (.Subscript a (.Slice (some lo) none none p2) pos) (tJ cf Γ (.slF ia il) .p) :=
  PEw (pe_slice sr_sl ha (po_some hl) po_none) fun σ H Q ⟨W, fp, γ, τ, d, τ', w, sl, ev, q⟩ => by
    simp only [evalE, Option.bind_eq_some_iff, Option.map_eq_some_iff, Prod.mk.injEq, Prod.exists] at ev
    obtain ⟨x, τ1, e1, y, τ2, e2, i, e3, d', e4, rfl, rfl⟩ := ev
    cases intOf_some e3
    exact seq2 (Rr := fun vx vy H2 => ∃ i, vy = .int i ∧ rSl vx (some i) none H2 Q) w sl e1 e2 fun vx vy W2 H2 f2 w2 o1 o2 => ⟨i, o2.int, W2, τ2, x, d', w2, o1, e4, fun v W3 H3 f3 w3 r3 => q v W3 H3 (f2.trans f3) w3 r3⟩
theorem je_slT {a hi : Expr} {ia ih : IE} {pos p2 : Pos} (ha : PE X a (tB cf Γ ia)) (hl : PE X hi (tB cf Γ ih)) : PE X (.Subscript a (.Slice none (some hi) none p2) pos) (tJ cf Γ (.slT ia ih) .p) :=
  PEw (pe_slice sr_sl ha po_none (po_some hl)) fun σ H Q ⟨W, fp, γ, τ, d, τ', w, sl, ev, q⟩ => by
    simp only [evalE, Option.bind_eq_some_iff, Option.map_eq_some_iff, Prod.mk.injEq, Prod.exists] at ev
    obtain ⟨x, τ1, e1, y, τ2, e2, i, e3, d', e4, rfl, rfl⟩ := ev
    cases intOf_some e3
    exact seq2 (Rr := fun vx vy H2 => ∃ i, vy = .int i ∧ rSl vx none (some i) H2 Q) w sl e1 e2 fun vx vy W2 H2 f2 w2 o1 o2 => ⟨i, o2.int, W2, τ2, x, d', w2, o1, e4, fun v W3 H3 f3 w3 r3 => q v W3 H3 (f2.trans f3) w3 r3⟩
theorem je_slB {a lo hi : Expr} {ia il ih : IE} {pos p2 : Pos} (ha : PE X a (tB cf Γ ia)) (hl : PE X lo (tB cf Γ il)) (hh : PE X hi (tB cf Γ ih)) : PE X (.Subscript a (.Slice (some lo) (some hi) none p2) pos) (tJ cf Γ (.slB ia il ih) .p) :=
  PEw (pe_slice sr_sl ha (po_some hl) (po_some hh)) fun σ H Q ⟨W, fp, γ, τ, d, τ', w, sl, ev, q⟩ => by
    simp only [evalE, Option.bind_eq_some_iff, Option.map_eq_some_iff, Prod.mk.injEq, Prod.exists] at ev
    obtain ⟨x, τ1, e1, y, τ2, e2, z, τ3, e5, i, e3, j, e6, d', e4, rfl, rfl⟩ := ev
    cases intOf_some e3
    cases intOf_some e6
    exact seq2 (Rr := fun vx vy H2 => ∃ i, vy = .int i ∧ tB cf Γ ih σ H2 fun vz H3 => ∃ j, vz = .int j ∧ rSl vx (some i) (some j) H3 Q) w sl e1 e2 fun vx vy W2 H2 f2 w2 o1 o2 => ⟨i, o2.int, W2, fp, γ, τ2, _, τ3, w2, sl.mono f2, e5, fun vz W3 H3 f3 w3 o3 =>
      ⟨j, o3.int, W3, τ3, x, d', w3, o1.mono f3, e4, fun v W4 H4 f4 w4 r4 => q v W4 H4 ((f2.trans f3).trans f4) w4 r4⟩⟩
theorem je_rev {a : Expr} {ia : IE} {k : Nat} {p1 p2 p3 pos : Pos} (ha : PE X a (tB cf Γ ia)) : PE X (.Subscript a (.Slice none none (some (.UnaryOp .USub (.Constant (.int 1) k p1) p2)) p3) pos) (tJ cf Γ (.rev ia) .p) :=
  PEw (pe_revL ha) fun σ H Q ⟨W, fp, γ, τ, d, τ', w, sl, ev, q⟩ => by
    simp only [evalE, Option.bind_eq_some_iff, Option.map_eq_some_iff, Prod.mk.injEq, Prod.exists] at ev
    obtain ⟨x, τ1, e1, d', e2, rfl, rfl⟩ := ev
    split at e2
    · cases e2
      refine ⟨W, fp, γ, τ, _, τ1, w, sl, e1, fun v W1 H1 f1 w1 o1 => ?_⟩
      obtain ⟨a, vs, rfl, h1, _, r, l⟩ := o1.list w1
      refine ⟨a, vs, rfl, SqL.of h1, fun p hp => ?_⟩
      obtain ⟨f2, w2⟩ := new_obj w1 (.lst vs.reverse) hp
      exact q _ _ _ (f1.trans f2) w2 (.lst upd_same (r.reverse.mono f2.B) (by rw [List.length_reverse]; exact l))
    · cases e2
end
end Ev
set_option Elab.async false
set_option linter.all false
set_option maxRecDepth 100000
set_option autoImplicit false
/-! Ev5: built-in functions, methods, calls. -/
namespace Ev
open PySem PySem.Spec PyProof.Rows L2
section
variable {cf : CF} {Γ : List Ty} {X : Cx}
/-- a built-in of one argument, by values -/
def rC1 (f : D → Option D) : List V → Hp → VK → Prop := fun xs H Q => ∃ W τ x dx d, xs = [x] ∧ WI W τ H ∧ Opd W H x dx ∧ f dx = some d ∧ ∀ v W' H', FrE W H W' H' → WI W' τ H' → Rp W'.B v d → Q v H'
def rC2 (f : D → D → Option D) : List V → Hp → VK → Prop := fun xs H Q => ∃ W τ x y dx dy d, xs = [x, y] ∧ WI W τ H ∧ Opd W H x dx ∧ Opd W H y dy ∧ f dx dy = some d ∧ ∀ v W' H', FrE W H W' H' → WI W' τ H' → Rp W'.B v d → Q v H'
theorem cr_len : CallR X (.builtin "len") (rC1 bLen) := by
  intro pins s σ H xs us Q I r h
  obtain ⟨W, τ, x, dx, d, rfl, w, o, e, q⟩ := h
  unfold bLen at e
  split at e
  · cases e
    obtain ⟨a, vs, rfl, h1, _, r1, _⟩ := o.list w
    refine call_len_seq pins s σ H _ us Q I r ⟨a, vs, rfl, .inl (SqL.of h1), ?_⟩
    rw [r1.length]
    exact q _ W H (.refl W H) w (.int _)
  · cases e
    obtain ⟨a, vs, rfl, h1, r1, _⟩ := o.tup
    refine call_len_seq pins s σ H _ us Q I r ⟨a, vs, rfl, .inr (SqT.of (w.sub _ _ h1)), ?_⟩
    rw [r1.length]
    exact q _ W H (.refl W H) w (.int _)
  · cases e
theorem cr_tuple : CallR X (.type "tuple") (rC1 bTup) := by
  intro pins s σ H xs us Q I r h
  obtain ⟨W, τ, x, dx, d, rfl, w, o, e, q⟩ := h
  unfold bTup at e
  split at e
  · cases e
    obtain ⟨a, vs, rfl, h1, _, r1, l⟩ := o.list w
    refine call_tuple_of pins s σ H _ us Q I r ⟨a, vs, rfl, .inl ⟨SqL.of h1, fun p hp => ?_⟩⟩
    obtain ⟨f, w'⟩ := new_obj w (.tup vs) hp
    exact q _ _ _ f w' (.tup upd_same (r1.mono f.B) l)
  · cases e
    obtain ⟨a, vs, rfl, h1, r1, l⟩ := o.tup
    exact call_tuple_of pins s σ H _ us Q I r ⟨a, vs, rfl, .inr ⟨SqT.of (w.sub _ _ h1), q _ W H (.refl W H) w (.tup h1 r1 l)⟩⟩
  · cases e
theorem cr_list : CallR X (.type "list") (rC1 bLst) := by
  intro pins s σ H xs us Q I r h
  obtain ⟨W, τ, x, dx, d, rfl, w, o, e, q⟩ := h
  unfold bLst at e
  split at e
  · cases e
    obtain ⟨a, vs, rfl, h1, _, r1, l⟩ := o.list w
    refine call_list_of pins s σ H _ us Q I r ⟨a, vs, rfl, .inl (SqL.of h1), fun p hp => ?_⟩
    obtain ⟨f, w'⟩ := new_obj w (.lst vs) hp
    exact q _ _ _ f w' (.lst upd_same (r1.mono f.B) l)
  · cases e
    obtain ⟨a, vs, rfl, h1, r1, l⟩ := o.tup
    refine call_list_of pins s σ H _ us Q I r ⟨a, vs, rfl, .inr (SqT.of (w.sub _ _ h1)), fun p hp => ?_⟩
    obtain ⟨f, w'⟩ := new_obj w (.lst vs) hp
    exact q _ _ _ f w' (.lst upd_same (r1.mono f.B) l)
  · cases e
theorem cr_int : CallR X (.type "int") (rC1 bInt) := by
  intro pins s σ H xs us Q I r h
  obtain ⟨W, τ, x, dx, d, rfl, w, o, e, q⟩ := h
  unfold bInt at e
  split at e
  · cases e
    cases o.int
    exact call_int1 pins s σ H _ us Q I r (.inl ⟨_, rfl, q _ W H (.refl W H) w (.int _)⟩)
  · cases e
    cases o.bool
    exact call_int1 pins s σ H _ us Q I r (.inr ⟨_, rfl, q _ W H (.refl W H) w (.int _)⟩)
  · cases e
theorem cr_abs : CallR X (.builtin "abs") (rC1 bAbs) := by
  intro pins s σ H xs us Q I r h
  obtain ⟨W, τ, x, dx, d, rfl, w, o, e, q⟩ := h
  unfold bAbs at e
  split at e
  · cases e
    cases o.int
    exact call_abs pins s σ H _ us Q I r ⟨_, rfl, q _ W H (.refl W H) w (.int _)⟩
  · cases e
theorem seqOf_some {x : D} {xs : List D} (e : seqOf x = some xs) : x = .list xs ∨ x = .tuple xs := by
  unfold seqOf at e
  split at e
  · cases e; exact .inl rfl
  · cases e; exact .inr rfl
  · cases e
theorem listOf_some {x : D} {xs : List D} (e : listOf x = some xs) : x = .list xs := by
  unfold listOf at e
  split at e
  · cases e; rfl
  · cases e
theorem ints_list {xs : List D} {ns : List Int} : intsOf xs = some ns → xs = ns.map .int := by
  induction xs generalizing ns with
  | nil => intro e; simp only [intsOf, Option.some.injEq] at e; subst e; rfl
  | cons x r ih =>
    intro e
    unfold intsOf at e
    split at e
    · rename_i heq; cases heq
    · rename_i heq
      cases heq
      obtain ⟨ms, e1, e2⟩ := Option.map_eq_some_iff.mp e
      subst e2
      rw [ih e1]
      rfl
    · cases e
theorem cr_sum' (hc : X.calm = true) : CallR X (.builtin "sum") (rC1 bSum) := by
  intro pins s σ H xs us Q I r h
  obtain ⟨W, τ, x, dx, d, rfl, w, o, e, q⟩ := h
  unfold bSum at e
  obtain ⟨ns, e1, rfl⟩ := Option.map_eq_some_iff.mp e
  obtain ⟨ys, e2, e3⟩ := Option.bind_eq_some_iff.mp e1
  rcases seqOf_some e2 with rfl | rfl
  · obtain ⟨a, vs, rfl, h1, _, r1, l⟩ := o.list w
    have ev := r1.ints e3
    subst ev
    exact cr_sum hc pins s σ H _ us Q I r ⟨a, ns, rfl, SqL.of h1, q _ W H (.refl W H) w (.int _)⟩
  · obtain ⟨a, vs, rfl, h1, r1, l⟩ := o.tup
    have ev := r1.ints e3
    subst ev
    obtain ⟨its, rv, ht, _⟩ := I.tuple (SqT.of (K := X.K) (w.sub _ _ h1))
    rw [Vals.ref1 r]
    have hi := rv.ints
    obtain ⟨zs, hx⟩ := hi.allInts.items
    have hn : numsOf (intItems zs).toList = ns := by rw [← hx]; exact hi.numsOf
    rw [nums_intItems] at hn
    rw [hx] at ht
    refine PySem.W.ktm_sumG (I.ok.hd hc) ht fun h' tk t' hk => ⟨.int ns.sum, H, I.kept hk, ⟨t', ?_⟩, q _ W H (.refl W H) w (.int _)⟩
    rw [preSum_eq, List.take_of_length_le (by simp), hn]
theorem maxI_max {ns : List Int} {m : Int} (e : maxI ns = some m) : 0 < ns.length ∧ ∀ k, k ∈ ns → (∀ y ∈ ns, y ≤ k) → k = m := by
  cases ns with
  | nil => cases e
  | cons x r =>
    cases e
    refine ⟨Nat.succ_pos _, fun k hk hle => ?_⟩
    have key : ∀ (r : List Int) (x : Int), (x ≤ r.foldl max x) ∧ (∀ y ∈ r, y ≤ r.foldl max x) ∧ (r.foldl max x = x ∨ r.foldl max x ∈ r) := by
      intro r
      induction r with
      | nil => intro x; exact ⟨Int.le_refl _, (fun y hy => by cases hy), Or.inl rfl⟩
      | cons a r ih =>
        intro x
        obtain ⟨h1, h2, h3⟩ := ih (max x a)
        rw [List.foldl_cons]
        refine ⟨by omega, fun y hy => ?_, ?_⟩
        · rcases List.mem_cons.mp hy with rfl | hy
          · omega
          · exact h2 y hy
        · rcases h3 with h3 | h3
          · rcases Int.le_total x a with hx | hx
            · right
              rw [h3, Int.max_eq_right hx]
              exact List.mem_cons_self
            · left
              rw [h3, Int.max_eq_left hx]
          · exact .inr (List.mem_cons_of_mem _ h3)
    obtain ⟨h1, h2, h3⟩ := key r x
    have a1 : k ≤ r.foldl max x := by
      rcases List.mem_cons.mp hk with rfl | hk
      · exact h1
      · exact h2 k hk
    have a2 : r.foldl max x ≤ k := by
      rcases h3 with h3 | h3
      · rw [h3]; exact hle x List.mem_cons_self
      · exact hle _ (List.mem_cons_of_mem _ h3)
    omega
theorem minI_min {ns : List Int} {m : Int} (e : minI ns = some m) : 0 < ns.length ∧ ∀ k, k ∈ ns → (∀ y ∈ ns, k ≤ y) → k = m := by
  cases ns with
  | nil => cases e
  | cons x r =>
    cases e
    refine ⟨Nat.succ_pos _, fun k hk hle => ?_⟩
    have key : ∀ (r : List Int) (x : Int), (r.foldl min x ≤ x) ∧ (∀ y ∈ r, r.foldl min x ≤ y) ∧ (r.foldl min x = x ∨ r.foldl min x ∈ r) := by
      intro r
      induction r with
      | nil => intro x; exact ⟨Int.le_refl _, (fun y hy => by cases hy), Or.inl rfl⟩
      | cons a r ih =>
        intro x
        obtain ⟨h1, h2, h3⟩ := ih (min x a)
        rw [List.foldl_cons]
        refine ⟨by omega, fun y hy => ?_, ?_⟩
        · rcases List.mem_cons.mp hy with rfl | hy
          · omega
          · exact h2 y hy
        · rcases h3 with h3 | h3
          · rcases Int.le_total x a with hx | hx
            · left
              rw [h3, Int.min_eq_left hx]
            · right
              rw [h3, Int.min_eq_right hx]
              exact List.mem_cons_self
          · exact .inr (List.mem_cons_of_mem _ h3)
    obtain ⟨h1, h2, h3⟩ := key r x
    have a1 : r.foldl min x ≤ k := by
      rcases List.mem_cons.mp hk with rfl | hk
      · exact h1
      · exact h2 k hk
    have a2 : k ≤ r.foldl min x := by
      rcases h3 with h3 | h3
      · rw [h3]; exact hle x List.mem_cons_self
      · exact hle _ (List.mem_cons_of_mem _ h3)
    omega
theorem alike_ints (ns : List Int) : PySem.W.AlikeAll (ns.map PyData.int) := by
  refine ⟨fun x hx y hy => ?_, fun x hx => ?_⟩
  · obtain ⟨i, _, rfl⟩ := List.mem_map.mp hx
    obtain ⟨j, _, rfl⟩ := List.mem_map.mp hy
    rfl
  · obtain ⟨i, _, rfl⟩ := List.mem_map.mp hx
    exact fun z => nomatch z
theorem depth_ints : ∀ ns : List Int, PyData.depthAll (ns.map PyData.int) = 0
  | [] => by simp [PyData.depthAll]
  | n :: r => by simp [PyData.depthAll, PyData.depth, depth_ints r]
theorem reads_int {h : Heap} {v : Value} {i : Int} {as : List Addr} (r : Reads h v (.int i) as) : ∃ t, v = .int i t := by
  cases r
  exact ⟨_, rfl⟩
theorem cr_max' (hc : X.calm = true) (hu : X.A.units + 150 < cLine) : CallR X (.builtin "max") (rC1 bMax) := by
  intro pins s σ H xs us Q I r h
  obtain ⟨W, τ, x, dx, d, rfl, w, o, e, q⟩ := h
  unfold bMax at e
  obtain ⟨ns, e1, e4⟩ := Option.bind_eq_some_iff.mp e
  obtain ⟨m, e5, rfl⟩ := Option.map_eq_some_iff.mp e4
  obtain ⟨ys, e2, e3⟩ := Option.bind_eq_some_iff.mp e1
  obtain ⟨hp, hm⟩ := maxI_max e5
  rcases seqOf_some e2 with rfl | rfl
  · obtain ⟨a, vs, rfl, h1, _, r1, l⟩ := o.list w
    have ev := r1.ints e3
    subst ev
    exact cr_max hc pins s σ H _ us Q I r ⟨a, ns, rfl, SqL.of h1, hp, fun k hk hle => by rw [hm k hk hle]; exact q _ W H (.refl W H) w (.int _)⟩
  · obtain ⟨a, vs, rfl, h1, r1, l⟩ := o.tup
    have ed := ints_list e3
    subst ed
    obtain ⟨its, rv, ht, _⟩ := I.tuple (SqT.of (K := X.K) (w.sub _ _ h1))
    obtain ⟨as, hr⟩ := Dp.readsAll I _ _ its (r1.dp (K := X.K) w.sub) rv
    rw [Vals.ref1 r]
    cases ns with
    | nil => exact absurd hp (Nat.lt_irrefl _)
    | cons n ns =>
      refine PySem.W.max_tuple_data (I.ok.hd hc) ht hr (alike_ints (n :: ns)) ?_ fun i v h' tk bs _ rr hk => ?_
      · rw [show (PyData.int n :: ns.map PyData.int) = (n :: ns).map PyData.int from rfl, depth_ints]
        omega
      · rw [PySem.W.maxD_ints] at rr
        obtain ⟨t, rfl⟩ := reads_int rr
        cases e5
        exact ⟨.int _, H, I.kept hk, ⟨t, rfl⟩, q _ W H (.refl W H) w (.int _)⟩
theorem cr_min' (hc : X.calm = true) (hu : X.A.units + 150 < cLine) : CallR X (.builtin "min") (rC1 bMin) := by
  intro pins s σ H xs us Q I r h
  obtain ⟨W, τ, x, dx, d, rfl, w, o, e, q⟩ := h
  unfold bMin at e
  obtain ⟨ns, e1, e4⟩ := Option.bind_eq_some_iff.mp e
  obtain ⟨m, e5, rfl⟩ := Option.map_eq_some_iff.mp e4
  obtain ⟨ys, e2, e3⟩ := Option.bind_eq_some_iff.mp e1
  obtain ⟨hp, hm⟩ := minI_min e5
  rcases seqOf_some e2 with rfl | rfl
  · obtain ⟨a, vs, rfl, h1, _, r1, l⟩ := o.list w
    have ev := r1.ints e3
    subst ev
    exact cr_min hc pins s σ H _ us Q I r ⟨a, ns, rfl, SqL.of h1, hp, fun k hk hle => by rw [hm k hk hle]; exact q _ W H (.refl W H) w (.int _)⟩
  · obtain ⟨a, vs, rfl, h1, r1, l⟩ := o.tup
    have ed := ints_list e3
    subst ed
    obtain ⟨its, rv, ht, _⟩ := I.tuple (SqT.of (K := X.K) (w.sub _ _ h1))
    obtain ⟨as, hr⟩ := Dp.readsAll I _ _ its (r1.dp (K := X.K) w.sub) rv
    rw [Vals.ref1 r]
    cases ns with
    | nil => exact absurd hp (Nat.lt_irrefl _)
    | cons n ns =>
      refine PySem.W.min_tuple_data (I.ok.hd hc) ht hr (alike_ints (n :: ns)) ?_ fun i v h' tk bs _ rr hk => ?_
      · rw [show (PyData.int n :: ns.map PyData.int) = (n :: ns).map PyData.int from rfl, depth_ints]
        omega
      · rw [PySem.W.minD_ints] at rr
        obtain ⟨t, rfl⟩ := reads_int rr
        cases e5
        exact ⟨.int _, H, I.kept hk, ⟨t, rfl⟩, q _ W H (.refl W H) w (.int _)⟩
theorem cr_all' (hc : X.calm = true) : CallR X (.builtin "all") (rC1 bAll) := by
  intro pins s σ H xs us Q I r h
  obtain ⟨W, τ, x, dx, d, rfl, w, o, e, q⟩ := h
  unfold bAll at e
  obtain ⟨ns, e1, rfl⟩ := Option.map_eq_some_iff.mp e
  obtain ⟨ys, e2, e3⟩ := Option.bind_eq_some_iff.mp e1
  cases listOf_some e2
  obtain ⟨a, vs, rfl, h1, _, r1, l⟩ := o.list w
  have ev := r1.bools e3
  subst ev
  exact L2.cr_all hc pins s σ H _ us Q I r ⟨a, ns, rfl, SqL.of h1, q _ W H (.refl W H) w (.bl _)⟩
theorem cr_any' (hc : X.calm = true) : CallR X (.builtin "any") (rC1 bAny) := by
  intro pins s σ H xs us Q I r h
  obtain ⟨W, τ, x, dx, d, rfl, w, o, e, q⟩ := h
  unfold bAny at e
  obtain ⟨ns, e1, rfl⟩ := Option.map_eq_some_iff.mp e
  obtain ⟨ys, e2, e3⟩ := Option.bind_eq_some_iff.mp e1
  cases listOf_some e2
  obtain ⟨a, vs, rfl, h1, _, r1, l⟩ := o.list w
  have ev := r1.bools e3
  subst ev
  exact L2.cr_any hc pins s σ H _ us Q I r ⟨a, ns, rfl, SqL.of h1, q _ W H (.refl W H) w (.bl _)⟩
theorem i2_some {f : Int → Int → Int} {x y d : D} (e : i2 f x y = some d) : ∃ i j, x = .int i ∧ y = .int j ∧ d = .int (f i j) := by
  unfold i2 at e
  split at e
  · cases e; exact ⟨_, _, rfl, rfl, rfl⟩
  · cases e
theorem cr_max2 (hc : X.calm = true) : CallR X (.builtin "max") (rC2 (opB2 .max)) := by
  intro pins s σ H xs us Q I r h
  obtain ⟨W, τ, x, y, dx, dy, d, rfl, w, o1, o2, e, q⟩ := h
  obtain ⟨i, j, rfl, rfl, rfl⟩ := i2_some e
  cases o1.int
  cases o2.int
  exact call_max2 hc pins s σ H _ us Q I r ⟨i, j, rfl, q _ W H (.refl W H) w (.int _)⟩
theorem cr_min2 (hc : X.calm = true) : CallR X (.builtin "min") (rC2 (opB2 .min)) := by
  intro pins s σ H xs us Q I r h
  obtain ⟨W, τ, x, y, dx, dy, d, rfl, w, o1, o2, e, q⟩ := h
  obtain ⟨i, j, rfl, rfl, rfl⟩ := i2_some e
  cases o1.int
  cases o2.int
  exact call_min2 hc pins s σ H _ us Q I r ⟨i, j, rfl, q _ W H (.refl W H) w (.int _)⟩
end
end Ev
set_option Elab.async false
set_option linter.all false
set_option maxRecDepth 100000
set_option autoImplicit false
/-! Ev6: calls of defs, of built-ins by name, methods; what is walked. -/
namespace Ev
open PySem PySem.Spec PyProof.Rows L2
section
variable {cf : CF} {Γ : List Ty} {X : Cx}
/-! ### defs -/
/-- the promise of a def, by a run -/
def spC (cf : CF) (pty : List Ty) (res : Ty) (f : Nat) : Sp := fun vs H Q _ => vs.length = pty.length ∧ ∃ W τ ds d τ', WI W τ H ∧ JvA W pty vs ds ∧ cf f ds τ = some (d, τ') ∧ ∀ v W' H', FrE W H W' H' → WI W' τ' H' → Jv W' res v d → Q v H'
theorem JvA.len {W : Wd} : ∀ {ts : List Ty} {vs : List V} {ds : List D}, JvA W ts vs ds → vs.length = ts.length ∧ ds.length = ts.length
  | [], [], [], _ => ⟨rfl, rfl⟩
  | _ :: _, _ :: _, _ :: _, h => by
    obtain ⟨h1, h2⟩ := JvA.len h.2
    exact ⟨by rw [List.length_cons, List.length_cons, h1], by rw [List.length_cons, List.length_cons, h2]⟩
theorem je_call {k : Nat} {fa : Addr} {fd : FuncData} {ps : List Str} {pty : List Ty} {res : Ty} {f : Nat} {x : Str} {p pos : Pos} {e : Expr} {es : List Expr} {ies : List IE} (F : FnOk X.prog X.w X.K X.mg X.base CX0 k fa fd ps (spC cf pty res f)) (hr : Room k X.A)
    (hg : Gl X x) (hm : X.mg x = some (.ref fa)) (hk : PySem.W.keepIn X.K (.ref fa) = true) (hb : Binds X.K fd ps []) (ha : PA X (e :: es) (tJs cf Γ ies pty)) (hdb : (x == ("__debug__" : Str)) = false)
    (he : starEach (e :: es) X.env = (false, eval e X.env) :: starEach es X.env) (hpl : (backTo pos (starEach es X.env)).any (·.1) = false) : PE X (.Call (.Name x p) (e :: es) [] pos) (tJ cf Γ (.call f ies) res) :=
  PEw (pe_call (dvs := []) F hr hg hm hk hb .nil pass0 ha hdb he hpl) fun σ H Q ⟨W, fp, γ, τ, d, τ', w, sl, ev, q⟩ => by
    simp only [evalE, Option.bind_eq_some_iff, Prod.exists] at ev
    obtain ⟨ds, τ1, e1, e2⟩ := ev
    refine ⟨W, fp, γ, τ, ds, τ1, w, sl, e1, fun vs W1 H1 f1 w1 r1 => ?_⟩
    show spC cf pty res f (vs ++ []) H1 Q E0
    rw [List.append_nil]
    exact ⟨r1.len.1, W1, τ1, ds, d, τ', w1, r1, e2, fun v W2 H2 f2 w2 r2 => q v W2 H2 (f1.trans f2) w2 r2⟩
theorem je_call0 {k : Nat} {fa : Addr} {fd : FuncData} {ps : List Str} {res : Ty} {f : Nat} {x : Str} {p pos : Pos} (F : FnOk X.prog X.w X.K X.mg X.base CX0 k fa fd ps (spC cf [] res f)) (hr : Room k X.A)
    (hg : Gl X x) (hm : X.mg x = some (.ref fa)) (hk : PySem.W.keepIn X.K (.ref fa) = true) (hb : Binds X.K fd ps []) (hdb : (x == ("__debug__" : Str)) = false) : PE X (.Call (.Name x p) [] [] pos) (tJ cf Γ (.call f []) res) :=
  PEw (pe_call0 (dvs := []) F hr hg hm hk hb .nil pass0 hdb) fun σ H Q ⟨W, fp, γ, τ, d, τ', w, sl, ev, q⟩ => by
    simp only [evalE, Option.bind_eq_some_iff, Prod.exists] at ev
    obtain ⟨ds, τ1, e1, e2⟩ := ev
    cases evs_nil e1
    exact ⟨rfl, W, τ, [], d, τ', w, trivial, e2, fun v W2 H2 f2 w2 r2 => q v W2 H2 f2 w2 r2⟩
/-! ### built-ins by name -/
theorem w_c1 {f : D → Option D} {ia ie : IE} {σ : L2.St} {H : Hp} {Q : VK} (he : ∀ γ τ d τ', evalE cf ie γ τ = some (d, τ') → ∃ x, evalE cf ia γ τ = some (x, τ') ∧ f x = some d) (h : tJ cf Γ ie .p σ H Q) : tCB (rC1 f) (tBs cf Γ [ia]) σ H Q := by
  obtain ⟨W, fp, γ, τ, d, τ', w, sl, ev, q⟩ := h
  obtain ⟨x, e1, e2⟩ := he γ τ d τ' ev
  refine ⟨W, fp, γ, τ, [x], τ', w, sl, by simp only [evalEs, e1, Option.bind_some, Option.map_some], fun vs W1 H1 f1 w1 o1 => ?_⟩
  match vs, o1 with
  | [v], o1 => exact ⟨W1, τ', v, x, d, rfl, w1, o1.1, e2, fun v2 W2 H2 f2 w2 r2 => q v2 W2 H2 (f1.trans f2) w2 r2⟩
theorem w_c2 {f : D → D → Option D} {ia ib ie : IE} {σ : L2.St} {H : Hp} {Q : VK} (he : ∀ γ τ d τ', evalE cf ie γ τ = some (d, τ') → ∃ x τ1 y, evalE cf ia γ τ = some (x, τ1) ∧ evalE cf ib γ τ1 = some (y, τ') ∧ f x y = some d) (h : tJ cf Γ ie .p σ H Q) : tCB (rC2 f) (tBs cf Γ [ia, ib]) σ H Q := by
  obtain ⟨W, fp, γ, τ, d, τ', w, sl, ev, q⟩ := h
  obtain ⟨x, τ1, y, e1, e2, e3⟩ := he γ τ d τ' ev
  refine ⟨W, fp, γ, τ, [x, y], τ', w, sl, by simp only [evalEs, e1, e2, Option.bind_some, Option.map_some], fun vs W1 H1 f1 w1 o1 => ?_⟩
  match vs, o1 with
  | [v, u], o1 => exact ⟨W1, τ', v, u, x, y, d, rfl, w1, o1.1, o1.2.1, e3, fun v2 W2 H2 f2 w2 r2 => q v2 W2 H2 (f1.trans f2) w2 r2⟩
theorem ev_b1 {f : B1} {a : IE} {γ : En} {τ τ' : Tape} {d : D} (e : evalE cf (.b1 f a) γ τ = some (d, τ')) : ∃ x, evalE cf a γ τ = some (x, τ') ∧ opB1 f x = some d := by
  simp only [evalE, Option.bind_eq_some_iff, Option.map_eq_some_iff, Prod.mk.injEq, Prod.exists] at e
  obtain ⟨x, τ1, h1, d', h3, rfl, rfl⟩ := e
  exact ⟨x, h1, h3⟩
theorem ev_b2 {f : B2} {a b : IE} {γ : En} {τ τ' : Tape} {d : D} (e : evalE cf (.b2 f a b) γ τ = some (d, τ')) : ∃ x τ1 y, evalE cf a γ τ = some (x, τ1) ∧ evalE cf b γ τ1 = some (y, τ') ∧ opB2 f x y = some d := by
  simp only [evalE, Option.bind_eq_some_iff, Option.map_eq_some_iff, Prod.mk.injEq, Prod.exists] at e
  obtain ⟨x, τ1, h1, y, τ2, h2, d', h3, rfl, rfl⟩ := e
  exact ⟨x, τ1, y, h1, h2, h3⟩
/-- which built-in stands behind a word -/
def b1Fun : B1 → Option (Str × String)
  | .len => some ("len", "len") | .abs => some ("abs", "abs") | .sum => some ("sum", "sum") | .max => some ("max", "max") | .min => some ("min", "min") | .all => some ("all", "all") | .any => some ("any", "any") | .sorted => some ("sorted", "sorted")
  | _ => none
def b1Ty : B1 → Option (Str × String)
  | .tuple => some ("tuple", "tuple") | .list => some ("list", "list") | .int => some ("int", "int")
  | _ => none
def b2Fun : B2 → Str × String
  | .max => ("max", "max") | .min => ("min", "min")
theorem b1_boot {f : B1} {x : Str} {id : String} (h : b1Fun f = some (x, id)) : bootBuiltins x = some (.builtin id) ∧ x ≠ "__name__" ∧ (x == ("__debug__" : Str)) = false := by
  cases f <;> simp only [b1Fun, reduceCtorEq, Option.some.injEq, Prod.mk.injEq] at h <;> obtain ⟨rfl, rfl⟩ := h <;> decide +kernel
theorem b1_bootTy {f : B1} {x : Str} {id : String} (h : b1Ty f = some (x, id)) : bootBuiltins x = some (.type id) ∧ x ≠ "__name__" ∧ (x == ("__debug__" : Str)) = false := by
  cases f <;> simp only [b1Ty, reduceCtorEq, Option.some.injEq, Prod.mk.injEq] at h <;> obtain ⟨rfl, rfl⟩ := h <;> decide +kernel
theorem b2_boot (f : B2) : bootBuiltins (b2Fun f).1 = some (.builtin (b2Fun f).2) ∧ (b2Fun f).1 ≠ "__name__" ∧ ((b2Fun f).1 == ("__debug__" : Str)) = false := by
  cases f <;> decide +kernel
theorem insI_perm (x : Int) : ∀ l : List Int, (insI x l).Perm (x :: l)
  | [] => .refl _
  | y :: r => by
    unfold insI
    split
    · exact .refl _
    · exact ((insI_perm x r).cons y).trans (.swap x y r)
theorem sortI_perm : ∀ l : List Int, (sortI l).Perm l
  | [] => .refl _
  | x :: r => (insI_perm x (sortI r)).trans ((sortI_perm r).cons x)
theorem insI_up (x : Int) : ∀ l : List Int, l.Pairwise (· ≤ ·) → (insI x l).Pairwise (· ≤ ·)
  | [], _ => List.pairwise_singleton _ _
  | y :: r, h => by
    obtain ⟨h1, h2⟩ := List.pairwise_cons.mp h
    unfold insI
    split
    · rename_i hx
      refine List.pairwise_cons.mpr ⟨fun z hz => ?_, h⟩
      rcases List.mem_cons.mp hz with rfl | hz
      · exact hx
      · exact Int.le_trans hx (h1 z hz)
    · rename_i hx
      refine List.pairwise_cons.mpr ⟨fun z hz => ?_, insI_up x r h2⟩
      rcases List.mem_cons.mp ((insI_perm x r).mem_iff.mp hz) with rfl | hz
      · omega
      · exact h1 z hz
theorem sortI_up : ∀ l : List Int, (sortI l).Pairwise (· ≤ ·)
  | [] => .nil
  | x :: r => insI_up x _ (sortI_up r)
theorem up_unique : ∀ {l m : List Int}, l.Perm m → l.Pairwise (· ≤ ·) → m.Pairwise (· ≤ ·) → l = m
  | [], m, p, _, _ => (List.nil_perm.mp p).symm
  | x :: l, [], p, _, _ => absurd p.length_eq (by simp)
  | x :: l, y :: m, p, h1, h2 => by
    obtain ⟨a1, a2⟩ := List.pairwise_cons.mp h1
    obtain ⟨b1, b2⟩ := List.pairwise_cons.mp h2
    have e : x = y := by
      have hx : x ∈ y :: m := p.mem_iff.mp List.mem_cons_self
      have hy : y ∈ x :: l := p.mem_iff.mpr List.mem_cons_self
      rcases List.mem_cons.mp hx with rfl | hx
      · rfl
      · rcases List.mem_cons.mp hy with rfl | hy
        · rfl
        · have := b1 x hx
          have := a1 y hy
          omega
    subst e
    rw [up_unique (List.perm_cons x |>.mp p) a2 b2]
theorem RpA.of_ints {B : Hp} : ∀ ns : List Int, RpA B (ns.map V.int) (ns.map PyData.int)
  | [] => .nil
  | n :: r => .cons (.int n) (RpA.of_ints r)
theorem cr_sortedI' : CallR X (.builtin "sorted") (rC1 bSort) := fun pins s σ H xs us Q I r h => by
  obtain ⟨W, τ, x, dx, d, rfl, w, ox, e, q⟩ := h
  unfold bSort at e
  obtain ⟨ns, e1, rfl⟩ := Option.map_eq_some_iff.mp e
  obtain ⟨ys, e2, e3⟩ := Option.bind_eq_some_iff.mp e1
  have fin : ∀ (a : Addr) (vs : List V), x = .ref a → SqL X.K H a vs → vs = ns.map V.int → vs.length ≤ sizeLine → wpAny (model X.prog X.w) X.A (call (.builtin "sorted") us) (EP X pins σ Q) X.xe s := fun a vs hx hs hv hl => by
    refine cr_sortedI pins s σ H [x] us Q I r ⟨a, ns, by rw [hx], by rw [← hv]; exact hs, fun ns' p hp1 hp2 hn => ?_⟩
    have es : ns' = sortI ns := up_unique (hp1.trans (sortI_perm ns).symm) hp2 (sortI_up ns)
    subst es
    obtain ⟨f, w'⟩ := new_obj w (.lst ((sortI ns).map V.int)) hn
    refine q _ _ _ f w' (.lst upd_same (RpA.of_ints _) ?_)
    have hp := (sortI_perm ns).length_eq
    rw [List.length_map, hp]
    rw [hv, List.length_map] at hl
    exact hl
  unfold listOf at e2
  split at e2 <;> first | cases e2 | skip
  rcases ox with ox | ⟨ds, hd, p, vs, rfl, hp, nb, ra, l⟩
  · cases ox with
    | lst eB r l => exact fin _ _ rfl (SqL.of (w.sub _ _ eB)) (r.ints e3) (by rw [r.length]; exact l)
  · cases hd
    exact fin _ _ rfl (SqL.of hp) (ra.ints e3) (by rw [ra.length]; exact l)
theorem b1_rule (hc : X.calm = true) (hu : X.A.units + 150 < cLine) {f : B1} {x : Str} {id : String} (h : b1Fun f = some (x, id)) : CallR X (.builtin id) (rC1 (opB1 f)) := by
  cases f <;> simp only [b1Fun, reduceCtorEq, Option.some.injEq, Prod.mk.injEq] at h <;> obtain ⟨rfl, rfl⟩ := h
  · exact cr_len
  · exact cr_abs
  · exact cr_sum' hc
  · exact cr_max' hc hu
  · exact cr_min' hc hu
  · exact cr_all' hc
  · exact cr_any' hc
  · exact cr_sortedI'
theorem b1_ruleTy {f : B1} {x : Str} {id : String} (h : b1Ty f = some (x, id)) : CallR X (.type id) (rC1 (opB1 f)) := by
  cases f <;> simp only [b1Ty, reduceCtorEq, Option.some.injEq, Prod.mk.injEq] at h <;> obtain ⟨rfl, rfl⟩ := h
  · exact cr_tuple
  · exact cr_list
  · exact cr_int
theorem b2_rule (hc : X.calm = true) (f : B2) : CallR X (.builtin (b2Fun f).2) (rC2 (opB2 f)) := by
  cases f
  · exact cr_max2 hc
  · exact cr_min2 hc
/-- no star among some expressions -/
def unstar : Expr → Bool
  | .Starred .. => false
  | _ => true
theorem star_cons {e : Expr} (h : unstar e = true) (es : List Expr) (env : PySem.Env) : starEach (e :: es) env = (false, eval e env) :: starEach es env := by
  cases e <;> first | rfl | cases h
theorem star_any {es : List Expr} (h : es.all unstar = true) (pos : Pos) (env : PySem.Env) : (backTo pos (starEach es env)).any (·.1) = false := by
  induction es with
  | nil => rfl
  | cons e es ih =>
    rw [List.all_cons, Bool.and_eq_true] at h
    rw [star_cons h.1]
    show (false || (backTo pos (starEach es env)).any (·.1)) = false
    rw [ih h.2]
    rfl
theorem star_nil (env : PySem.Env) : starEach [] env = [] := rfl
theorem je_b1 (hc : X.calm = true) (hu : X.A.units + 150 < cLine) {f : B1} {x : Str} {id : String} (h : b1Fun f = some (x, id)) {e : Expr} {ie : IE} {p pos : Pos} (hg : Gl X x) (hm : X.mg x = none) (hs : unstar e = true) (he : PE X e (tB cf Γ ie)) :
    PE X (.Call (.Name x p) [e] [] pos) (tJ cf Γ (.b1 f ie) .p) :=
  PEw (pe_callB (b1_rule hc hu h) hg hm (b1_boot h).1 (jbs_cons he jbs_nil (star_cons hs [] _)) (b1_boot h).2.1 (b1_boot h).2.2 (star_cons hs [] _) rfl) fun σ H Q q => w_c1 (fun _ _ _ _ e => ev_b1 e) q
theorem je_b1T {f : B1} {x : Str} {id : String} (h : b1Ty f = some (x, id)) {e : Expr} {ie : IE} {p pos : Pos} (hg : Gl X x) (hm : X.mg x = none) (hs : unstar e = true) (he : PE X e (tB cf Γ ie)) :
    PE X (.Call (.Name x p) [e] [] pos) (tJ cf Γ (.b1 f ie) .p) :=
  PEw (pe_callTy (b1_ruleTy h) hg hm (b1_bootTy h).1 (jbs_cons he jbs_nil (star_cons hs [] _)) (b1_bootTy h).2.1 (b1_bootTy h).2.2 (star_cons hs [] _) rfl) fun σ H Q q => w_c1 (fun _ _ _ _ e => ev_b1 e) q
theorem je_b2 (hc : X.calm = true) (f : B2) {e e' : Expr} {ie ie' : IE} {p pos : Pos} (hg : Gl X (b2Fun f).1) (hm : X.mg (b2Fun f).1 = none) (hs : unstar e = true) (hs' : unstar e' = true) (he : PE X e (tB cf Γ ie)) (he' : PE X e' (tB cf Γ ie')) :
    PE X (.Call (.Name (b2Fun f).1 p) [e, e'] [] pos) (tJ cf Γ (.b2 f ie ie') .p) :=
  PEw (pe_callB (b2_rule hc f) hg hm (b2_boot f).1 (jbs_cons he (jbs_cons he' jbs_nil (star_cons hs' [] _)) (star_cons hs [e'] _)) (b2_boot f).2.1 (b2_boot f).2.2 (star_cons hs [e'] _) (star_any (by simp [hs']) _ _)) fun σ H Q q => w_c2 (fun _ _ _ _ e => ev_b2 e) q
/-! ### xs.index(y) -/
theorem ixOf_some {x : D} : ∀ {xs : List D} {j : Nat}, ixOf x xs = some j → ∃ z, xs[j]? = some z ∧ PyData.eqv z x = true ∧ ∀ (m : Nat) (z' : D), m < j → xs[m]? = some z' → PyData.eqv z' x = false
  | [], _, e => by cases e
  | y :: r, j, e => by
    unfold ixOf at e
    split at e
    · rename_i h
      cases e
      exact ⟨y, rfl, h, fun m _ hm => absurd hm (Nat.not_lt_zero m)⟩
    · rename_i h
      obtain ⟨j', e1, rfl⟩ := Option.map_eq_some_iff.mp e
      obtain ⟨z, h1, h2, h3⟩ := ixOf_some e1
      refine ⟨z, h1, h2, fun m z' hm hz => ?_⟩
      cases m with
      | zero =>
        simp only [List.getElem?_cons_zero, Option.some.injEq] at hz
        subst hz
        simpa using h
      | succ m => exact h3 m z' (by omega) (by simpa using hz)
/-- a method of one argument by values -/
def rM1 (f : D → List D → Option D) : V → List V → Hp → VK → Prop := fun x xs H Q => ∃ W τ y dx dy d, xs = [y] ∧ WI W τ H ∧ Opd W H x dx ∧ Opd W H y dy ∧ f dx [dy] = some d ∧ ∀ v W' H', FrE W H W' H' → WI W' τ H' → Rp W'.B v d → Q v H'
theorem mr_index (hu : X.A.units + 150 < cLine) : MtR X "list.index" (rM1 mIndex) := by
  intro pins s σ H x xs v us Q I rx rxs h
  obtain ⟨W, τ, y, dx, dy, d, rfl, w, o1, o2, e, q⟩ := h
  simp only [mIndex, Option.bind_eq_some_iff] at e
  obtain ⟨ds, e1, e2⟩ := e
  split at e2 <;> first | cases e2 | skip
  rename_i hz
  obtain ⟨j, e3, rfl⟩ := Option.map_eq_some_iff.mp e2
  cases listOf_some e1
  obtain ⟨z, h1, h2, h3⟩ := ixOf_some e3
  have hx := o1.dp (K := X.K) w
  have hy := o2.dp (K := X.K) w
  obtain ⟨a, vs, rfl, ha, _, r1, l⟩ := o1.list w
  cases rx
  cases rxs with
  | cons ry rt =>
    rename_i uy ut
    cases rt
    obtain ⟨bs, q1⟩ := Dp.reads I dy y uy hy.1 ry
    have hxs : PyData.canLayAll0 ds = true := lay_list hx.2
    have hroom : X.A.units + 1 + min (PyData.depthAll ds) dy.depth < cLine := by
      have := Nat.min_le_right (PyData.depthAll ds) dy.depth
      omega
    obtain ⟨its, rv, ⟨⟨cls, dd, data, sls⟩, n, ho, hc, hdn, hdt⟩, hlen⟩ := I.list (SqL.of (K := X.K) ha)
    simp only at hc hdt
    subst hc hdt
    obtain ⟨as, h4⟩ := Dp.readsAll I ds _ its (r1.dp (K := X.K) w.sub) rv
    have hn : its.length = ds.length := SeqAt.ReadsAll.length ds its as h4
    have hmap : its.map (SeqAt.readOf s.heap) = ds := SeqAt.readsAll_map ds its as hxs h4
    have hvl := rv.length
    have hsl := sizeLine_eq
    obtain ⟨hjd, _⟩ := List.getElem?_eq_some_iff.mp h1
    have hjl : j < its.length := by omega
    have hj : j < its.toArray.size := by simpa using hjl
    have at_ : ∀ (m : Nat) (hm : m < its.toArray.size) (z' : PyData), ds[m]? = some z' → SeqAt.readOf s.heap its.toArray[m] = z' := by
      intro m hm z' hz'
      have hml : m < its.length := by simpa using hm
      rw [← hmap, List.getElem?_map, List.getElem?_eq_getElem hml] at hz'
      have e1 : SeqAt.readOf s.heap its[m] = z' := Option.some.inj (show some (SeqAt.readOf s.heap its[m]) = some z' from hz')
      simpa using e1
    refine call_meets PySem.F.slot_list_index ⟨_, ho, rfl⟩ PySem.F.entry_list_index (PySem.F.args_list_index_2 _ _)
      (SeqAt.list_indexAt a its.toArray n dd sls uy (fun u => PyData.eqv (SeqAt.readOf s.heap u) dy) j hj (by omega) ?_ ?_) ⟨ho, SeqAt.items_eqAt (vs := its.toArray) (show ReadsAll s.heap its.toArray.toList ds as from h4) q1 hxs hy.2 hroom, ?_⟩
    · show PyData.eqv (SeqAt.readOf s.heap its.toArray[j]) dy = true
      rw [at_ j hj z h1]
      exact h2
    · intro m hm hmj
      have hmd : m < ds.length := by omega
      have hz' : ds[m]? = some ds[m] := List.getElem?_eq_getElem hmd
      show PyData.eqv (SeqAt.readOf s.heap its.toArray[m]) dy = false
      rw [at_ m hm _ hz']
      exact h3 m _ hmj hz'
    · exact ⟨.int (j : Nat), H, I.tok _, ⟨_, rfl⟩, q _ W H (.refl W H) w (.int _)⟩
/-- the receiver is no super() -/
def plainBase : Expr → Bool
  | .Call (.Name _ _) [] [] _ => false
  | _ => true
theorem base_of {o : Expr} (h : plainBase o = true) (m : Str) (env : PySem.Env) (whole : Sem Value) : attributeBase o m env whole = whole := by
  unfold attributeBase
  split
  · cases h
  · rfl
theorem few_of {e : Expr} {es : List Expr} {pos : Pos} {env : PySem.Env} (h : unstar e = true) (hs : es.all unstar = true) (hl : es.length < 20) :
    ((backTo pos (starEach (e :: es) env)).all (fun x => !x.1) && (backToKw pos (keywordEach [] env)).all (fun x => x.1.isSome) && decide ((e :: es).length + ([] : List Keyword).length + (if ([] : List Keyword).isEmpty then 0 else 1) < 30)) = true := by
  have a1 : (backTo pos (starEach (e :: es) env)).all (fun x => !x.1) = true := by
    have := star_any (es := e :: es) (by rw [List.all_cons, h, hs]; rfl) pos env
    rw [List.any_eq_false] at this
    rw [List.all_eq_true]
    intro x hx
    simpa using this x hx
  rw [a1]
  have a2 : (backToKw pos (keywordEach [] env)).all (fun x => x.1.isSome) = true := rfl
  rw [a2, Bool.true_and, Bool.true_and]
  refine decide_eq_true ?_
  show es.length + 1 + 0 + 0 < 30
  omega
theorem opd_tyL {W : Wd} {τ : Tape} {H : Hp} {v : V} {ds : List D} (w : WI W τ H) (o : Opd W H v (.list ds)) : tyV X.K "list" v H := by
  obtain ⟨a, vs, rfl, h1, _⟩ := o.list w
  exact Or.inl ⟨rfl, _, SqL.of h1⟩
theorem ev_mth {m : Mt} {a b : IE} {γ : En} {τ τ' : Tape} {d : D} (e : evalE cf (.mth m a [b]) γ τ = some (d, τ')) : ∃ x τ1 y, evalE cf a γ τ = some (x, τ1) ∧ evalE cf b γ τ1 = some (y, τ') ∧ opMth m x [y] = some d := by
  simp only [evalE, evalEs, Option.bind_eq_some_iff, Option.map_eq_some_iff, Prod.mk.injEq, Prod.exists] at e
  obtain ⟨x, τ1, h1, ys, τ2, ⟨y, τ3, h2, _, _, ⟨rfl, rfl⟩, rfl, rfl⟩, d', h3, rfl, rfl⟩ := e
  exact ⟨x, τ1, y, h1, h2, h3⟩
theorem je_index (hu : X.A.units + 150 < cLine) {o e : Expr} {io ie : IE} {apos cpos : Pos} (ho : PE X o (tB cf Γ io)) (he : PE X e (tB cf Γ ie)) (hb : plainBase o = true) (hs : unstar e = true) (hl : (apos.endLine == cpos.line) = true) :
    PE X (.Call (.Attribute o "index" apos) [e] [] cpos) (tJ cf Γ (.mth .index io [ie]) .p) :=
  PEw (pe_bm PySem.F.plainAttrs_list PySem.F.slot_list_index PySem.F.type_list_index (mr_index hu) ho (jbs_cons he jbs_nil (star_cons hs [] _)) (base_of hb _ _ _) (few_of hs rfl (by decide)) hl (star_cons hs [] _) rfl) fun σ H Q ⟨W, fp, γ, τ, d, τ', w, sl, ev, q⟩ => by
    obtain ⟨x, τ1, y, e1, e2, e3⟩ := ev_mth ev
    refine ⟨W, fp, γ, τ, x, τ1, w, sl, e1, fun v W1 H1 f1 w1 o1 => ⟨?_, W1, fp, γ, τ1, [y], τ', w1, sl.mono f1, by simp only [evalEs, e2, Option.bind_some, Option.map_some], fun vs W2 H2 f2 w2 o2 => ?_⟩⟩
    · have e3 : mIndex x [y] = some d := e3
      simp only [mIndex, Option.bind_eq_some_iff] at e3
      obtain ⟨ds, e4, _⟩ := e3
      cases listOf_some e4
      exact opd_tyL w1 o1
    · match vs, o2 with
      | [u], o2 => exact ⟨W2, τ', u, x, y, d, rfl, w2, o1.mono f2, o2.1, e3, fun v3 W3 H3 f3 w3 r3 => q v3 W3 H3 ((f1.trans f2).trans f3) w3 r3⟩
end
end Ev
set_option Elab.async false
set_option linter.all false
set_option maxRecDepth 100000
set_option autoImplicit false
/-! Ev6r: repr of lists and tuples, where no repr runs around. -/
namespace Ev
open PySem PySem.Spec PyProof.Rows L2
section
variable {X : Cx} {pins : List (Addr × Obj)} {σ : L2.St} {H : Hp} {s : Shared} {B : Hp}
mutual
theorem reads_of (I : Inv X pins σ H s) (sb : Same B H) : ∀ {v : V} {d : D} {u : Value}, Rp B v d → RelV v u → ∃ as, Reads s.heap u d as
  | _, _, _, .non, h => by
    have h : _ = Value.none := h
    subst h; exact ⟨_, .none⟩
  | _, _, _, .bl b, h => by
    have h : _ = Value.bool b := h
    subst h; exact ⟨_, .bool b⟩
  | _, _, _, .int i, h => by
    obtain ⟨t, rfl⟩ := h; exact ⟨_, .int i t⟩
  | _, _, _, .str x _, h => by
    obtain ⟨t, rfl⟩ := h; exact ⟨_, .str x t⟩
  | _, _, _, .lst (a := a) e r _, h => by
    have h : _ = Value.ref a := h
    subst h
    obtain ⟨its, r2, ⟨o, n, h1, h2, _, h4⟩, _⟩ := I.list (SqL.of (sb _ _ e))
    obtain ⟨as, ra⟩ := reads_all I sb r r2
    exact ⟨_, .list h1 h2 h4 (by simpa using ra)⟩
  | _, _, _, .tup (a := a) e r _, h => by
    have h : _ = Value.ref a := h
    subst h
    obtain ⟨its, r2, ⟨o, h1, h2, n, h4⟩, _⟩ := I.tuple (SqT.of (sb _ _ e))
    obtain ⟨as, ra⟩ := reads_all I sb r r2
    exact ⟨_, .tuple h1 h2 h4 (by simpa using ra)⟩
theorem reads_all (I : Inv X pins σ H s) (sb : Same B H) : ∀ {vs : List V} {ds : List D} {us : List Value}, RpA B vs ds → Vals vs us → ∃ as, ReadsAll s.heap us ds as
  | _, _, _, .nil, h => by cases h; exact ⟨_, .nil⟩
  | _, _, _, .cons a r, h => by
    cases h with
    | cons h1 h2 =>
      obtain ⟨as, ra⟩ := reads_of I sb a h1
      obtain ⟨bs, rb⟩ := reads_all I sb r h2
      exact ⟨_, .cons ra rb⟩
end
end
section
variable {X : Cx}
theorem cr_repr (hg : X.A.guards = some []) (hu : X.A.units + 150 < cLine) : CallR X (.builtin "repr") (rC1 reprD) := fun pins s σ H xs us Q I r h => by
  obtain ⟨W, τ, x, dx, d, rfl, w, ox, e, q⟩ := h
  cases r with
  | cons r1 r2 =>
    rename_i u us'
    cases r2
    have fin : ∀ (a : Addr) (as : List Addr), Reads s.heap (.ref a) dx as → dx.showable = true → dx.hasDict = false → dx.shown.length ≤ sizeLine → PyData.strOk dx.shown = true → dx.depth ≤ 100 → d = .str dx.shown → wpAny (model X.prog X.w) X.A (call (.builtin "repr") [.ref a]) (EP X pins σ Q) X.xe s := fun a as rd h1 h2 h3 h4 h5 h6 => by
      refine repr_of_reads' (h₀ := s.heap) rd h1 (fun z => by rw [h2] at z; cases z) hg (by omega) (fun _ _ e => e) (fun h' t tk keep => ?_) h3
      refine ⟨.str dx.shown, H, I.un (Un.kept keep) (I.hok.kept keep), ⟨_, rfl⟩, ?_⟩
      exact q _ W H (.refl W H) w (by rw [h6]; exact .str _ h4)
    unfold reprD at e
    split at e
    · split at e <;> first | cases e | skip
      rename_i xs hz
      obtain ⟨h1, h2, h3, h4, h5⟩ := hz
      rcases ox with ox | ⟨ds, hd, p, vs, rfl, hp, nb, ra, l⟩
      · cases ox with
        | lst eB r l =>
          cases r1
          obtain ⟨as, rd⟩ := reads_of I w.sub (.lst eB r l) (u := .ref _) rfl
          exact fin _ as rd h1 h2 h3 h4 h5 rfl
      · cases hd
        cases r1
        obtain ⟨its, r2, ⟨o, n, g1, g2, _, g4⟩, _⟩ := I.list (SqL.of hp)
        obtain ⟨as, rd⟩ := reads_all I w.sub ra r2
        exact fin _ _ (.list g1 g2 g4 (by simpa using rd)) h1 h2 h3 h4 h5 rfl
    · split at e <;> first | cases e | skip
      rename_i xs hz
      obtain ⟨h1, h2, h3, h4, h5⟩ := hz
      rcases ox with ox | ⟨ds, hd, _⟩
      · cases ox with
        | tup eB r l =>
          cases r1
          obtain ⟨as, rd⟩ := reads_of I w.sub (.tup eB r l) (u := .ref _) rfl
          exact fin _ as rd h1 h2 h3 h4 h5 rfl
      · cases hd
    · cases e
theorem repr_boot : bootBuiltins "repr" = some (.builtin "repr") ∧ ("repr" : Str) ≠ "__name__" ∧ (("repr" : Str) == ("__debug__" : Str)) = false := by decide +kernel
theorem je_repr {cf : CF} {Γ : List Ty} (hgd : X.A.guards = some []) (hu : X.A.units + 150 < cLine) {e : Expr} {ie : IE} {p pos : Pos} (hg : Gl X "repr") (hm : X.mg "repr" = none) (hs : unstar e = true) (he : PE X e (tB cf Γ ie)) :
    PE X (.Call (.Name "repr" p) [e] [] pos) (tJ cf Γ (.b1 .repr ie) .p) :=
  PEw (pe_callB (cr_repr hgd hu) hg hm repr_boot.1 (jbs_cons he jbs_nil (star_cons hs [] _)) repr_boot.2.1 repr_boot.2.2 (star_cons hs [] _) rfl) fun σ H Q q => w_c1 (fun _ _ _ _ e => ev_b1 e) q
end
end Ev
set_option Elab.async false
set_option linter.all false
set_option maxRecDepth 100000
set_option autoImplicit false
/-! Ev7: what is walked; targets. -/
namespace Ev
open PySem PySem.Spec PyProof.Rows L2
/-- the iterator J yields the data ds, one behind the other, wherever P holds -/
def ItOk (P : Wd → Hp → Prop) (J : It) (ds : List D) : Prop := ∀ W τ H, WI W τ H → P W H → ∀ i : Nat,
  (∀ d, ds[i]? = some d → J.go i H ∧ ∀ x H', J.yld i H x H' → ∃ W', FrE W H W' H' ∧ WI W' τ H' ∧ Rp W'.B x d) ∧ (ds.length ≤ i → J.stop i H)
theorem ItOk.mono {P P' : Wd → Hp → Prop} {J : It} {ds : List D} (h : ItOk P J ds) (hp : ∀ W H, P' W H → P W H) : ItOk P' J ds := fun W τ H w p => h W τ H w (hp W H p)
section
variable (cf : CF) (Γ : List Ty)
/-- what is walked stays as it is while what was frozen at its start is -/
def tI (k : IK) (ies : List IE) : TI := fun σ H R => ∃ W fp γ τ ds τ' xs, WI W τ H ∧ SL W fp Γ γ σ H ∧ evalEs cf ies γ τ = some (ds, τ') ∧ items k ds = some xs ∧
  ∀ J W' H', FrE W H W' H' → WI W' τ' H' → ItOk (fun W2 _ => Same W'.B W2.B) J xs → (lenOk k xs = true → xs.length ≤ sizeLine) → R J H'
/-- .. while nothing of the own objects changes -/
def tIB (k : IK) (ies : List IE) : TI := fun σ H R => ∃ W fp γ τ ds τ' xs, WI W τ H ∧ SL W fp Γ γ σ H ∧ evalEs cf ies γ τ = some (ds, τ') ∧ items k ds = some xs ∧
  ∀ J W' H', FrE W H W' H' → WI W' τ' H' → ItOk (fun W2 H2 => FrE W' H' W2 H2) J xs → (lenOk k xs = true → xs.length ≤ sizeLine) → R J H'
end
section
variable {cf : CF} {Γ : List Ty} {X : Cx}
theorem pi_weak {tg e : Expr} {k : IK} {ies : List IE} (h : PI X tg e (tI cf Γ k ies)) : PI X tg e (tIB cf Γ k ies) :=
  PIw h fun σ H R ⟨W, fp, γ, τ, ds, τ', xs, w, sl, e1, e2, q⟩ => ⟨W, fp, γ, τ, ds, τ', xs, w, sl, e1, e2, fun J W' H' f w' o l => q J W' H' f w' (o.mono fun W2 H2 f2 => f2.B) l⟩
/-- a list or a tuple -/
def iSeq (K : PySem.W.Frag) (tl : TE) : TI := fun σ H R => tl σ H fun x H1 => ∃ a, x = .ref a ∧ (((∃ xs, SqL K H1 a xs) ∧ R (Itl K a) H1) ∨ ((∃ xs, SqT K H1 a xs) ∧ R (Itt K a) H1))
theorem pi_seq {tg l : Expr} {tl : TE} (hl : PE X l tl) : PI X tg l (iSeq X.K tl) := by
  refine ⟨fun pins s σ H R I h => ?_⟩
  refine thn (hl.run pins s σ H _ I h) fun v s1 ⟨x, H1, I1, r1, q1⟩ => ?_
  obtain ⟨a, e, q⟩ := q1
  subst e
  cases r1
  rcases q with ⟨⟨xs, hq⟩, q⟩ | ⟨⟨xs, hq⟩, q⟩
  · obtain ⟨its, rv, p, hz⟩ := I1.list hq
    refine wpAny_pyIter_list p.isList ?_
    refine ⟨s1.heap.objs.size, [s1.heap.objs.size], _, _, H1, rfl, I1.kept (t' := s1.toks) fun b o e => Heap.get?_push_of_some _ e, turn_list a _, ⟨_, Heap.get?_push_size _ rfl, rfl, rfl⟩, fun b hb => ?_, q⟩
    have e : b = s1.heap.objs.size := by simpa using hb
    subst e
    exact I1.fpOk (Nat.le_refl _) (I1.hok.fresh (Nat.le_refl _))
  · obtain ⟨its, rv, p, hz⟩ := I1.tuple hq
    refine wpAny_pyIter_tuple (show s1.heap.IsTuple a its.toArray from p) ?_
    refine ⟨s1.heap.objs.size, [s1.heap.objs.size], _, _, H1, rfl, I1.kept (t' := s1.toks) fun b o e => Heap.get?_push_of_some _ e, turn_tuple a _, ⟨_, Heap.get?_push_size _ rfl, rfl, rfl⟩, fun b hb => ?_, q⟩
    have e : b = s1.heap.objs.size := by simpa using hb
    subst e
    exact I1.fpOk (Nat.le_refl _) (I1.hok.fresh (Nat.le_refl _))
/-- a list at a, frozen from W1 on, or standing -/
theorem itl_ok {K : PySem.W.Frag} {P : Wd → Hp → Prop} {a : Addr} {vs : List V} {ds : List D} (h : ∀ W τ H, WI W τ H → P W H → H a = some (.lst vs) ∧ RpA W.B vs ds) : ItOk P (Itl K a) ds := by
  intro W τ H w p i
  obtain ⟨h1, r⟩ := h W τ H w p
  refine ⟨fun d hd => ?_, fun hl => ⟨vs, SqL.of h1, by rw [r.length]; exact hl⟩⟩
  obtain ⟨v, hv, rv⟩ := r.get hd
  refine ⟨⟨vs, v, SqL.of h1, hv⟩, fun x H' hy => ?_⟩
  obtain ⟨rfl, hx⟩ := hy
  have e := hx vs (SqL.of h1)
  rw [hv] at e
  cases e
  exact ⟨W, .refl W _, w, rv⟩
theorem itt_ok {K : PySem.W.Frag} {P : Wd → Hp → Prop} {a : Addr} {vs : List V} {ds : List D} (h : ∀ W τ H, WI W τ H → P W H → H a = some (.tup vs) ∧ RpA W.B vs ds) : ItOk P (Itt K a) ds := by
  intro W τ H w p i
  obtain ⟨h1, r⟩ := h W τ H w p
  refine ⟨fun d hd => ?_, fun hl => ⟨vs, SqT.of h1, by rw [r.length]; exact hl⟩⟩
  obtain ⟨v, hv, rv⟩ := r.get hd
  refine ⟨⟨vs, v, SqT.of h1, hv⟩, fun x H' hy => ?_⟩
  obtain ⟨rfl, hx⟩ := hy
  have e := hx vs (SqT.of h1)
  rw [hv] at e
  cases e
  exact ⟨W, .refl W _, w, rv⟩
theorem evs_one {ie : IE} {γ : En} {τ τ' : Tape} {ds : List D} (e : evalEs cf [ie] γ τ = some (ds, τ')) : ∃ d, ds = [d] ∧ evalE cf ie γ τ = some (d, τ') := by
  obtain ⟨d, τ1, ds', e1, e2, rfl⟩ := evs_cons e
  cases evs_nil e2
  exact ⟨d, rfl, e1⟩
theorem js_seq {tg e : Expr} {ie : IE} (h : PE X e (tJ cf Γ ie .p)) : PI X tg e (tI cf Γ .seq [ie]) :=
  PIw (pi_seq h) fun σ H R ⟨W, fp, γ, τ, ds, τ', xs, w, sl, e1, e2, q⟩ => by
    obtain ⟨d, rfl, e3⟩ := evs_one e1
    refine ⟨W, fp, γ, τ, d, τ', w, sl, e3, fun v W1 H1 f1 w1 r1 => ?_⟩
    rcases seqOf_some (show seqOf d = some xs from e2) with rfl | rfl
    · cases r1 with
      | @lst a vs _ ha ra la =>
        exact ⟨a, rfl, .inl ⟨⟨vs, SqL.of (w1.sub _ _ ha)⟩, q _ W1 H1 f1 w1 (itl_ok (vs := vs) fun W2 τ2 H2 w2 p => ⟨w2.sub _ _ (p _ _ ha), ra.mono p⟩) fun _ => la⟩⟩
    · cases r1 with
      | @tup a vs _ ha ra la =>
        exact ⟨a, rfl, .inr ⟨⟨vs, SqT.of (w1.sub _ _ ha)⟩, q _ W1 H1 f1 w1 (itt_ok (vs := vs) fun W2 τ2 H2 w2 p => ⟨w2.sub _ _ (p _ _ ha), ra.mono p⟩) fun _ => la⟩⟩
theorem jb_seq {tg e : Expr} {ie : IE} (h : PE X e (tB cf Γ ie)) : PI X tg e (tIB cf Γ .seq [ie]) :=
  PIw (pi_seq h) fun σ H R ⟨W, fp, γ, τ, ds, τ', xs, w, sl, e1, e2, q⟩ => by
    obtain ⟨d, rfl, e3⟩ := evs_one e1
    refine ⟨W, fp, γ, τ, d, τ', w, sl, e3, fun v W1 H1 f1 w1 o1 => ?_⟩
    rcases seqOf_some (show seqOf d = some xs from e2) with rfl | rfl
    · obtain ⟨a, vs, rfl, ha, na, ra, la⟩ := o1.list w1
      exact ⟨a, rfl, .inl ⟨⟨vs, SqL.of ha⟩, q _ W1 H1 f1 w1 (itl_ok (vs := vs) fun W2 τ2 H2 w2 p => ⟨p.hp _ _ ha na, ra.mono p.B⟩) fun _ => la⟩⟩
    · obtain ⟨a, vs, rfl, ha, ra, la⟩ := o1.tup
      exact ⟨a, rfl, .inr ⟨⟨vs, SqT.of (w1.sub _ _ ha)⟩, q _ W1 H1 f1 w1 (itt_ok (vs := vs) fun W2 τ2 H2 w2 p => ⟨w2.sub _ _ (p.B _ _ ha), ra.mono p.B⟩) fun _ => la⟩⟩
theorem itR1_some {ds xs : List D} (e : itR1 ds = some xs) : ∃ n : Int, ds = [.int n] ∧ (-(2 ^ 62) ≤ n ∧ n < 2 ^ 62) ∧ xs = rangeD 0 n.toNat := by
  unfold itR1 at e
  split at e <;> first | cases e | skip
  split at e <;> first | cases e | skip
  rename_i hz
  exact ⟨_, rfl, by omega, rfl⟩
theorem itR2_some {ds xs : List D} (e : itR2 ds = some xs) : ∃ a b : Int, ds = [.int a, .int b] ∧ (-(2 ^ 62) ≤ a ∧ a < 2 ^ 62 ∧ -(2 ^ 62) ≤ b ∧ b < 2 ^ 62) ∧ xs = rangeD a (b - a).toNat := by
  unfold itR2 at e
  split at e <;> first | cases e | skip
  split at e <;> first | cases e | skip
  rename_i hz
  exact ⟨_, _, rfl, by omega, rfl⟩
theorem itEnum_some {ds xs : List D} (e : itEnum ds = some xs) : ∃ ys, ds = [.list ys] ∧ xs = ys.zipIdx.map fun p => .tuple [.int (p.2 : Nat), p.1] := by
  unfold itEnum at e
  split at e <;> first | cases e | skip
  exact ⟨_, rfl, rfl⟩
theorem itZip_some {ds xs : List D} (e : itZip ds = some xs) : ∃ ys zs, (ds = [.list ys, .list zs] ∨ ds = [.tuple ys, .tuple zs]) ∧ xs = (ys.zip zs).map fun p => .tuple [p.1, p.2] := by
  unfold itZip at e
  split at e <;> first | cases e | skip
  · exact ⟨_, _, .inl rfl, rfl⟩
  · exact ⟨_, _, .inr rfl, rfl⟩
/-! ### ranges -/
theorem rangeD_get {a : Int} {n i : Nat} {d : D} (h : (rangeD a n)[i]? = some d) : i < n ∧ d = .int (a + (i : Nat)) := by
  unfold rangeD at h
  rw [List.getElem?_map, Option.map_eq_some_iff] at h
  obtain ⟨j, h1, rfl⟩ := h
  obtain ⟨h2, h3⟩ := List.getElem?_eq_some_iff.mp h1
  rw [List.getElem_range] at h3
  rw [List.length_range] at h2
  subst h3
  exact ⟨h2, rfl⟩
theorem rangeD_len (a : Int) (n : Nat) : (rangeD a n).length = n := by
  unfold rangeD
  rw [List.length_map, List.length_range]
theorem itr_ok {P : Wd → Hp → Prop} (a : Int) (n : Nat) : ItOk P (Itr a n) (rangeD a n) := by
  intro W τ H w p i
  refine ⟨fun d hd => ?_, fun hl => by rw [rangeD_len] at hl; exact hl⟩
  obtain ⟨h1, rfl⟩ := rangeD_get hd
  refine ⟨h1, fun x H' hy => ?_⟩
  obtain ⟨rfl, rfl⟩ := hy
  exact ⟨W, .refl W _, w, .int _⟩
theorem lenOk_r {xs : List D} (h : decide (xs.length ≤ sizeLine) = true) : xs.length ≤ sizeLine := of_decide_eq_true h
theorem js_r1 {tg a : Expr} {ia : IE} {p pos : Pos} (hg : Gl X "range") (hm : X.mg "range" = none) (hs : unstar a = true) (h : PE X a (tB cf Γ ia)) : PI X tg (.Call (.Name "range" p) [a] [] pos) (tI cf Γ .r1 [ia]) :=
  PIw (pi_range1 hg hm (jbs_cons h jbs_nil (star_cons hs [] _)) (star_cons hs [] _)) fun σ H R ⟨W, fp, γ, τ, ds, τ', xs, w, sl, e1, e2, q⟩ => by
    obtain ⟨d, rfl, e3⟩ := evs_one e1
    obtain ⟨n, e4, hz, rfl⟩ := itR1_some e2
    cases e4
    refine ⟨W, fp, γ, τ, [.int n], τ', w, sl, e1, fun vs W1 H1 f1 w1 o1 => ?_⟩
    match vs, o1 with
    | [v], o1 =>
      cases o1.1.int
      exact ⟨_, rfl, hz.1, hz.2, q _ W1 H1 f1 w1 (itr_ok 0 _) lenOk_r⟩
theorem js_r2 {tg a b : Expr} {ia ib : IE} {p pos : Pos} (hg : Gl X "range") (hm : X.mg "range" = none) (hs : unstar a = true) (hs' : unstar b = true) (h : PE X a (tB cf Γ ia)) (h' : PE X b (tB cf Γ ib)) : PI X tg (.Call (.Name "range" p) [a, b] [] pos) (tI cf Γ .r2 [ia, ib]) :=
  PIw (pi_range2 hg hm (jbs_cons h (jbs_cons h' jbs_nil (star_cons hs' [] _)) (star_cons hs [b] _)) (by rw [star_cons hs, star_cons hs']; rfl) (star_cons hs' [] _)) fun σ H R ⟨W, fp, γ, τ, ds, τ', xs, w, sl, e1, e2, q⟩ => by
    obtain ⟨d, τ1, ds', e3, e4, rfl⟩ := evs_cons e1
    obtain ⟨d', rfl, e5⟩ := evs_one e4
    obtain ⟨n, m, e4, hz, rfl⟩ := itR2_some e2
    cases e4
    refine ⟨W, fp, γ, τ, [.int n, .int m], τ', w, sl, e1, fun vs W1 H1 f1 w1 o1 => ?_⟩
    match vs, o1 with
    | [v, u], o1 =>
      cases o1.1.int
      cases o1.2.1.int
      exact ⟨_, _, rfl, hz, q _ W1 H1 f1 w1 (itr_ok _ _) lenOk_r⟩
/-! ### enumerate, zip -/
theorem enum_get {ds : List D} {i : Nat} {d : D} (h : (ds.zipIdx.map fun p => PyData.tuple [.int (p.2 : Nat), p.1])[i]? = some d) : ∃ x, ds[i]? = some x ∧ d = .tuple [.int (i : Nat), x] := by
  rw [List.getElem?_map, Option.map_eq_some_iff] at h
  obtain ⟨p, h1, rfl⟩ := h
  rw [List.getElem?_zipIdx, Option.map_eq_some_iff] at h1
  obtain ⟨x, h2, rfl⟩ := h1
  exact ⟨x, h2, by simp⟩
theorem two_line : (2 : Nat) ≤ sizeLine := by rw [sizeLine_eq]; decide
theorem ite_ok {K : PySem.W.Frag} {P : Wd → Hp → Prop} {a : Addr} {vs : List V} {ds : List D} (h : ∀ W τ H, WI W τ H → P W H → H a = some (.lst vs) ∧ RpA W.B vs ds) : ItOk P (Ite K a) (ds.zipIdx.map fun p => PyData.tuple [.int (p.2 : Nat), p.1]) := by
  intro W τ H w p i
  obtain ⟨h1, r⟩ := h W τ H w p
  refine ⟨fun d hd => ?_, fun hl => ⟨vs, SqL.of h1, by rw [r.length]; simpa using hl⟩⟩
  obtain ⟨y, hy, rfl⟩ := enum_get hd
  obtain ⟨v, hv, rv⟩ := r.get hy
  refine ⟨⟨vs, v, SqL.of h1, hv⟩, fun x H' hy => ?_⟩
  obtain ⟨T, x', rfl, hT, rfl, hx⟩ := hy
  have e := hx vs (SqL.of h1)
  rw [hv] at e
  cases e
  obtain ⟨f, w'⟩ := new_obj w (.tup [.int (i : Nat), v]) hT
  exact ⟨_, f, w', .tup upd_same (.cons (.int _) (.cons (rv.mono f.B) .nil)) two_line⟩
theorem w_enum {tl : TE} {P : Wd → Hp → Wd → Hp → Prop} {ie : IE} : True := trivial
theorem js_enum {elts : List Expr} {kk : Nat} {tpos : Pos} {e : Expr} {ie : IE} {p pos : Pos} (hg : Gl X "enumerate") (hm : X.mg "enumerate" = none) (hs : unstar e = true) (h : PE X e (tJ cf Γ ie .p)) :
    PI X (.Tuple elts kk tpos) (.Call (.Name "enumerate" p) [e] [] pos) (tI cf Γ .enum [ie]) :=
  PIw (pi_enum hg hm (jps_cons h jps_nil (star_cons hs [] _)) (star_cons hs [] _)) fun σ H R ⟨W, fp, γ, τ, ds, τ', xs, w, sl, e1, e2, q⟩ => by
    obtain ⟨d, rfl, e3⟩ := evs_one e1
    obtain ⟨ys, e4, rfl⟩ := itEnum_some e2
    cases e4
    refine ⟨W, fp, γ, τ, [.list ys], τ', w, sl, e1, fun vs W1 H1 f1 w1 r1 => ?_⟩
    cases r1 with
    | cons ra rt =>
      cases rt
      cases ra with
      | @lst a vs _ ha ra la =>
        exact ⟨a, vs, rfl, SqL.of (w1.sub _ _ ha), q _ W1 H1 f1 w1 (ite_ok (vs := vs) fun W2 τ2 H2 w2 p => ⟨w2.sub _ _ (p _ _ ha), ra.mono p⟩) fun _ => by simpa using la⟩
theorem jb_enum {elts : List Expr} {kk : Nat} {tpos : Pos} {e : Expr} {ie : IE} {p pos : Pos} (hg : Gl X "enumerate") (hm : X.mg "enumerate" = none) (hs : unstar e = true) (h : PE X e (tB cf Γ ie)) :
    PI X (.Tuple elts kk tpos) (.Call (.Name "enumerate" p) [e] [] pos) (tIB cf Γ .enum [ie]) :=
  PIw (pi_enum hg hm (jbs_cons h jbs_nil (star_cons hs [] _)) (star_cons hs [] _)) fun σ H R ⟨W, fp, γ, τ, ds, τ', xs, w, sl, e1, e2, q⟩ => by
    obtain ⟨d, rfl, e3⟩ := evs_one e1
    obtain ⟨ys, e4, rfl⟩ := itEnum_some e2
    cases e4
    refine ⟨W, fp, γ, τ, [.list ys], τ', w, sl, e1, fun vs W1 H1 f1 w1 o1 => ?_⟩
    match vs, o1 with
    | [v], o1 =>
      obtain ⟨a, vs, rfl, ha, na, ra, la⟩ := o1.1.list w1
      exact ⟨a, vs, rfl, SqL.of ha, q _ W1 H1 f1 w1 (ite_ok (vs := vs) fun W2 τ2 H2 w2 p => ⟨p.hp _ _ ha na, ra.mono p.B⟩) fun _ => by simpa using la⟩
theorem zip_get {ds es : List D} {i : Nat} {d : D} (h : ((ds.zip es).map fun p => PyData.tuple [p.1, p.2])[i]? = some d) : ∃ x y, ds[i]? = some x ∧ es[i]? = some y ∧ d = .tuple [x, y] := by
  rw [List.getElem?_map, Option.map_eq_some_iff] at h
  obtain ⟨p, h1, rfl⟩ := h
  rw [List.getElem?_zip_eq_some] at h1
  exact ⟨p.1, p.2, h1.1, h1.2, rfl⟩
theorem itz_ok {K : PySem.W.Frag} {P : Wd → Hp → Prop} {a b : Addr} {vs ws : List V} {ds es : List D} (h : ∀ W τ H, WI W τ H → P W H → (H a = some (.lst vs) ∧ RpA W.B vs ds) ∧ H b = some (.lst ws) ∧ RpA W.B ws es) : ItOk P (Itz K a b) ((ds.zip es).map fun p => PyData.tuple [p.1, p.2]) := by
  intro W τ H w p i
  obtain ⟨⟨h1, r⟩, h2, r2⟩ := h W τ H w p
  refine ⟨fun d hd => ?_, fun hl => ⟨vs, ws, SqL.of h1, SqL.of h2, by rw [r.length, r2.length]; simp only [List.length_map, List.length_zip] at hl; omega⟩⟩
  obtain ⟨x, y, hx, hy, rfl⟩ := zip_get hd
  obtain ⟨v, hv, rv⟩ := r.get hx
  obtain ⟨u, hu, ru⟩ := r2.get hy
  refine ⟨⟨vs, ws, v, u, SqL.of h1, SqL.of h2, hv, hu⟩, fun x H' hy => ?_⟩
  obtain ⟨T, x', y', rfl, hT, rfl, hx, hy⟩ := hy
  have e := hx vs (SqL.of h1)
  rw [hv] at e
  cases e
  have e := hy ws (SqL.of h2)
  rw [hu] at e
  cases e
  obtain ⟨f, w'⟩ := new_obj w (.tup [v, u]) hT
  exact ⟨_, f, w', .tup upd_same (.cons (rv.mono f.B) (.cons (ru.mono f.B) .nil)) two_line⟩
theorem itzT_ok {K : PySem.W.Frag} {P : Wd → Hp → Prop} {a b : Addr} {vs ws : List V} {ds es : List D} (h : ∀ W τ H, WI W τ H → P W H → (H a = some (.tup vs) ∧ RpA W.B vs ds) ∧ H b = some (.tup ws) ∧ RpA W.B ws es) : ItOk P (RZ.ItzT K a b) ((ds.zip es).map fun p => PyData.tuple [p.1, p.2]) := by
  intro W τ H w p i
  obtain ⟨⟨h1, r⟩, h2, r2⟩ := h W τ H w p
  refine ⟨fun d hd => ?_, fun hl => ⟨vs, ws, SqT.of h1, SqT.of h2, by rw [r.length, r2.length]; simp only [List.length_map, List.length_zip] at hl; omega⟩⟩
  obtain ⟨x, y, hx, hy, rfl⟩ := zip_get hd
  obtain ⟨v, hv, rv⟩ := r.get hx
  obtain ⟨u, hu, ru⟩ := r2.get hy
  refine ⟨⟨vs, ws, v, u, SqT.of h1, SqT.of h2, hv, hu⟩, fun x H' hy => ?_⟩
  obtain ⟨T, x', y', rfl, hT, rfl, hx, hy⟩ := hy
  have e := hx vs (SqT.of h1)
  rw [hv] at e
  cases e
  have e := hy ws (SqT.of h2)
  rw [hu] at e
  cases e
  obtain ⟨f, w'⟩ := new_obj w (.tup [v, u]) hT
  exact ⟨_, f, w', .tup upd_same (.cons (rv.mono f.B) (.cons (ru.mono f.B) .nil)) two_line⟩
theorem js_zip {elts : List Expr} {kk : Nat} {tpos : Pos} {e e' : Expr} {ie ie' : IE} {p pos : Pos} (hg : Gl X "zip") (hm : X.mg "zip" = none) (hs : unstar e = true) (hs' : unstar e' = true) (h : PE X e (tJ cf Γ ie .p)) (h' : PE X e' (tJ cf Γ ie' .p)) :
    PI X (.Tuple elts kk tpos) (.Call (.Name "zip" p) [e, e'] [] pos) (tI cf Γ .zip [ie, ie']) :=
  PIw (RZ.pi_zipA hg hm (jps_cons h (jps_cons h' jps_nil (star_cons hs' [] _)) (star_cons hs [e'] _)) (star_cons hs [e'] _) (star_any (by simp [hs']) _ _)) fun σ H R ⟨W, fp, γ, τ, ds, τ', xs, w, sl, e1, e2, q⟩ => by
    obtain ⟨d, τ1, ds', e3, e4, rfl⟩ := evs_cons e1
    obtain ⟨d', rfl, e5⟩ := evs_one e4
    obtain ⟨ys, zs, e4, rfl⟩ := itZip_some e2
    rcases e4 with e4 | e4
    · cases e4
      refine ⟨W, fp, γ, τ, _, τ', w, sl, e1, fun vs W1 H1 f1 w1 r1 => ?_⟩
      cases r1 with
      | cons ra rt =>
        cases rt with
        | cons rb rt =>
          cases rt
          cases ra with
          | @lst a vs _ ha ra la =>
            cases rb with
            | @lst b ws _ hb rb lb =>
              exact ⟨a, b, vs, ws, rfl, .inl ⟨SqL.of (w1.sub _ _ ha), SqL.of (w1.sub _ _ hb), q _ W1 H1 f1 w1 (itz_ok (vs := vs) (ws := ws) fun W2 τ2 H2 w2 p => ⟨⟨w2.sub _ _ (p _ _ ha), ra.mono p⟩, w2.sub _ _ (p _ _ hb), rb.mono p⟩) fun _ => by simp only [List.length_map, List.length_zip]; omega⟩⟩
    · cases e4
      refine ⟨W, fp, γ, τ, _, τ', w, sl, e1, fun vs W1 H1 f1 w1 r1 => ?_⟩
      cases r1 with
      | cons ra rt =>
        cases rt with
        | cons rb rt =>
          cases rt
          cases ra with
          | @tup a vs _ ha ra la =>
            cases rb with
            | @tup b ws _ hb rb lb =>
              exact ⟨a, b, vs, ws, rfl, .inr ⟨SqT.of (w1.sub _ _ ha), SqT.of (w1.sub _ _ hb), q _ W1 H1 f1 w1 (itzT_ok (vs := vs) (ws := ws) fun W2 τ2 H2 w2 p => ⟨⟨w2.sub _ _ (p _ _ ha), ra.mono p⟩, w2.sub _ _ (p _ _ hb), rb.mono p⟩) fun _ => by simp only [List.length_map, List.length_zip]; omega⟩⟩
end
end Ev
set_option Elab.async false
set_option linter.all false
set_option maxRecDepth 100000
set_option autoImplicit false
/-! Ev8: targets, comprehensions. -/
namespace Ev
open PySem PySem.Spec PyProof.Rows L2
/-! ### slots set -/
theorem ty_set {Γ : List Ty} {i j : Nat} {t : Ty} : ty (Γ.set i t) j = if j = i ∧ i < Γ.length then t else ty Γ j := by
  unfold ty
  rw [List.getD_eq_getElem?_getD, List.getD_eq_getElem?_getD]
  by_cases e : j = i
  · subst e
    by_cases h : j < Γ.length
    · rw [List.getElem?_set_self h, if_pos ⟨rfl, h⟩]
      rfl
    · rw [if_neg (fun z => h z.2), List.set_eq_of_length_le (by omega)]
  · rw [List.getElem?_set_ne (Ne.symm e), if_neg (fun z => e z.1)]
theorem optD_set {α : Type} {l : List (Option α)} {i j : Nat} {x : Option α} : (l.set i x).getD j none = if j = i ∧ i < l.length then x else l.getD j none := by
  rw [List.getD_eq_getElem?_getD, List.getD_eq_getElem?_getD]
  by_cases e : j = i
  · subst e
    by_cases h : j < l.length
    · rw [List.getElem?_set_self h, if_pos ⟨rfl, h⟩]
      rfl
    · rw [if_neg (fun z => h z.2), List.set_eq_of_length_le (by omega)]
  · rw [List.getElem?_set_ne (Ne.symm e), if_neg (fun z => e z.1)]
theorem rd_set {γ : En} {i j : Nat} {x : Option D} : rd (γ.set i x) j = if j = i ∧ i < γ.length then x else rd γ j := optD_set
/-- slots emptied -/
def off (fp : Nat → List Addr) (i : Nat) : Nat → List Addr := fun j => if j = i then [] else fp j
theorem off_mem {fp : Nat → List Addr} {i j : Nat} {a : Addr} (h : a ∈ off fp i j) : a ∈ fp j ∧ j ≠ i := by
  unfold off at h
  split at h
  · cases h
  · rename_i e; exact ⟨h, e⟩
theorem off_sub {fp : Nat → List Addr} {i j : Nat} : (fp j).Nodup → (off fp i j).Nodup := fun h => by
  unfold off
  split
  · exact List.nodup_nil
  · exact h
theorem Slot.un {W : Wd} {H : Hp} {g : Option D} {s : Option V} : Slot W H .u g s [] := rfl
theorem ty_out {Γ : List Ty} {i : Nat} (h : ¬ i < Γ.length) : ty Γ i = .u := by
  unfold ty
  rw [List.getD_eq_getElem?_getD, List.getElem?_eq_none (by omega)]
  rfl
/-- a slot takes a frozen datum -/
theorem SL.setP {W : Wd} {fp : Nat → List Addr} {Γ : List Ty} {γ : En} {σ : L2.St} {H : Hp} (h : SL W fp Γ γ σ H) (i : Nat) {t : Ty} {v : V} {d : D} (ht : t = .p ∨ t = .pK ∨ t = .pT) (r : Jv W t v d) : SL W (off fp i) (Γ.set i t) (γ.set i (some d)) (σ.set i (some v)) H := by
  refine ⟨fun j => ?_, fun j => off_sub (h.nd j), fun j k hjk a ha hb => h.dj j k hjk a (off_mem ha).1 (off_mem hb).1, by rw [List.length_set, List.length_set]; exact h.len, by rw [List.length_set, List.length_set]; exact h.lenG⟩
  rw [ty_set, rd_set, optD_set]
  have e1 : γ.length = Γ.length := h.len.trans h.lenG.symm
  rw [e1, ← h.lenG]
  by_cases c : j = i ∧ i < Γ.length
  · rw [if_pos c, if_pos c, if_pos c]
    have : off fp i j = [] := by unfold off; rw [if_pos c.1]
    rw [this]
    rcases ht with rfl | rfl | rfl
    · exact ⟨rfl, d, v, rfl, rfl, r⟩
    · exact ⟨rfl, d, v, rfl, rfl, r⟩
    · exact ⟨rfl, d, v, rfl, rfl, r⟩
  · rw [if_neg c, if_neg c, if_neg c]
    by_cases e : j = i
    · have hj : ¬ j < Γ.length := fun z => c ⟨e, e ▸ z⟩
      have : off fp i j = [] := by unfold off; rw [if_pos e]
      rw [this, ty_out hj]
      rfl
    · have : off fp i j = fp j := by unfold off; rw [if_neg e]
      rw [this]
      exact h.slot j
/-- a slot is forgotten -/
theorem SL.forget {W : Wd} {fp : Nat → List Addr} {Γ : List Ty} {γ : En} {σ : L2.St} {H : Hp} (h : SL W fp Γ γ σ H) (i : Nat) (g : Option D) (s : Option V) : SL W (off fp i) (Γ.set i .u) (γ.set i g) (σ.set i s) H := by
  refine ⟨fun j => ?_, fun j => off_sub (h.nd j), fun j k hjk a ha hb => h.dj j k hjk a (off_mem ha).1 (off_mem hb).1, by rw [List.length_set, List.length_set]; exact h.len, by rw [List.length_set, List.length_set]; exact h.lenG⟩
  rw [ty_set, rd_set, optD_set]
  have e1 : γ.length = Γ.length := h.len.trans h.lenG.symm
  rw [e1, ← h.lenG]
  by_cases c : j = i ∧ i < Γ.length
  · rw [if_pos c, if_pos c, if_pos c]
    show off fp i j = []
    unfold off
    rw [if_pos c.1]
  · rw [if_neg c, if_neg c, if_neg c]
    by_cases e : j = i
    · have hj : ¬ j < Γ.length := fun z => c ⟨e, e ▸ z⟩
      have : off fp i j = [] := by unfold off; rw [if_pos e]
      rw [this, ty_out hj]
      rfl
    · have : off fp i j = fp j := by unfold off; rw [if_neg e]
      rw [this]
      exact h.slot j
theorem set_self {α : Type} (l : List (Option α)) (i : Nat) : l.set i (l.getD i none) = l := by
  apply List.ext_getElem?
  intro j
  by_cases e : j = i
  · subst e
    by_cases h : j < l.length
    · rw [List.getElem?_set_self h, List.getD_eq_getElem?_getD, List.getElem?_eq_getElem h]
      rfl
    · rw [List.set_eq_of_length_le (by omega)]
  · rw [List.getElem?_set_ne (Ne.symm e)]
theorem SL.forgetG {W : Wd} {fp : Nat → List Addr} {Γ : List Ty} {γ : En} {σ : L2.St} {H : Hp} (h : SL W fp Γ γ σ H) (i : Nat) (s : Option V) : SL W (off fp i) (Γ.set i .u) γ (σ.set i s) H := by
  have := h.forget i (γ.getD i none) s
  rw [set_self] at this
  exact this
theorem SL.forgetS {W : Wd} {fp : Nat → List Addr} {Γ : List Ty} {γ : En} {σ : L2.St} {H : Hp} (h : SL W fp Γ γ σ H) (i : Nat) (g : Option D) : SL W (off fp i) (Γ.set i .u) (γ.set i g) σ H := by
  have := h.forget i g (σ.getD i none)
  rw [set_self] at this
  exact this
theorem SL.forgetB {W : Wd} {fp : Nat → List Addr} {Γ : List Ty} {γ : En} {σ : L2.St} {H : Hp} (h : SL W fp Γ γ σ H) (i : Nat) : SL W (off fp i) (Γ.set i .u) γ σ H := by
  have := h.forgetG i (σ.getD i none)
  rw [set_self] at this
  exact this
def offs (fp : Nat → List Addr) : List Nat → Nat → List Addr
  | [] => fp
  | i :: is => off (offs fp is) i
def unk (Γ : List Ty) : List Nat → List Ty
  | [] => Γ
  | i :: is => (unk Γ is).set i .u
theorem offs_mem {fp : Nat → List Addr} {j : Nat} {a : Addr} : ∀ {is : List Nat}, a ∈ offs fp is j → a ∈ fp j
  | [], h => h
  | _ :: _, h => offs_mem (off_mem h).1
theorem SL.wipe {W : Wd} {fp : Nat → List Addr} {Γ : List Ty} {γ : En} {σ : L2.St} {H : Hp} (h : SL W fp Γ γ σ H) : ∀ is : List Nat, SL W (offs fp is) (unk Γ is) γ (L2.wipe σ is) H
  | [] => h
  | i :: is => by
    show SL W (off (offs fp is) i) ((unk Γ is).set i .u) γ ((L2.wipe σ is).set i none) H
    exact (SL.wipe h is).forgetG i none
/-! ### targets -/
mutual
def tgSlots : Tg → List Nat
  | .n i => [i]
  | .t ts => tgSlotss ts
  | .l ts => tgSlotss ts
def tgSlotss : List Tg → List Nat
  | [] => []
  | t :: ts => tgSlots t ++ tgSlotss ts
end
mutual
def setT : Tg → List Ty → List Ty
  | .n i, Γ => Γ.set i .p
  | .t ts, Γ => setTs ts Γ
  | .l ts, Γ => setTs ts Γ
def setTs : List Tg → List Ty → List Ty
  | [], Γ => Γ
  | t :: ts, Γ => setTs ts (setT t Γ)
end
/-- slots beside some are as they were -/
def SameBut (is : List Nat) (σ σ' : L2.St) : Prop := σ'.length = σ.length ∧ ∀ j, j ∉ is → σ'[j]? = σ[j]?
theorem SameBut.refl (is : List Nat) (σ : L2.St) : SameBut is σ σ := ⟨rfl, fun _ _ => rfl⟩
theorem SameBut.trans {is js : List Nat} {σ σ1 σ2 : L2.St} (a : SameBut is σ σ1) (b : SameBut js σ1 σ2) : SameBut (is ++ js) σ σ2 :=
  ⟨b.1.trans a.1, fun j h => (b.2 j fun m => h (List.mem_append_right _ m)).trans (a.2 j fun m => h (List.mem_append_left _ m))⟩
/-- footprints shrink -/
def Less (fp fp' : Nat → List Addr) : Prop := ∀ j a, a ∈ fp' j → a ∈ fp j
theorem Less.refl (fp : Nat → List Addr) : Less fp fp := fun _ _ h => h
theorem Less.trans {a b c : Nat → List Addr} (h : Less a b) (k : Less b c) : Less a c := fun j x m => h j x (k j x m)
def gT (tg : Tg) : TG := fun v σ H Q => ∃ W fp Γ γ d γ', SL W fp Γ γ σ H ∧ Same W.B H ∧ Rp W.B v d ∧ bindT tg d γ = some γ' ∧ ∀ σ' fp', SL W fp' (setT tg Γ) γ' σ' H → Less fp fp' → SameBut (tgSlots tg) σ σ' → Q σ' H
def gTs (ts : List Tg) : TGs := fun vs σ H Q => ∃ W fp Γ γ ds γ', SL W fp Γ γ σ H ∧ Same W.B H ∧ RpA W.B vs ds ∧ bindTs ts ds γ = some γ' ∧ ∀ σ' fp', SL W fp' (setTs ts Γ) γ' σ' H → Less fp fp' → SameBut (tgSlotss ts) σ σ' → Q σ' H
theorem PGw {X : Cx} {e : Expr} {t t' : TG} (h : PG X e t) (w : ∀ v σ H Q, t' v σ H Q → t v σ H Q) : PG X e t' := ⟨fun pins s σ H v u Q I r h' => h.run pins s σ H v u Q I r (w v σ H Q h')⟩
theorem PGsw {X : Cx} {es : List Expr} {t t' : TGs} (h : PGs X es t) (w : ∀ vs σ H Q, t' vs σ H Q → t vs σ H Q) : PGs X es t' := ⟨fun pins s σ H vs us Q I r h' => h.run pins s σ H vs us Q I r (w vs σ H Q h')⟩
section
variable {X : Cx}
theorem gt_n {e : Expr} {i : Nat} (h : PG X e (gName i)) : PG X e (gT (.n i)) :=
  PGw h fun v σ H Q ⟨W, fp, Γ, γ, d, γ', sl, sb, r, e, q⟩ => by
    simp only [bindT, Option.some.injEq] at e
    subst e
    refine q _ _ (sl.setP i (.inl rfl) r) (fun j a m => (off_mem m).1) ⟨by rw [List.length_set], fun j hj => ?_⟩
    rw [List.getElem?_set_ne]
    intro e
    exact hj (by rw [← e]; exact List.mem_cons_self)
theorem gt_nil : PGs X [] (gTs []) :=
  PGsw pgs_nil fun vs σ H Q ⟨W, fp, Γ, γ, ds, γ', sl, sb, r, e, q⟩ => by
    cases r with
    | nil =>
      simp only [bindTs, Option.some.injEq] at e
      subst e
      exact ⟨rfl, q _ _ sl (.refl _) (.refl _ _)⟩
    | cons _ _ => simp [bindTs] at e
theorem gt_cons {e : Expr} {es : List Expr} {t : Tg} {ts : List Tg} (h1 : PG X e (gT t)) (h2 : PGs X es (gTs ts)) (hs : assignEach (e :: es) X.env = (false, assign e X.env) :: assignEach es X.env) : PGs X (e :: es) (gTs (t :: ts)) :=
  PGsw (pgs_cons h1 h2 (by rw [hs]; rfl)) fun vs σ H Q ⟨W, fp, Γ, γ, ds, γ', sl, sb, r, e, q⟩ => by
    cases r with
    | nil => simp [bindTs] at e
    | @cons v vs d ds ra rr =>
      simp only [bindTs, Option.bind_eq_some_iff] at e
      obtain ⟨g, e1, e2⟩ := e
      refine ⟨v, vs, rfl, W, fp, Γ, γ, d, g, sl, sb, ra, e1, fun σ1 fp1 sl1 le1 sb1 => ?_⟩
      exact ⟨W, fp1, _, g, ds, γ', sl1, sb, rr, e2, fun σ2 fp2 sl2 le2 sb2 => q σ2 fp2 sl2 (le1.trans le2) (sb1.trans sb2)⟩
theorem each_len {es : List Expr} (h : es.all unstar = true) (env : PySem.Env) : (assignEach es env).length = es.length ∧ (assignEach es env).findIdx? (·.1) = none := by
  induction es with
  | nil => exact ⟨rfl, rfl⟩
  | cons e es ih =>
    rw [List.all_cons, Bool.and_eq_true] at h
    have e1 : assignEach (e :: es) env = (false, assign e env) :: assignEach es env := by
      have := h.1
      cases e <;> first | rfl | cases this
    obtain ⟨i1, i2⟩ := ih h.2
    refine ⟨by rw [e1, List.length_cons, List.length_cons, i1], ?_⟩
    rw [e1, List.findIdx?_cons, i2]
    rfl
theorem bindTs_len : ∀ {ts : List Tg} {ds : List D} {γ γ' : En}, bindTs ts ds γ = some γ' → ds.length = ts.length
  | [], [], _, _, _ => rfl
  | [], _ :: _, _, _, e => by simp [bindTs] at e
  | _ :: _, [], _, _, e => by simp [bindTs] at e
  | t :: ts, d :: ds, γ, γ', e => by
    simp only [bindTs, Option.bind_eq_some_iff] at e
    obtain ⟨g, _, e2⟩ := e
    rw [List.length_cons, List.length_cons, bindTs_len e2]
theorem gt_t {es : List Expr} {k : Nat} {pos : Pos} {ts : List Tg} (hc : X.calm = true) (h : PGs X es (gTs ts)) (hs : es.all unstar = true) (hl : es.length = ts.length) : PG X (.Tuple es k pos) (gT (.t ts)) :=
  PGw (pg_tup hc h (each_len hs _).1 (each_len hs _).2) fun v σ H Q ⟨W, fp, Γ, γ, d, γ', sl, sb, r, e, q⟩ => by
    cases d with
    | tuple ds =>
      cases r with
      | @tup a vs _ ha ra la =>
        simp only [bindT] at e
        exact ⟨a, vs, rfl, SqT.of (sb _ _ ha), by rw [ra.length, bindTs_len e, hl], W, fp, Γ, γ, ds, γ', sl, sb, ra, e, q⟩
    | _ => simp [bindT] at e
theorem gt_l {es : List Expr} {k : Nat} {pos : Pos} {ts : List Tg} (hc : X.calm = true) (h : PGs X es (gTs ts)) (hs : es.all unstar = true) (hl : es.length = ts.length) : PG X (.Tuple es k pos) (gT (.l ts)) :=
  PGw (pg_unl hc h (each_len hs _).1 (each_len hs _).2) fun v σ H Q ⟨W, fp, Γ, γ, d, γ', sl, sb, r, e, q⟩ => by
    cases d with
    | list ds =>
      cases r with
      | @lst a vs _ ha ra la =>
        simp only [bindT] at e
        exact ⟨a, vs, rfl, SqL.of (sb _ _ ha), by rw [ra.length, bindTs_len e, hl], W, fp, Γ, γ, ds, γ', sl, sb, ra, e, q⟩
    | _ => simp [bindT] at e
end
/-! ### worlds: freezing, changing what is one's own -/
theorem WI.freeze {W : Wd} {τ : Tape} {H : Hp} (w : WI W τ H) {p : Addr} {o : HO} (hp : H p = some o) (hb : W.B p = none) (hn : ¬ W.tp p) : WI (W.add p o) τ H := by
  refine ⟨fun b x e => ?_, ?_⟩
  · have e : upd W.B p o b = some x := e
    by_cases k : b = p
    · subst k
      rw [upd_same] at e
      cases e
      exact hp
    · rw [upd_ne k] at e
      exact w.sub b x e
  · cases w.tape with
    | off e => exact .off e
    | on a c cells e n h1 h2 e1 l1 e2 l2 al =>
      have na : a ≠ p := fun z => hn ⟨a, c, e, .inl z.symm⟩
      have nc : c ≠ p := fun z => hn ⟨a, c, e, .inr z.symm⟩
      refine .on a c cells e n ?_ ?_ e1 l1 e2 l2 al
      · show upd W.B p o a = none
        rw [upd_ne na]; exact h1
      · show upd W.B p o c = none
        rw [upd_ne nc]; exact h2
theorem WI.change {W : Wd} {τ : Tape} {H : Hp} (w : WI W τ H) {p : Addr} (o : HO) (hb : W.B p = none) (hn : ¬ W.tp p) : WI W τ (upd H p o) := by
  refine ⟨fun b x e => ?_, ?_⟩
  · have k : b ≠ p := fun z => by rw [z, hb] at e; cases e
    rw [upd_ne k]
    exact w.sub b x e
  · cases w.tape with
    | off e => exact .off e
    | on a c cells e n h1 h2 e1 l1 e2 l2 al =>
      have na : a ≠ p := fun z => hn ⟨a, c, e, .inl z.symm⟩
      have nc : c ≠ p := fun z => hn ⟨a, c, e, .inr z.symm⟩
      exact .on a c cells e n h1 h2 (by rw [upd_ne nc]; exact e1) l1 (by rw [upd_ne na]; exact e2) l2 al
/-- what was new at the start may be changed -/
theorem FrE.change {W W' : Wd} {H H' : Hp} (f : FrE W H W' H') {p : Addr} (o : HO) (hp : H p = none) : FrE W H W' (upd H' p o) := by
  refine ⟨f.st, f.stn, f.B, f.nb, fun a x e n => ?_, fun a h => ?_⟩
  · rw [upd_ne (ne_of_none e hp)]
    exact f.hp a x e n
  · by_cases k : a = p
    · rw [k, upd_same]; exact fun z => nomatch z
    · rw [upd_ne k]; exact f.Ht a h
/-- .. or frozen -/
theorem FrE.freeze {W W' : Wd} {H H' : Hp} (f : FrE W H W' H') {p : Addr} (o : HO) (hp : H p = none) (hb : W'.B p = none) : FrE W H (W'.add p o) H' := by
  refine ⟨f.st, f.stn, fun b x e => ?_, fun a h => ?_, f.hp, f.Ht⟩
  · have e1 := f.B b x e
    have k : b ≠ p := fun z => by rw [z, hb] at e1; cases e1
    show upd W'.B p o b = some x
    rw [upd_ne k]
    exact e1
  · have h : upd W'.B p o a ≠ none := h
    by_cases k : a = p
    · exact .inr (k ▸ hp)
    · rw [upd_ne k] at h
      exact f.nb a h
theorem add_same (W : Wd) {p : Addr} (o : HO) (hb : W.B p = none) : Same W.B (W.add p o).B := fun b x e => by
  show upd W.B p o b = some x
  rw [upd_ne (fun z => by rw [z, hb] at e; cases e)]
  exact e
theorem InnerL.there {W : Wd} {H : Hp} : ∀ {vs : List V} {ds : List D} {as : List Addr}, InnerL W H vs ds as → ∀ a ∈ as, ∃ o, H a = some o
  | [], [], [], _, a, h => nomatch h
  | .ref b :: vs, .list ds :: es, c :: as, h, a, ha => by
    obtain ⟨e, ⟨ws, h1, _⟩, t⟩ := h
    rcases List.mem_cons.mp ha with rfl | ha
    · exact ⟨_, e ▸ h1⟩
    · exact InnerL.there t a ha
theorem Slot.there {W : Wd} {H : Hp} {t : Ty} {g : Option D} {s : Option V} {F : List Addr} (h : Slot W H t g s F) : ∀ a ∈ F, ∃ o, H a = some o := by
  intro a ha
  cases t with
  | u => cases (show F = [] from h); cases ha
  | p => cases h.1; cases ha
  | pK => cases h.1; cases ha
  | pT => cases h.1; cases ha
  | st => cases h.1; cases ha
  | cl => cases h.1; cases ha
  | o =>
    obtain ⟨b, vs, ds, rfl, _, _, h3, _⟩ := h
    cases List.mem_singleton.mp ha
    exact ⟨_, h3⟩
  | oo =>
    obtain ⟨b, as, vs, ds, rfl, _, _, h3, _, _, r, _⟩ := h
    rcases List.mem_cons.mp ha with rfl | ha
    · exact ⟨_, h3⟩
    · exact r.there a ha
  | dK =>
    obtain ⟨b, vs, ds, rfl, _, _, h3, _⟩ := h
    cases List.mem_singleton.mp ha
    exact ⟨_, h3⟩
  | dT =>
    obtain ⟨b, vs, ds, rfl, _, _, h3, _⟩ := h
    cases List.mem_singleton.mp ha
    exact ⟨_, h3⟩
theorem InnerL.change {W : Wd} {H : Hp} {p : Addr} {o : HO} : ∀ {vs : List V} {ds : List D} {as : List Addr}, InnerL W H vs ds as → p ∉ as → InnerL W (upd H p o) vs ds as
  | [], [], [], _, _ => trivial
  | .ref b :: vs, .list ds :: es, c :: as, h, hp => by
    obtain ⟨e, ⟨ws, h1, h2⟩, t⟩ := h
    refine ⟨e, ⟨ws, ?_, h2⟩, InnerL.change t fun m => hp (List.mem_cons_of_mem _ m)⟩
    rw [upd_ne (fun z => hp (by rw [← z, e]; exact List.mem_cons_self))]
    exact h1
theorem Slot.change {W : Wd} {H : Hp} {t : Ty} {g : Option D} {s : Option V} {F : List Addr} {p : Addr} {o : HO} (h : Slot W H t g s F) (hp : p ∉ F) : Slot W (upd H p o) t g s F := by
  cases t with
  | u => exact h
  | p => exact h
  | pK => exact h
  | pT => exact h
  | st => exact h
  | cl => exact h
  | o =>
    obtain ⟨b, vs, ds, rfl, h1, h2, h3, r⟩ := h
    exact ⟨b, vs, ds, rfl, h1, h2, by rw [upd_ne (fun z => hp (by rw [z]; exact List.mem_cons_self))]; exact h3, r⟩
  | oo =>
    obtain ⟨b, as, vs, ds, rfl, h1, h2, h3, h4, h5, r, l⟩ := h
    exact ⟨b, as, vs, ds, rfl, h1, h2, by rw [upd_ne (fun z => hp (by rw [z]; exact List.mem_cons_self))]; exact h3, h4, h5, r.change fun m => hp (List.mem_cons_of_mem _ m), l⟩
  | dK =>
    obtain ⟨b, vs, ds, rfl, h1, h2, h3, r⟩ := h
    exact ⟨b, vs, ds, rfl, h1, h2, by rw [upd_ne (fun z => hp (by rw [z]; exact List.mem_cons_self))]; exact h3, r⟩
  | dT =>
    obtain ⟨b, vs, ds, rfl, h1, h2, h3, r⟩ := h
    exact ⟨b, vs, ds, rfl, h1, h2, by rw [upd_ne (fun z => hp (by rw [z]; exact List.mem_cons_self))]; exact h3, r⟩
theorem SL.change {W : Wd} {fp : Nat → List Addr} {Γ : List Ty} {γ : En} {σ : L2.St} {H : Hp} (h : SL W fp Γ γ σ H) {p : Addr} {o : HO} (hp : ∀ i, p ∉ fp i) : SL W fp Γ γ σ (upd H p o) :=
  ⟨fun i => (h.slot i).change (hp i), h.nd, h.dj, h.len, h.lenG⟩
theorem SL.new {W : Wd} {fp : Nat → List Addr} {Γ : List Ty} {γ : En} {σ : L2.St} {H : Hp} (h : SL W fp Γ γ σ H) {p : Addr} (hp : H p = none) : ∀ i, p ∉ fp i := fun i m => by
  obtain ⟨o, e⟩ := (h.slot i).there p m
  rw [hp] at e
  cases e
end Ev
set_option Elab.async false
set_option linter.all false
set_option maxRecDepth 100000
set_option autoImplicit false
/-! Ev9: list comprehensions. -/
namespace Ev
open PySem PySem.Spec PyProof.Rows L2
theorem wipe_same {σ σ' : L2.St} {is vs : List Nat} (h : SameBut is σ σ') (hs : ∀ i ∈ is, i ∈ vs) : L2.wipe σ' vs = L2.wipe σ vs := by
  apply List.ext_getElem?
  intro j
  by_cases hj : j ∈ vs
  · have key : ∀ (σ : L2.St) (vs : List Nat), j ∈ vs → (L2.wipe σ vs)[j]? = if j < σ.length then some none else none := by
      intro σ vs
      induction vs with
      | nil => intro hj; cases hj
      | cons v vs ih =>
        intro hj
        show ((L2.wipe σ vs).set v none)[j]? = _
        by_cases e : j = v
        · subst e
          by_cases hl : j < σ.length
          · rw [List.getElem?_set_self (by rw [L2.wipe_length]; exact hl), if_pos hl]
          · rw [List.getElem?_eq_none (by rw [List.length_set, L2.wipe_length]; omega), if_neg hl]
        · rw [List.getElem?_set_ne (Ne.symm e)]
          exact ih ((List.mem_cons.mp hj).resolve_left e)
    rw [key σ' vs hj, key σ vs hj, h.1]
  · rw [L2.wipe_out hj, L2.wipe_out hj]
    exact h.2 j fun m => hj (hs j m)
theorem wipe_wipe (σ : L2.St) (vs : List Nat) : L2.wipe (L2.wipe σ vs) vs = L2.wipe σ vs := by
  refine wipe_same (is := vs) ⟨L2.wipe_length σ vs, fun j hj => L2.wipe_out hj⟩ fun i h => h
section
variable {cf : CF} {Γ : List Ty} {X : Cx}
/-- a new list of one's own comes -/
def tO (cf : CF) (Γ : List Ty) (ie : IE) : TE := fun σ H Q => ∃ W fp γ τ d τ', WI W τ H ∧ SL W fp Γ γ σ H ∧ evalE cf ie γ τ = some (d, τ') ∧
  ∀ p vs ds W' H', d = .list ds → FrE W H W' H' → WI W' τ' H' → H' p = some (.lst vs) → W'.B p = none → ¬ W'.tp p → H p = none → RpA W'.B vs ds → ds.length ≤ sizeLine → Q (.ref p) H'
theorem tO_of {ie : IE} {σ : L2.St} {H : Hp} {Q : VK} (h : tJ cf Γ ie .p σ H Q) : tO cf Γ ie σ H Q := by
  obtain ⟨W, fp, γ, τ, d, τ', w, sl, ev, q⟩ := h
  refine ⟨W, fp, γ, τ, d, τ', w, sl, ev, fun p vs ds W1 H1 ed f1 w1 h1 b1 n1 hn r l => ?_⟩
  subst ed
  exact q (.ref p) (W1.add p (.lst vs)) H1 (f1.freeze _ hn b1) (w1.freeze h1 b1 n1) (.lst upd_same (r.mono (add_same W1 _ b1)) l)
theorem jo_j {e : Expr} {ie : IE} (h : PE X e (tO cf Γ ie)) : PE X e (tJ cf Γ ie .p) := PEw h fun σ H Q => tO_of
/-- one clause's turn -/
def lcF (cf : CF) (tg : Tg) (cond elt : IE) (γ : En) : D → Tape → Option (Option D × Tape) :=
  fun x t => (bindT tg x γ).bind fun g => (tst (evalE cf cond g t)).bind fun b => if b.1 then (evalE cf elt g b.2).map fun y => (some y.1, y.2) else some (none, b.2)
theorem ev_comp {own : List Nat} {tg : Tg} {k : IK} {args : List IE} {cond elt : IE} {γ : En} {τ τ' : Tape} {d : D} (e : evalE cf (.comp own tg k args cond elt) γ τ = some (d, τ')) :
    ∃ ds τ1 xs out, evalEs cf args γ τ = some (ds, τ1) ∧ items k ds = some xs ∧ lenOk k xs = true ∧ compL (lcF cf tg cond elt γ) xs τ1 = some (out, τ') ∧ d = .list out := by
  simp only [evalE, Option.bind_eq_some_iff, Prod.exists] at e
  obtain ⟨ds, τ1, e1, xs, e2, e3⟩ := e
  split at e3
  · rename_i hl
    obtain ⟨⟨out, τ2⟩, e4, e5⟩ := Option.map_eq_some_iff.mp e3
    cases e5
    exact ⟨ds, τ1, xs, out, e1, e2, hl, e4, rfl⟩
  · cases e3
theorem compL_cons {f : D → Tape → Option (Option D × Tape)} {x : D} {xs : List D} {τ τ' : Tape} {out : List D} (e : compL f (x :: xs) τ = some (out, τ')) :
    ∃ r τ1 out', f x τ = some (r, τ1) ∧ compL f xs τ1 = some (out', τ') ∧ out = r.toList ++ out' := by
  simp only [compL, Option.bind_eq_some_iff, Prod.exists, Option.map_eq_some_iff, Prod.mk.injEq] at e
  obtain ⟨r, τ1, e1, out', τ2, e2, rfl, rfl⟩ := e
  exact ⟨r, τ1, out', e1, e2, rfl⟩
theorem drop_cons' {α : Type} {xs : List α} {i : Nat} {x : α} (h : xs[i]? = some x) : xs.drop i = x :: xs.drop (i + 1) := by
  obtain ⟨h1, rfl⟩ := List.getElem?_eq_some_iff.mp h
  exact (List.drop_eq_getElem_cons h1)
theorem lc_turn {own : List Nat} {tg : Tg} {cond elt : IE} {σ : L2.St} {H1 : Hp} {Q : VK} {W1 : Wd} {fp : Nat → List Addr} {γ : En} {τ1 τ' : Tape} {xs out : List D} {J : It} (hown : ∀ i ∈ tgSlots tg, i ∈ own) (w1 : WI W1 τ1 H1) (sl1 : SL W1 fp Γ γ σ H1)
    (io : ItOk (fun W2 H2 => FrE W1 H1 W2 H2) J xs) (hlen : xs.length ≤ sizeLine) (e3 : compL (lcF cf tg cond elt γ) xs τ1 = some (out, τ'))
    (q : ∀ p vs W' H', FrE W1 H1 W' H' → WI W' τ' H' → H' p = some (.lst vs) → W'.B p = none → ¬ W'.tp p → H1 p = none → RpA W'.B vs out → out.length ≤ sizeLine → Q (.ref p) H') :
    ∀ D0, H1 D0 = none → ∃ Wf : Nat → Nat → Hp → Prop, (∃ m, Wf 0 m (upd H1 D0 (.lst []))) ∧ ∀ i m H, Wf i m H →
      (J.stop i H ∧ Q (.ref D0) H) ∨ (J.go i H ∧ ∃ Nx : Hp → Prop, (∀ H', Nx H' → ∃ m', m' < m ∧ Wf (i + 1) m' H') ∧ ∀ x H', J.yld i H x H' → gT tg x (L2.wipe σ own) H' fun σ2 H2 => L2.wipe σ2 own = L2.wipe σ own ∧ tT cf (setT tg (unk Γ own)) cond σ2 H2 fun b H3 =>
        if b = true then tJ cf (setT tg (unk Γ own)) elt .p σ2 H3 fun y H4 => ∃ acc, H4 D0 = some (.lst acc) ∧ acc.length < sizeLine ∧ Nx (upd H4 D0 (.lst (acc ++ [y]))) else Nx H3) := by
  intro D0 hD
  refine ⟨fun i m H2 => ∃ W2 τ2 accv acc rest, i + m = xs.length ∧ FrE W1 H1 W2 H2 ∧ WI W2 τ2 H2 ∧ W2.B D0 = none ∧ ¬ W2.tp D0 ∧ H2 D0 = some (.lst accv) ∧ RpA W2.B accv acc ∧ acc.length ≤ i ∧ compL (lcF cf tg cond elt γ) (xs.drop i) τ2 = some (rest, τ') ∧ out = acc ++ rest,
    ⟨xs.length, W1, τ1, [], [], out, by omega, ?_, ?_, w1.none_ hD, fun t => ?_, upd_same, .nil, Nat.zero_le _, e3, rfl⟩, fun i m H2 hW => ?_⟩
  · exact (FrE.refl W1 H1).change (.lst []) hD
  · exact w1.change _ (w1.none_ hD) fun t => by
      obtain ⟨xs, z⟩ := w1.tpx t
      rw [hD] at z
      cases z
  · obtain ⟨xs, z⟩ := w1.tpx t
    rw [hD] at z
    cases z
  · obtain ⟨W2, τ2, accv, acc, rest, em, f2, w2, b2, n2, hD2, ra, la, er, eo⟩ := hW
    have ok := io W2 τ2 H2 w2 f2 i
    cases hx : xs[i]? with
    | none =>
      have hge : xs.length ≤ i := List.getElem?_eq_none_iff.mp hx
      refine .inl ⟨ok.2 hge, ?_⟩
      rw [List.drop_eq_nil_of_le hge] at er
      cases er
      rw [List.append_nil] at eo
      subst eo
      have lo : out.length ≤ sizeLine := by
        have : i = xs.length := by omega
        omega
      exact q D0 accv W2 H2 f2 w2 hD2 b2 n2 hD ra lo
    | some x =>
      have hlt : i < xs.length := (List.getElem?_eq_some_iff.mp hx).1
      obtain ⟨go, yl⟩ := ok.1 x hx
      rw [drop_cons' hx] at er
      obtain ⟨r, τ3, out', er1, er2, eo2⟩ := compL_cons er
      subst eo2
      refine .inr ⟨go, fun H' => ∃ W2 τ2 accv acc rest, i + 1 + (m - 1) = xs.length ∧ FrE W1 H1 W2 H' ∧ WI W2 τ2 H' ∧ W2.B D0 = none ∧ ¬ W2.tp D0 ∧ H' D0 = some (.lst accv) ∧ RpA W2.B accv acc ∧ acc.length ≤ i + 1 ∧ compL (lcF cf tg cond elt γ) (xs.drop (i + 1)) τ2 = some (rest, τ') ∧ out = acc ++ rest,
        fun H' hN => ⟨m - 1, by omega, hN⟩, fun xv H3 hy => ?_⟩
      obtain ⟨W3, f3, w3, rx⟩ := yl xv H3 hy
      unfold lcF at er1
      simp only [Option.bind_eq_some_iff, Prod.exists] at er1
      obtain ⟨g, eb, b, τ4, et, er3⟩ := er1
      have slw := ((sl1.mono f2).mono f3).wipe own
      refine ⟨W3, _, _, γ, x, g, slw, w3.sub, rx, eb, fun σ2 fp2 sl2 _ sb2 => ⟨?_, ?_⟩⟩
      · rw [wipe_same sb2 hown, wipe_wipe]
      · refine ⟨W3, fp2, g, τ2, b, τ4, w3, sl2, et, fun W4 H4 f4 w4 => ?_⟩
        have f14 := ((f2.trans f3).trans f4)
        have hD4 : H4 D0 = some (.lst accv) := f4.hp _ _ (f3.hp _ _ hD2 n2) (f3.ntp hD2 n2)
        have n3 := f3.ntp hD2 n2
        have n4 := f4.ntp (f3.hp _ _ hD2 n2) n3
        have b3 := f3.ownB hD2 b2
        have b4 := f4.ownB (f3.hp _ _ hD2 n2) b3
        have ra4 := (ra.mono f3.B).mono f4.B
        cases b with
        | false =>
          rw [if_neg Bool.false_ne_true] at er3
          cases er3
          refine iteF ?_
          exact ⟨W4, _, accv, acc, out', by omega, f14, w4, b4, n4, hD4, ra4, by omega, er2, by simpa using eo⟩
        | true =>
          rw [if_pos rfl] at er3
          refine iteT ?_
          obtain ⟨⟨y, τ5⟩, ey, er4⟩ := Option.map_eq_some_iff.mp er3
          cases er4
          refine ⟨W4, fp2, g, τ4, y, _, w4, sl2.mono f4, ey, fun yv W5 H5 f5 w5 ry => ?_⟩
          have hD5 : H5 D0 = some (.lst accv) := f5.hp _ _ hD4 n4
          have n5 := f5.ntp hD4 n4
          have b5 := f5.ownB hD4 b4
          have ra5 := ra4.mono f5.B
          refine ⟨accv, hD5, by rw [ra.length]; omega, W5, _, accv ++ [yv], acc ++ [y], out', by omega, (f14.trans f5).change _ hD, w5.change _ b5 n5, b5, n5, upd_same, ra5.append (.cons ry .nil), by rw [List.length_append]; simp; omega, er2, ?_⟩
          rw [eo]
          simp
theorem lc_runO {own : List Nat} {tg : Tg} {k : IK} {args : List IE} {cond elt : IE} {σ : L2.St} {H : Hp} {Q : VK} (hown : ∀ i ∈ tgSlots tg, i ∈ own) (h : tO cf Γ (.comp own tg k args cond elt) σ H Q) :
    tLc (tIB cf Γ k args) (gT tg) (tT cf (setT tg (unk Γ own)) cond) (tJ cf (setT tg (unk Γ own)) elt .p) own σ H Q := by
  obtain ⟨W, fp, γ, τ, d, τ', w, sl, ev, q⟩ := h
  obtain ⟨ds, τ1, xs, out, e1, e2, hl, e3, rfl⟩ := ev_comp ev
  refine ⟨W, fp, γ, τ, ds, τ1, xs, w, sl, e1, e2, fun J W1 H1 f1 w1 io hlen => lc_turn hown w1 (sl.mono f1) io (hlen hl) e3 fun p vs W' H' f w h1 b n hn r l => q p vs out W' H' rfl (f1.trans f) w h1 b n (f1.free hn) r l⟩
end
end Ev
set_option Elab.async false
set_option linter.all false
set_option maxRecDepth 100000
set_option autoImplicit false
/-! Ev9b: comprehensions of two clauses. -/
namespace Ev
open PySem PySem.Spec PyProof.Rows L2
section
variable {cf : CF} {Γ : List Ty} {X : Cx}
def lc2F (cf : CF) (tg : Tg) (cond : IE) (tg2 : Tg) (k2 : IK) (args2 : List IE) (cond2 elt : IE) (γ : En) : D → Tape → Option (List D × Tape) :=
  fun x t => (bindT tg x γ).bind fun g => (tst (evalE cf cond g t)).bind fun b => if b.1 then
    (evalEs cf args2 g b.2).bind fun p2 => (items k2 p2.1).bind fun ys => compL (lcF cf tg2 cond2 elt g) ys p2.2
  else some ([], b.2)
theorem ev_comp2 {own : List Nat} {tg tg2 : Tg} {k k2 : IK} {args args2 : List IE} {cond cond2 elt : IE} {γ : En} {τ τ' : Tape} {d : D} (e : evalE cf (.comp2 own tg k args cond tg2 k2 args2 cond2 elt) γ τ = some (d, τ')) :
    ∃ ds τ1 xs out, evalEs cf args γ τ = some (ds, τ1) ∧ items k ds = some xs ∧ compLs (lc2F cf tg cond tg2 k2 args2 cond2 elt γ) xs τ1 = some (out, τ') ∧ out.length ≤ sizeLine ∧ d = .list out := by
  simp only [evalE, Option.bind_eq_some_iff, Prod.exists] at e
  obtain ⟨ds, τ1, e1, xs, e2, out, τ2, e3, e4⟩ := e
  split at e4
  · rename_i hl
    cases e4
    exact ⟨ds, τ1, xs, out, e1, e2, e3, hl, rfl⟩
  · cases e4
theorem compLs_cons {f : D → Tape → Option (List D × Tape)} {x : D} {xs : List D} {τ τ' : Tape} {out : List D} (e : compLs f (x :: xs) τ = some (out, τ')) :
    ∃ r τ1 out', f x τ = some (r, τ1) ∧ compLs f xs τ1 = some (out', τ') ∧ out = r ++ out' := by
  simp only [compLs, Option.bind_eq_some_iff, Prod.exists, Option.map_eq_some_iff, Prod.mk.injEq] at e
  obtain ⟨r, τ1, e1, out', τ2, e2, rfl, rfl⟩ := e
  exact ⟨r, τ1, out', e1, e2, rfl⟩
theorem lc2_runO {own vs1 : List Nat} {tg tg2 : Tg} {k k2 : IK} {args args2 : List IE} {cond cond2 elt : IE} {σ : L2.St} {H : Hp} {Q : VK} (hown : ∀ i ∈ tgSlots tg, i ∈ own) (hown2 : ∀ i ∈ tgSlots tg2, i ∈ vs1)
    (h : tO cf Γ (.comp2 own tg k args cond tg2 k2 args2 cond2 elt) σ H Q) :
    tLc2 (tIB cf Γ k args) (gT tg) (tT cf (setT tg (unk Γ own)) cond) (tI cf (setT tg (unk Γ own)) k2 args2) (gT tg2) (tT cf (setT tg2 (unk (setT tg (unk Γ own)) vs1)) cond2) (tJ cf (setT tg2 (unk (setT tg (unk Γ own)) vs1)) elt .p) own vs1 σ H Q := by
  obtain ⟨W, fp, γ, τ, d, τ', w, sl, ev, q⟩ := h
  obtain ⟨ds, τ1, xs, out, e1, e2, e3, hlen, rfl⟩ := ev_comp2 ev
  refine ⟨W, fp, γ, τ, ds, τ1, xs, w, sl, e1, e2, fun J W1 H1 f1 w1 io _ D0 hD => ?_⟩
  have nt : ∀ {W' : Wd} {H' : Hp} {τ' : Tape}, WI W' τ' H' → H' D0 = none → ¬ W'.tp D0 := fun w t z => by
    obtain ⟨xs, z⟩ := w.tpx z
    rw [t] at z
    cases z
  refine ⟨fun i m H2 => ∃ W2 τ2 accv acc rest, i + m = xs.length ∧ FrE W1 H1 W2 H2 ∧ WI W2 τ2 H2 ∧ W2.B D0 = none ∧ ¬ W2.tp D0 ∧ H2 D0 = some (.lst accv) ∧ RpA W2.B accv acc ∧ compLs (lc2F cf tg cond tg2 k2 args2 cond2 elt γ) (xs.drop i) τ2 = some (rest, τ') ∧ out = acc ++ rest,
    ⟨xs.length, W1, τ1, [], [], out, by omega, (FrE.refl W1 H1).change (.lst []) hD, w1.change _ (w1.none_ hD) (nt w1 hD), w1.none_ hD, nt w1 hD, upd_same, .nil, e3, rfl⟩, fun i m H2 hW => ?_⟩
  obtain ⟨W2, τ2, accv, acc, rest, em, f2, w2, b2, n2, hD2, ra, er, eo⟩ := hW
  have ok := io W2 τ2 H2 w2 f2 i
  cases hx : xs[i]? with
  | none =>
    have hge : xs.length ≤ i := List.getElem?_eq_none_iff.mp hx
    refine .inl ⟨ok.2 hge, ?_⟩
    rw [List.drop_eq_nil_of_le hge] at er
    cases er
    rw [List.append_nil] at eo
    subst eo
    exact q D0 accv out W2 H2 rfl (f1.trans f2) w2 hD2 b2 n2 (f1.free hD) ra hlen
  | some x =>
    have hlt : i < xs.length := (List.getElem?_eq_some_iff.mp hx).1
    obtain ⟨go, yl⟩ := ok.1 x hx
    rw [drop_cons' hx] at er
    obtain ⟨r, τ3, out', er1, er2, eo2⟩ := compLs_cons er
    subst eo2
    refine .inr ⟨go, fun H' => ∃ W2 τ2 accv acc rest, i + 1 + (m - 1) = xs.length ∧ FrE W1 H1 W2 H' ∧ WI W2 τ2 H' ∧ W2.B D0 = none ∧ ¬ W2.tp D0 ∧ H' D0 = some (.lst accv) ∧ RpA W2.B accv acc ∧ compLs (lc2F cf tg cond tg2 k2 args2 cond2 elt γ) (xs.drop (i + 1)) τ2 = some (rest, τ') ∧ out = acc ++ rest,
      fun H' hN => ⟨m - 1, by omega, hN⟩, fun xv H3 hy => ?_⟩
    obtain ⟨W3, f3, w3, rx⟩ := yl xv H3 hy
    unfold lc2F at er1
    simp only [Option.bind_eq_some_iff, Prod.exists] at er1
    obtain ⟨g, eb, b, τ4, et, er3⟩ := er1
    have slw := (((sl.mono f1).mono f2).mono f3).wipe own
    refine ⟨W3, _, _, γ, x, g, slw, w3.sub, rx, eb, fun σ2 fp2 sl2 le2 sb2 => ⟨?_, ?_⟩⟩
    · rw [wipe_same sb2 hown, wipe_wipe]
    refine ⟨W3, fp2, g, τ2, b, τ4, w3, sl2, et, fun W4 H4 f4 w4 => ?_⟩
    have f14 := ((f2.trans f3).trans f4)
    have hD4 : H4 D0 = some (.lst accv) := f4.hp _ _ (f3.hp _ _ hD2 n2) (f3.ntp hD2 n2)
    have n3 := f3.ntp hD2 n2
    have n4 := f4.ntp (f3.hp _ _ hD2 n2) n3
    have b3 := f3.ownB hD2 b2
    have b4 := f4.ownB (f3.hp _ _ hD2 n2) b3
    have ra4 := (ra.mono f3.B).mono f4.B
    have sl4 := sl2.mono f4
    cases b with
    | false =>
      rw [if_neg Bool.false_ne_true] at er3
      cases er3
      refine iteF ?_
      exact ⟨W4, _, accv, acc, out', by omega, f14, w4, b4, n4, hD4, ra4, er2, by simpa using eo⟩
    | true =>
      rw [if_pos rfl] at er3
      refine iteT ?_
      simp only [Option.bind_eq_some_iff, Prod.exists] at er3
      obtain ⟨ds2, τ5, e5, ys, e6, e7⟩ := er3
      refine ⟨W4, fp2, g, τ4, ds2, τ5, ys, w4, sl4, e5, e6, fun J1 W5 H5 f5 w5 io5 _ => ?_⟩
      have hD5 : H5 D0 = some (.lst accv) := f5.hp _ _ hD4 n4
      have n5 := f5.ntp hD4 n4
      have b5 := f5.ownB hD4 b4
      have sl5 := sl4.mono f5
      refine ⟨fun j kk H6 => ∃ W6 τ6 accv acc6 rest6, j + kk = ys.length ∧ FrE W1 H1 W6 H6 ∧ Same W5.B W6.B ∧ SL W6 (offs fp2 vs1) (unk (setT tg (unk Γ own)) vs1) g (L2.wipe σ2 vs1) H6 ∧ WI W6 τ6 H6 ∧ W6.B D0 = none ∧ ¬ W6.tp D0 ∧ H6 D0 = some (.lst accv) ∧ RpA W6.B accv acc6 ∧
          compL (lcF cf tg2 cond2 elt g) (ys.drop j) τ6 = some (rest6, τ3) ∧ out = acc6 ++ (rest6 ++ out'),
        ⟨ys.length, W5, τ5, accv, acc, r, by omega, f14.trans f5, Same.refl _, sl5.wipe vs1, w5, b5, n5, hD5, ra4.mono f5.B, e7, eo⟩, fun j kk H6 hW6 => ?_⟩
      obtain ⟨W6, τ6, accv6, acc6, rest6, em6, f6, sm6, sl6, w6, b6, n6, hD6, ra6, er6, eo6⟩ := hW6
      have ok6 := io5 W6 τ6 H6 w6 sm6 j
      cases hy6 : ys[j]? with
      | none =>
        have hge : ys.length ≤ j := List.getElem?_eq_none_iff.mp hy6
        refine .inl ⟨ok6.2 hge, ?_⟩
        rw [List.drop_eq_nil_of_le hge] at er6
        cases er6
        exact ⟨W6, _, accv6, acc6, out', by omega, f6, w6, b6, n6, hD6, ra6, er2, by simpa using eo6⟩
      | some y =>
        have hlt6 : j < ys.length := (List.getElem?_eq_some_iff.mp hy6).1
        obtain ⟨go6, yl6⟩ := ok6.1 y hy6
        rw [drop_cons' hy6] at er6
        obtain ⟨r6, τ7, out7, er7, er8, eo8⟩ := compL_cons er6
        subst eo8
        refine .inr ⟨go6, fun H' => ∃ W6 τ6 accv acc6 rest6, j + 1 + (kk - 1) = ys.length ∧ FrE W1 H1 W6 H' ∧ Same W5.B W6.B ∧ SL W6 (offs fp2 vs1) (unk (setT tg (unk Γ own)) vs1) g (L2.wipe σ2 vs1) H' ∧ WI W6 τ6 H' ∧ W6.B D0 = none ∧ ¬ W6.tp D0 ∧ H' D0 = some (.lst accv) ∧ RpA W6.B accv acc6 ∧
          compL (lcF cf tg2 cond2 elt g) (ys.drop (j + 1)) τ6 = some (rest6, τ3) ∧ out = acc6 ++ (rest6 ++ out'), fun H' hN => ⟨kk - 1, by omega, hN⟩, fun yv H7 hyv => ?_⟩
        obtain ⟨W7, f7, w7, ry⟩ := yl6 yv H7 hyv
        unfold lcF at er7
        simp only [Option.bind_eq_some_iff, Prod.exists] at er7
        obtain ⟨g2, eb2, b', τ8, et2, er9⟩ := er7
        have sl7 := sl6.mono f7
        refine ⟨W7, _, _, g, y, g2, sl7, w7.sub, ry, eb2, fun σ3 fp3 sl3 _ sb3 => ⟨?_, ?_⟩⟩
        · rw [wipe_same sb3 hown2, wipe_wipe]
        refine ⟨W7, fp3, g2, τ6, b', τ8, w7, sl3, et2, fun W8 H8 f8 w8 => ?_⟩
        have hD7 : H7 D0 = some (.lst accv6) := f7.hp _ _ hD6 n6
        have n7 := f7.ntp hD6 n6
        have b7 := f7.ownB hD6 b6
        have hD8 : H8 D0 = some (.lst accv6) := f8.hp _ _ hD7 n7
        have n8 := f8.ntp hD7 n7
        have b8 := f8.ownB hD7 b7
        have f18 := (f6.trans f7).trans f8
        have sm8 := (sm6.trans f7.B).trans f8.B
        have ra8 := (ra6.mono f7.B).mono f8.B
        have sl8 := sl7.mono f8
        cases b' with
        | false =>
          rw [if_neg Bool.false_ne_true] at er9
          cases er9
          refine iteF ?_
          exact ⟨W8, _, accv6, acc6, out7, by omega, f18, sm8, sl8, w8, b8, n8, hD8, ra8, er8, by simpa using eo6⟩
        | true =>
          rw [if_pos rfl] at er9
          refine iteT ?_
          obtain ⟨⟨z, τ9⟩, ez, er10⟩ := Option.map_eq_some_iff.mp er9
          cases er10
          refine ⟨W8, fp3, g2, τ8, z, _, w8, sl3.mono f8, ez, fun zv W9 H9 f9 w9 rz => ?_⟩
          have hD9 : H9 D0 = some (.lst accv6) := f9.hp _ _ hD8 n8
          have n9 := f9.ntp hD8 n8
          have b9 := f9.ownB hD8 b8
          have ra9 := ra8.mono f9.B
          have hlt9 : accv6.length < sizeLine := by
            rw [ra6.length]
            rw [eo6] at hlen
            simp only [List.length_append, Option.toList_some, List.length_cons, List.length_nil] at hlen
            omega
          have f19 := (f18.trans f9).change (p := D0) (.lst (accv6 ++ [zv])) hD
          refine ⟨accv6, hD9, hlt9, W9, _, accv6 ++ [zv], acc6 ++ [z], out7, by omega, f19, sm8.trans f9.B, ?_, w9.change _ b9 n9, b9, n9, upd_same, ra9.append (.cons rz .nil), er8, ?_⟩
          · exact (sl8.mono f9).change fun i m => (sl.mono f1).new hD i (offs_mem (le2 i _ (offs_mem m)))
          · rw [eo6]
            simp
end
end Ev
set_option Elab.async false
set_option linter.all false
set_option maxRecDepth 100000
set_option autoImplicit false
/-! Ev10: statements. -/
namespace Ev
open PySem PySem.Spec PyProof.Rows L2
/-- a state within a def that began at (W0, H0); Bk: what is known to be frozen -/
def SX (W0 : Wd) (H0 : Hp) (Bk : Hp) (Γ : List Ty) (γ : En) (τ : Tape) (σ : L2.St) (H : Hp) : Prop :=
  ∃ W fp, FrE W0 H0 W H ∧ Same Bk W.B ∧ WI W τ H ∧ SL W fp Γ γ σ H ∧ ∀ i a, a ∈ fp i → H0 a = none
/-- what is handed back -/
def RX (W0 : Wd) (H0 : Hp) (t : Ty) (v : V) (d : D) (τ : Tape) (H : Hp) : Prop := ∃ W, FrE W0 H0 W H ∧ WI W τ H ∧ Jv W t v d
def EndOk (W0 : Wd) (H0 : Hp) (Bk : Hp) (res : Ty) (Γ' ΓL : List Ty) (D : Ends) : Out → Prop
  | .nx γ τ => ∀ σ H, SX W0 H0 Bk Γ' γ τ σ H → D.nx σ H
  | .bk γ τ => ∀ σ H, SX W0 H0 Bk ΓL γ τ σ H → D.bk σ H
  | .ct γ τ => ∀ σ H, SX W0 H0 Bk ΓL γ τ σ H → D.ct σ H
  | .rt d τ => ∀ v H, RX W0 H0 res v d τ H → D.rt v H
section
variable (cf : CF) (res : Ty) (ΓL : List Ty)
def tS (Γ : List Ty) (is : IS) (Γ' : List Ty) : TS := fun D σ H => ∃ W0 H0 Bk γ τ out, SX W0 H0 Bk Γ γ τ σ H ∧ execS cf is γ τ = some out ∧ EndOk W0 H0 Bk res Γ' ΓL D out
def tSs (Γ : List Ty) (is : List IS) (Γ' : List Ty) : TS := fun D σ H => ∃ W0 H0 Bk γ τ out, SX W0 H0 Bk Γ γ τ σ H ∧ execSs cf is γ τ = some out ∧ EndOk W0 H0 Bk res Γ' ΓL D out
end
section
variable {W0 : Wd} {H0 Bk : Hp} {Γ Γ' : List Ty} {γ : En} {τ : Tape} {σ : L2.St} {H : Hp}
theorem SX.known {Bk' : Hp} (h : SX W0 H0 Bk Γ γ τ σ H) (k : Same Bk' Bk) : SX W0 H0 Bk' Γ γ τ σ H := by
  obtain ⟨W, fp, f, b, w, sl, n⟩ := h
  exact ⟨W, fp, f, k.trans b, w, sl, n⟩
/-- slots may be forgotten -/
def weak (Γ Γ' : List Ty) : Bool := decide (Γ.length = Γ'.length) && (Γ.zip Γ').all fun p => decide (p.2 = p.1) || decide (p.2 = .u)
theorem weak_at (h : weak Γ Γ' = true) (i : Nat) : ty Γ' i = ty Γ i ∨ ty Γ' i = .u := by
  unfold weak at h
  rw [Bool.and_eq_true, decide_eq_true_eq, List.all_eq_true] at h
  obtain ⟨hl, h⟩ := h
  by_cases hi : i < Γ.length
  · have hi' : i < Γ'.length := by omega
    have m : (Γ[i], Γ'[i]) ∈ Γ.zip Γ' := by
      have : (Γ.zip Γ')[i]'(by rw [List.length_zip]; omega) = (Γ[i], Γ'[i]) := List.getElem_zip ..
      rw [← this]
      exact List.getElem_mem _
    have q := h _ m
    have e1 : ty Γ i = Γ[i] := by unfold ty; rw [List.getD_eq_getElem?_getD, List.getElem?_eq_getElem hi]; rfl
    have e2 : ty Γ' i = Γ'[i] := by unfold ty; rw [List.getD_eq_getElem?_getD, List.getElem?_eq_getElem hi']; rfl
    rw [e1, e2]
    simpa using q
  · exact .inr (ty_out (by omega))
theorem weak_len (h : weak Γ Γ' = true) : Γ.length = Γ'.length := by
  unfold weak at h
  rw [Bool.and_eq_true, decide_eq_true_eq] at h
  exact h.1
theorem SL.weak {W : Wd} {fp : Nat → List Addr} (h : SL W fp Γ γ σ H) (k : Ev.weak Γ Γ' = true) : ∃ fp', SL W fp' Γ' γ σ H ∧ Less fp fp' := by
  refine ⟨fun i => if ty Γ' i = .u then [] else fp i, ⟨fun i => ?_, fun i => ?_, fun i j hij a ha hb => ?_, h.len, (weak_len k).symm.trans h.lenG⟩, fun i a ha => ?_⟩
  · by_cases e : ty Γ' i = .u
    · rw [if_pos e, e]; rfl
    · rw [if_neg e]
      rcases weak_at k i with q | q
      · rw [q]; exact h.slot i
      · exact absurd q e
  · split
    · exact List.nodup_nil
    · exact h.nd i
  · split at ha
    · cases ha
    · split at hb
      · cases hb
      · exact h.dj i j hij a ha hb
  · have ha : a ∈ (if ty Γ' i = .u then [] else fp i) := ha
    split at ha
    · cases ha
    · exact ha
theorem SX.weak (h : SX W0 H0 Bk Γ γ τ σ H) (k : Ev.weak Γ Γ' = true) : SX W0 H0 Bk Γ' γ τ σ H := by
  obtain ⟨W, fp, f, b, w, sl, n⟩ := h
  obtain ⟨fp', sl', le⟩ := sl.weak k
  exact ⟨W, fp', f, b, w, sl', fun i a m => n i a (le i a m)⟩
theorem SL.kill1 {W : Wd} {fp : Nat → List Addr} (h : SL W fp Γ γ σ H) {i : Nat} (hi : ty Γ i = .u) (x : Option D) : SL W fp Γ (γ.set i x) σ H := by
  refine ⟨fun j => ?_, h.nd, h.dj, by rw [List.length_set]; exact h.len, h.lenG⟩
  rw [rd_set]
  by_cases c : j = i ∧ i < γ.length
  · rw [if_pos c]
    have s := h.slot j
    rw [c.1, hi] at s ⊢
    exact s
  · rw [if_neg c]
    exact h.slot j
theorem SL.kill {W : Wd} {fp : Nat → List Addr} : ∀ {ks : List Nat} {γ : En}, SL W fp Γ γ σ H → (∀ k ∈ ks, ty Γ k = .u) → SL W fp Γ (Ev.kill γ ks) σ H
  | [], _, h, _ => h
  | k :: ks, γ, h, hk => SL.kill (ks := ks) (γ := γ.set k none) (h.kill1 (hk k List.mem_cons_self) none) fun j m => hk j (List.mem_cons_of_mem _ m)
theorem SX.kill {ks : List Nat} (h : SX W0 H0 Bk Γ γ τ σ H) (hk : ∀ k ∈ ks, ty Γ k = .u) : SX W0 H0 Bk Γ (Ev.kill γ ks) τ σ H := by
  obtain ⟨W, fp, f, b, w, sl, n⟩ := h
  exact ⟨W, fp, f, b, w, sl.kill hk, n⟩
end
section
variable {cf : CF} {res : Ty} {ΓL Γ Γ1 Γ2 : List Ty} {X : Cx}
/-! ### blocks -/
theorem jss_nil : PSs X [] (tSs cf res ΓL Γ [] Γ) := PSsw pss_nil fun D σ H ⟨W0, H0, Bk, γ, τ, out, sx, e, ok⟩ => by
  simp only [execSs, Option.some.injEq] at e
  subst e
  exact ok σ H sx
theorem exs_cons {s : IS} {ss : List IS} {γ : En} {τ : Tape} {out : Out} (e : execSs cf (s :: ss) γ τ = some out) :
    ∃ o, execS cf s γ τ = some o ∧ ((∃ g t, o = .nx g t ∧ execSs cf ss g t = some out) ∨ ((∀ g t, o ≠ .nx g t) ∧ out = o)) := by
  simp only [execSs, Option.bind_eq_some_iff] at e
  obtain ⟨o, e1, e2⟩ := e
  refine ⟨o, e1, ?_⟩
  cases o with
  | nx g t => exact .inl ⟨g, t, rfl, e2⟩
  | bk g t => cases e2; exact .inr ⟨(fun _ _ z => nomatch z), rfl⟩
  | ct g t => cases e2; exact .inr ⟨(fun _ _ z => nomatch z), rfl⟩
  | rt d t => cases e2; exact .inr ⟨(fun _ _ z => nomatch z), rfl⟩
theorem jss_cons {st : Stmt} {sts : List Stmt} {is : IS} {iss : List IS} (h : PS X st (tS cf res ΓL Γ is Γ1)) (h' : PSs X sts (tSs cf res ΓL Γ1 iss Γ2)) : PSs X (st :: sts) (tSs cf res ΓL Γ (is :: iss) Γ2) :=
  PSsw (pss_cons h h') fun D σ H ⟨W0, H0, Bk, γ, τ, out, sx, e, ok⟩ => by
    obtain ⟨o, e1, e2⟩ := exs_cons e
    refine ⟨W0, H0, Bk, γ, τ, o, sx, e1, ?_⟩
    rcases e2 with ⟨g, t, rfl, e3⟩ | ⟨hn, rfl⟩
    · exact fun σ1 H1 sx1 => ⟨W0, H0, Bk, g, t, out, sx1, e3, ok⟩
    · cases out with
      | nx g t => exact absurd rfl (hn g t)
      | bk g t => exact ok
      | ct g t => exact ok
      | rt d t => exact ok
/-- forgetting at the end of a block -/
theorem jss_weak {sts : List Stmt} {iss : List IS} (h : PSs X sts (tSs cf res ΓL Γ iss Γ1)) (k : weak Γ1 Γ2 = true) : PSs X sts (tSs cf res ΓL Γ iss Γ2) :=
  PSsw h fun D σ H ⟨W0, H0, Bk, γ, τ, out, sx, e, ok⟩ => ⟨W0, H0, Bk, γ, τ, out, sx, e, by
    cases out with
    | nx g t => exact fun σ1 H1 sx1 => ok σ1 H1 (sx1.weak k)
    | bk g t => exact ok
    | ct g t => exact ok
    | rt d t => exact ok⟩
/-- .. ahead of a block -/
theorem jss_pre {sts : List Stmt} {iss : List IS} (h : PSs X sts (tSs cf res ΓL Γ1 iss Γ2)) (k : weak Γ Γ1 = true) : PSs X sts (tSs cf res ΓL Γ iss Γ2) :=
  PSsw h fun D σ H ⟨W0, H0, Bk, γ, τ, out, sx, e, ok⟩ => ⟨W0, H0, Bk, γ, τ, out, sx.weak k, e, ok⟩
/-! ### freezing -/
def frzT : Ty → Option Ty
  | .o => some .p | .dK => some .pK | .dT => some .pT
  | _ => none
theorem InnerL.addB {W : Wd} {H : Hp} {p : Addr} {o : HO} (hb : W.B p = none) : ∀ {vs : List V} {ds : List D} {as : List Addr}, InnerL W H vs ds as → p ∉ as → InnerL (W.add p o) H vs ds as
  | [], [], [], _, _ => trivial
  | .ref b :: vs, .list ds :: es, c :: as, h, hp => by
    obtain ⟨e, ⟨ws, h1, h2, h3, r, l⟩, t⟩ := h
    refine ⟨e, ⟨ws, h1, ?_, h3, r.mono (add_same W o hb), l⟩, InnerL.addB hb t fun m => hp (List.mem_cons_of_mem _ m)⟩
    show upd W.B p o b = none
    rw [upd_ne (fun z => hp (by rw [← z, e]; exact List.mem_cons_self))]
    exact h2
theorem Slot.addB {W : Wd} {H : Hp} {t : Ty} {g : Option D} {s : Option V} {F : List Addr} {p : Addr} {o : HO} (h : Slot W H t g s F) (hp : p ∉ F) (hb : W.B p = none) : Slot (W.add p o) H t g s F := by
  have hB : ∀ {b}, W.B b = none → b ≠ p → (W.add p o).B b = none := fun {b} e n => by
    show upd W.B p o b = none
    rw [upd_ne n]
    exact e
  cases t with
  | u => exact h
  | p =>
    obtain ⟨e, d, v, h1, h2, r⟩ := h
    exact ⟨e, d, v, h1, h2, Rp.mono (add_same W o hb) r⟩
  | pK =>
    obtain ⟨e, d, v, h1, h2, r⟩ := h
    exact ⟨e, d, v, h1, h2, RpD.mono (add_same W o hb) r⟩
  | pT =>
    obtain ⟨e, d, v, h1, h2, r⟩ := h
    exact ⟨e, d, v, h1, h2, RpD.mono (add_same W o hb) r⟩
  | st => exact h
  | cl => exact h
  | o =>
    obtain ⟨b, vs, ds, rfl, h1, h2, h3, h4, h5, r, l⟩ := h
    exact ⟨b, vs, ds, rfl, h1, h2, h3, hB h4 (fun z => hp (by rw [z]; exact List.mem_cons_self)), h5, r.mono (add_same W _ hb), l⟩
  | oo =>
    obtain ⟨b, as, vs, ds, rfl, h1, h2, h3, h4, h5, r, l⟩ := h
    exact ⟨b, as, vs, ds, rfl, h1, h2, h3, hB h4 (fun z => hp (by rw [z]; exact List.mem_cons_self)), h5, r.addB hb fun m => hp (List.mem_cons_of_mem _ m), l⟩
  | dK =>
    obtain ⟨b, vs, ds, rfl, h1, h2, h3, h4, h5, r⟩ := h
    exact ⟨b, vs, ds, rfl, h1, h2, h3, hB h4 (fun z => hp (by rw [z]; exact List.mem_cons_self)), h5, r.mono (add_same W _ hb)⟩
  | dT =>
    obtain ⟨b, vs, ds, rfl, h1, h2, h3, h4, h5, r⟩ := h
    exact ⟨b, vs, ds, rfl, h1, h2, h3, hB h4 (fun z => hp (by rw [z]; exact List.mem_cons_self)), h5, r.mono (add_same W _ hb)⟩
/-- a slot stands otherwise -/
theorem SL.reslot {W : Wd} {fp : Nat → List Addr} {γ : En} {σ : L2.St} {H : Hp} {i : Nat} {t : Ty} {g : Option D} {s : Option V} {F : List Addr} (h : SL W (off fp i) (Γ.set i .u) γ σ H) (hi : i < Γ.length) (hs : Slot W H t g s F) (nd : F.Nodup) (dj : ∀ j, j ≠ i → ∀ a ∈ F, a ∉ fp j) :
    SL W (fun j => if j = i then F else fp j) (Γ.set i t) (γ.set i g) (σ.set i s) H := by
  have hl : i < γ.length := by have := h.len; have := h.lenG; rw [List.length_set] at this; omega
  have hl2 : i < σ.length := by have := h.len; omega
  refine ⟨fun j => ?_, fun j => ?_, fun j k hjk a ha hb => ?_, by rw [List.length_set, List.length_set]; exact h.len, by have := h.lenG; rw [List.length_set] at this ⊢; rw [List.length_set]; exact this⟩
  · rw [ty_set, rd_set, optD_set]
    by_cases c : j = i
    · rw [if_pos ⟨c, hi⟩, if_pos ⟨c, hl⟩, if_pos ⟨c, hl2⟩, if_pos c]
      exact hs
    · rw [if_neg (fun z => c z.1), if_neg (fun z => c z.1), if_neg (fun z => c z.1), if_neg c]
      have := h.slot j
      rw [ty_set, if_neg (fun z => c z.1)] at this
      have e : off fp i j = fp j := by unfold off; rw [if_neg c]
      rw [e] at this
      exact this
  · by_cases c : j = i
    · rw [if_pos c]; exact nd
    · rw [if_neg c]
      have := h.nd j
      have e : off fp i j = fp j := by unfold off; rw [if_neg c]
      rw [e] at this
      exact this
  · have ha : a ∈ (if j = i then F else fp j) := ha
    have hb : a ∈ (if k = i then F else fp k) := hb
    by_cases c : j = i
    · rw [if_pos c] at ha
      have ck : k ≠ i := fun z => hjk (c.trans z.symm)
      rw [if_neg ck] at hb
      exact dj k ck a ha hb
    · rw [if_neg c] at ha
      by_cases ck : k = i
      · rw [if_pos ck] at hb
        exact dj j c a hb ha
      · rw [if_neg ck] at hb
        have ej : off fp i j = fp j := by unfold off; rw [if_neg c]
        have ek : off fp i k = fp k := by unfold off; rw [if_neg ck]
        exact h.dj j k hjk a (by rw [ej]; exact ha) (by rw [ek]; exact hb)
theorem SL.addB {W : Wd} {fp : Nat → List Addr} {γ : En} {σ : L2.St} {H : Hp} {p : Addr} {o : HO} (h : SL W fp Γ γ σ H) (hp : ∀ i, p ∉ fp i) (hb : W.B p = none) : SL (W.add p o) fp Γ γ σ H :=
  ⟨fun i => (h.slot i).addB (hp i) hb, h.nd, h.dj, h.len, h.lenG⟩
theorem SX.freeze {W0 : Wd} {H0 Bk : Hp} {γ : En} {τ : Tape} {σ : L2.St} {H : Hp} (h : SX W0 H0 Bk Γ γ τ σ H) {i : Nat} {t : Ty} (ht : frzT (ty Γ i) = some t) : SX W0 H0 Bk (Γ.set i t) γ τ σ H := by
  obtain ⟨W, fp, f, b, w, sl, n⟩ := h
  have hi : i < Γ.length := by
    by_cases c : i < Γ.length
    · exact c
    · rw [ty_out c] at ht; cases ht
  have main : ∀ (a : Addr) (o : HO), fp i = [a] → H a = some o → W.B a = none → ¬ W.tp a → Slot (W.add a o) H t (rd γ i) (σ.getD i none) [] → SX W0 H0 Bk (Γ.set i t) γ τ σ H := by
    intro a o ef ha hb hn hs
    have hm : a ∈ fp i := by rw [ef]; exact List.mem_cons_self
    have hnew : H0 a = none := n i a hm
    have slb := sl.forgetB i
    have slc : SL (W.add a o) (off fp i) (Γ.set i .u) γ σ H := slb.addB (fun j m => by
      obtain ⟨m1, m2⟩ := off_mem m
      exact sl.dj j i m2 a m1 hm) hb
    have q := slc.reslot (t := t) hi hs List.nodup_nil (fun j _ c hc => nomatch hc)
    rw [show γ.set i (rd γ i) = γ from set_self γ i, set_self] at q
    refine ⟨W.add a o, _, f.freeze o hnew hb, b.trans (add_same W o hb), w.freeze ha hb hn, q, fun j c hc => ?_⟩
    have hc : c ∈ (if j = i then [] else fp j) := hc
    split at hc
    · cases hc
    · exact n j c hc
  have s := sl.slot i
  generalize hty : ty Γ i = ti at ht s
  cases ti with
  | o =>
    cases ht
    obtain ⟨a, vs, ds, e, h1, h2, h3, h4, h5, r, l⟩ := s
    exact main a _ e h3 h4 h5 ⟨rfl, _, _, h1, h2, .lst upd_same (r.mono (add_same W _ h4)) l⟩
  | dK =>
    cases ht
    obtain ⟨a, ks, ds, e, h1, h2, h3, h4, h5, r⟩ := s
    exact main a _ e h3 h4 h5 ⟨rfl, _, _, h1, h2, a, ds, rfl, rfl, ks, upd_same, r.mono (add_same W _ h4)⟩
  | dT =>
    cases ht
    obtain ⟨a, ks, ds, e, h1, h2, h3, h4, h5, r⟩ := s
    exact main a _ e h3 h4 h5 ⟨rfl, _, _, h1, h2, a, ds, rfl, rfl, ks, upd_same, r.mono (add_same W _ h4)⟩
  | _ => cases ht
theorem jss_frz {sts : List Stmt} {iss : List IS} {i : Nat} {t : Ty} (ht : frzT (ty Γ i) = some t) (h : PSs X sts (tSs cf res ΓL (Γ.set i t) iss Γ2)) : PSs X sts (tSs cf res ΓL Γ (.frz i :: iss) Γ2) :=
  PSsw h fun D σ H ⟨W0, H0, Bk, γ, τ, out, sx, e, ok⟩ => by
    obtain ⟨o, e1, e2⟩ := exs_cons e
    simp only [execS, Option.some.injEq] at e1
    subst e1
    rcases e2 with ⟨g, t, e3, e4⟩ | ⟨hn, _⟩
    · cases e3
      exact ⟨W0, H0, Bk, _, _, out, sx.freeze ht, e4, ok⟩
    · exact absurd rfl (hn _ _)
end
end Ev
set_option Elab.async false
set_option linter.all false
set_option maxRecDepth 100000
set_option autoImplicit false
/-! Ev11: simple statements. -/
namespace Ev
open PySem PySem.Spec PyProof.Rows L2
theorem SL.mut {W : Wd} {fp : Nat → List Addr} {Γ : List Ty} {γ : En} {σ : L2.St} {H : Hp} (h : SL W fp Γ γ σ H) {i : Nat} (hi : i < Γ.length) {a : Addr} (hF : fp i = [a]) {o : HO} {d : D} (hs : Slot W (upd H a o) (ty Γ i) (some d) (σ.getD i none) [a]) : SL W fp Γ (γ.set i (some d)) σ (upd H a o) := by
  have hl : i < γ.length := by have := h.len; have := h.lenG; omega
  refine ⟨fun j => ?_, h.nd, h.dj, by rw [List.length_set]; exact h.len, h.lenG⟩
  rw [rd_set]
  by_cases c : j = i
  · rw [if_pos ⟨c, hl⟩, c, hF]
    exact hs
  · rw [if_neg (fun z => c z.1)]
    exact (h.slot j).change fun m => h.dj j i c a m (by rw [hF]; exact List.mem_cons_self)
theorem each_one {t : Expr} (h : unstar t = true) (env : PySem.Env) : (assignEach [t] env).map (·.2) = [assign t env] := by
  cases t <;> first | rfl | cases h
/-- an index that is no slice -/
def noSlice : Expr → Bool
  | .Slice .. => false
  | _ => true
theorem sub_assign {o i : Expr} (h : noSlice i = true) (pos : Pos) (env : PySem.Env) (v : Value) : assign (.Subscript o i pos) env v = (do
      let ov ← holding [v] (eval o env)
      let iv ← holding [v, ov] (eval i env)
      standAt pos
      holding [v, ov, iv] (setItem ov iv v)
      release [v, ov, iv] []) := by
  cases i <;> first | rfl | cases h
theorem plain_ix {b : Expr} (h : noSlice b = true) : PlainIx b := fun o i => by
  cases b <;> first | rfl | cases h
section
variable {cf : CF} {res : Ty} {ΓL Γ Γ1 Γ2 : List Ty} {X : Cx}
/-- an own list or dict is changed, in a state -/
theorem SX.mut {W0 : Wd} {H0 Bk : Hp} {γ : En} {τ : Tape} {σ : L2.St} {H : Hp} {W : Wd} {fp : Nat → List Addr} {i : Nat} {a : Addr} {o : HO} {d : D} (f : FrE W0 H0 W H) (b : Same Bk W.B) (w : WI W τ H) (sl : SL W fp Γ γ σ H) (n : ∀ i a, a ∈ fp i → H0 a = none)
    (hi : i < Γ.length) (hF : fp i = [a]) (hb : W.B a = none) (hn : ¬ W.tp a) (hs : Slot W (upd H a o) (ty Γ i) (some d) (σ.getD i none) [a]) : SX W0 H0 Bk Γ (γ.set i (some d)) τ σ (upd H a o) :=
  ⟨W, fp, f.change o (n i a (by rw [hF]; exact List.mem_cons_self)), b, w.change o hb hn, sl.mut hi hF hs, n⟩
theorem ty_lt {i : Nat} {t : Ty} (h : ty Γ i = t) (ht : t ≠ .u) : i < Γ.length := by
  by_cases c : i < Γ.length
  · exact c
  · rw [ty_out c] at h
    exact absurd h.symm ht
/-! ### x = e; (a, b) = e -/
theorem w_set {tg : Tg} {ie : IE} {σ : L2.St} {H : Hp} {D : Ends} (h : tS cf res ΓL Γ (.set tg ie) (setT tg Γ) D σ H) : tAsg (tJ cf Γ ie .p) (gT tg) D σ H := by
  obtain ⟨W0, H0, Bk, γ, τ, out, ⟨W, fp, f, b, w, sl, n⟩, e, ok⟩ := h
  simp only [execS, Option.bind_eq_some_iff, Option.map_eq_some_iff, Prod.exists] at e
  obtain ⟨d, τ1, e1, g, e2, rfl⟩ := e
  refine ⟨W, fp, γ, τ, d, τ1, w, sl, e1, fun v W1 H1 f1 w1 r1 => ⟨W1, fp, Γ, γ, d, g, sl.mono f1, w1.sub, r1, e2, fun σ' fp' sl' le _ => ?_⟩⟩
  exact ok σ' H1 ⟨W1, fp', f.trans f1, b.trans f1.B, w1, sl', fun i a m => n i a (le i a m)⟩
theorem js_set {tg : Tg} {target e : Expr} {ie : IE} {pos : Pos} (hu : unstar target = true) (he : PE X e (tJ cf Γ ie .p)) (hg : PG X target (gT tg)) (hs : swapsWithSole [target] e pos.line X.env = pure false) (hw : swappedStores [target] e X.env = pure none) :
    PS X (.Assign [target] e pos) (tS cf res ΓL Γ (.set tg ie) (setT tg Γ)) := PSw (ps_asg he hg hs hw (each_one hu _)) fun D σ H h => w_set h
/-- .. a dict that comes frozen -/
theorem js_setD {i : Nat} {t : Ty} {target e : Expr} {ie : IE} {pos : Pos} (hu : unstar target = true) (ht : t = .p ∨ t = .pK ∨ t = .pT) (he : PE X e (tJ cf Γ ie t)) (hg : PG X target (gName i)) (hs : swapsWithSole [target] e pos.line X.env = pure false) (hw : swappedStores [target] e X.env = pure none) :
    PS X (.Assign [target] e pos) (tS cf res ΓL Γ (.own i t ie) (Γ.set i t)) := PSw (ps_asg he hg hs hw (each_one hu _)) fun D σ H ⟨W0, H0, Bk, γ, τ, out, ⟨W, fp, f, b, w, sl, n⟩, e, ok⟩ => by
  simp only [execS, Option.map_eq_some_iff, Prod.exists] at e
  obtain ⟨d, τ1, e1, rfl⟩ := e
  refine ⟨W, fp, γ, τ, d, τ1, w, sl, e1, fun v W1 H1 f1 w1 r1 => ?_⟩
  exact ok _ H1 ⟨W1, off fp i, f.trans f1, b.trans f1.B, w1, (sl.mono f1).setP i ht r1, fun j a m => n j a (off_mem m).1⟩
/-- x = a new list of one's own -/
theorem w_own {i : Nat} {ie : IE} {σ : L2.St} {H : Hp} {D : Ends} (hi : i < Γ.length) (h : tS cf res ΓL Γ (.own i .o ie) (Γ.set i .o) D σ H) : tAsg (tO cf Γ ie) (gName i) D σ H := by
  obtain ⟨W0, H0, Bk, γ, τ, out, ⟨W, fp, f, b, w, sl, n⟩, e, ok⟩ := h
  simp only [execS, Option.map_eq_some_iff, Prod.exists] at e
  obtain ⟨d, τ1, e1, rfl⟩ := e
  refine ⟨W, fp, γ, τ, d, τ1, w, sl, e1, fun p vs ds W1 H1 ed f1 w1 h1 b1 n1 hn r l => ?_⟩
  subst ed
  have sl1 := sl.mono f1
  have hp0 : H0 p = none := f.free hn
  refine ok _ H1 ⟨W1, _, f.trans f1, b.trans f1.B, w1, (sl1.forgetB i).reslot (t := .o) (F := [p]) hi ⟨p, vs, ds, rfl, rfl, rfl, h1, b1, n1, r, l⟩ (by simp) (fun j hj a ha => ?_), fun j a m => ?_⟩
  · cases List.mem_singleton.mp ha
    exact sl.new hn j
  · have m : a ∈ (if j = i then [p] else fp j) := m
    split at m
    · cases List.mem_singleton.mp m
      exact hp0
    · exact n j a m
theorem js_own {i : Nat} {target e : Expr} {ie : IE} {pos : Pos} (hu : unstar target = true) (hi : i < Γ.length) (he : PE X e (tO cf Γ ie)) (hg : PG X target (gName i)) (hs : swapsWithSole [target] e pos.line X.env = pure false) (hw : swappedStores [target] e X.env = pure none) :
    PS X (.Assign [target] e pos) (tS cf res ΓL Γ (.own i .o ie) (Γ.set i .o)) := PSw (ps_asg he hg hs hw (each_one hu _)) fun D σ H h => w_own hi h
/-- .. of written items -/
theorem jo_lst {es : List Expr} {ies : List IE} {pos : Pos} (h : PA X es (tPs cf Γ ies)) (hl : ies.length ≤ sizeLine) : PE X (.List es pos) (tO cf Γ (.lst ies)) :=
  PEw (pe_lst h) fun σ H Q ⟨W, fp, γ, τ, d, τ', w, sl, ev, q⟩ => by
    simp only [evalE, Option.map_eq_some_iff, Prod.mk.injEq, Prod.exists] at ev
    obtain ⟨ds, _, e1, rfl, rfl⟩ := ev
    refine ⟨W, fp, γ, τ, ds, _, w, sl, e1, fun vs W1 H1 f1 w1 r1 => ?_⟩
    have hz : ds.length ≤ sizeLine := by rw [evs_len e1]; exact hl
    refine ⟨by rw [r1.length]; exact hz, fun p hp => ?_⟩
    have np : ¬ W1.tp p := fun t => by
      obtain ⟨xs, z⟩ := w1.tpx t
      rw [hp] at z
      cases z
    exact q p vs ds W1 _ rfl (f1.change _ (f1.free hp)) (w1.change _ (w1.none_ hp) np) upd_same (w1.none_ hp) np (f1.free hp) r1 hz
/-- {} -/
theorem js_dnew {i : Nat} {t : Bool} {target : Expr} {p1 pos : Pos} (hu : unstar target = true) (hi : i < Γ.length) (hg : PG X target (gName i)) (hs : swapsWithSole [target] (.Dict [] [] p1) pos.line X.env = pure false) (hw : swappedStores [target] (.Dict [] [] p1) X.env = pure none) :
    PS X (.Assign [target] (.Dict [] [] p1) pos) (tS cf res ΓL Γ (.own i (if t then .dT else .dK) (.dnew t)) (Γ.set i (if t then .dT else .dK))) := by
  have key : ∀ {D : Ends} {σ : L2.St} {H : Hp}, tS cf res ΓL Γ (.own i (if t then .dT else .dK) (.dnew t)) (Γ.set i (if t then .dT else .dK)) D σ H → ∀ p, H p = none → D.nx (σ.set i (some (.ref p))) (upd H p (if t then .dT [] else .dK [])) := by
    intro D σ H ⟨W0, H0, Bk, γ, τ, out, ⟨W, fp, f, b, w, sl, n⟩, e, ok⟩ p hp
    simp only [execS, evalE, Option.map_some, Option.some.injEq] at e
    subst e
    have np : ¬ W.tp p := fun t => by
      obtain ⟨xs, z⟩ := w.tpx t
      rw [hp] at z
      cases z
    have hp0 : H0 p = none := f.free hp
    refine ok _ _ ⟨W, _, f.change _ hp0, b, w.change _ (w.none_ hp) np, ((sl.forgetB i).change (p := p) (fun j m => sl.new hp j (off_mem m).1)).reslot (t := if t then .dT else .dK) (F := [p]) hi ?_ (by simp) (fun j hj a ha => ?_), fun j a m => ?_⟩
    · cases t with
      | true => exact ⟨p, [], [], rfl, rfl, rfl, upd_same, w.none_ hp, np, .nil⟩
      | false => exact ⟨p, [], [], rfl, rfl, rfl, upd_same, w.none_ hp, np, .nil⟩
    · cases List.mem_singleton.mp ha
      exact sl.new hp j
    · have m : a ∈ (if j = i then [p] else fp j) := m
      split at m
      · cases List.mem_singleton.mp m
        exact hp0
      · exact n j a m
  cases t with
  | true => exact PSw (ps_asg pe_dnewT hg hs hw (each_one hu _)) fun D σ H h p hp => key h p hp
  | false => exact PSw (ps_asg pe_dnewK hg hs hw (each_one hu _)) fun D σ H h p hp => key h p hp
/-- a, b = x, y of plain local names -/
theorem js_par {i j : Nat} {x y : Str} {a b : Expr} {ia ib : IE} {px py pt : Pos} {kt k2 : Nat} {pt2 pos : Pos} (hc : X.calm = true) (hN : X.N.Nodup) (hi : X.N[i]? = some x) (hj : X.N[j]? = some y) (hij : i ≠ j)
    (hx : X.env.scope.names.lookup x = some .local) (hy : X.env.scope.names.lookup y = some .local) (ha : PA X [a, b] (tPs cf Γ [ia, ib]))
    (hw : swappedStores [.Tuple [.Name x px, .Name y py] kt pt] (.Tuple [a, b] k2 pt2) X.env = pure (some [x, y])) :
    PS X (.Assign [.Tuple [.Name x px, .Name y py] kt pt] (.Tuple [a, b] k2 pt2) pos) (tS cf res ΓL Γ (.par i j ia ib) ((Γ.set i .p).set j .p)) :=
  PSw (ps_par hc hN hi hj hij hx hy ha hw) fun D σ H ⟨W0, H0, Bk, γ, τ, out, ⟨W, fp, f, b, w, sl, n⟩, e, ok⟩ => by
    simp only [execS, Option.bind_eq_some_iff, Option.map_eq_some_iff, Prod.exists] at e
    obtain ⟨d, τ1, e1, d', τ2, e2, rfl⟩ := e
    refine ⟨W, fp, γ, τ, [d, d'], τ2, w, sl, by simp only [evalEs, e1, e2, Option.bind_some, Option.map_some], fun vs W1 H1 f1 w1 r1 => ?_⟩
    cases r1 with
    | cons ra rt =>
      cases rt with
      | cons rb rt =>
        cases rt
        refine ⟨_, _, rfl, ok _ H1 ⟨W1, _, f.trans f1, b.trans f1.B, w1, ((sl.mono f1).setP i (t := .p) (.inl rfl) ra).setP j (t := .p) (.inl rfl) rb, fun k a m => n k a (off_mem (off_mem m).1).1⟩⟩
/-! ### changes of own lists -/
theorem slot_o {W : Wd} {fp : Nat → List Addr} {γ : En} {σ : L2.St} {H : Hp} (sl : SL W fp Γ γ σ H) {i : Nat} (ht : ty Γ i = .o) : ∃ a vs ds, fp i = [a] ∧ rd γ i = some (.list ds) ∧ σ.getD i none = some (.ref a) ∧ H a = some (.lst vs) ∧ W.B a = none ∧ ¬ W.tp a ∧ RpA W.B vs ds ∧ ds.length ≤ sizeLine :=
  slot_at sl i ht
/-- x.append(e) -/
theorem js_app {i : Nat} {x : Expr} {e : Expr} {ie : IE} {apos cpos pos : Pos} (hx : PE X x (tVar i)) (hp : plainBase x = true) (ht : ty Γ i = .o) (he : PE X e (tJ cf Γ ie .p)) (hs : unstar e = true) (hl : (apos.endLine == cpos.line) = true) :
    PS X (.Expr (.Call (.Attribute x "append" apos) [e] [] cpos) pos) (tS cf res ΓL Γ (.app i ie) Γ) :=
  PSw (ps_expr (pe_bm PySem.F.plainAttrs_list PySem.F.slot_list_append PySem.F.type_list_append mt_append hx (jps_cons he jps_nil (star_cons hs [] _)) (base_of hp _ _ _) (few_of hs rfl (by decide)) hl (star_cons hs [] _) rfl)) fun D σ H ⟨W0, H0, Bk, γ, τ, out, ⟨W, fp, f, b, w, sl, n⟩, e, ok⟩ => by
    simp only [execS, Option.bind_eq_some_iff, Prod.exists] at e
    obtain ⟨d, τ1, e1, l, e2, e3⟩ := e
    obtain ⟨a, vs, ds, hF, h1, h2, h3, h4, h5, r, hz⟩ := slot_o sl ht
    rw [h1] at e2
    cases e2
    dsimp only at e3
    split at e3 <;> first | cases e3 | skip
    rename_i hlt
    refine ⟨.ref a, getD_some h2, Or.inl ⟨rfl, _, SqL.of h3⟩, W, fp, γ, τ, [d], τ1, w, sl, by simp only [evalEs, e1, Option.bind_some, Option.map_some], fun us W1 H1 f1 w1 r1 => ?_⟩
    cases r1 with
    | cons ra rt =>
      rename_i v us
      cases rt
      have h31 := f1.hp _ _ h3 h5
      have h41 := f1.ownB h3 h4
      have h51 := f1.ntp h3 h5
      have sl1 := sl.mono f1
      refine ⟨a, vs, v, rfl, rfl, h31, by rw [r.length]; exact hlt, ?_⟩
      refine ok σ _ (SX.mut (f.trans f1) (b.trans f1.B) w1 sl1 n (ty_lt ht (by decide)) hF h41 h51 ?_)
      rw [ht]
      exact ⟨a, _, _, rfl, rfl, h2, upd_same, h41, h51, (r.mono f1.B).append (.cons ra .nil), by rw [List.length_append]; exact hlt⟩
/-- x.extend(e) -/
theorem js_ext {i : Nat} {x : Expr} {e : Expr} {ie : IE} {apos cpos pos : Pos} (hx : PE X x (tVar i)) (hp : plainBase x = true) (ht : ty Γ i = .o) (he : PE X e (tJ cf Γ ie .p)) (hs : unstar e = true) (hl : (apos.endLine == cpos.line) = true) :
    PS X (.Expr (.Call (.Attribute x "extend" apos) [e] [] cpos) pos) (tS cf res ΓL Γ (.ext i ie) Γ) :=
  PSw (ps_expr (pe_bm PySem.F.plainAttrs_list PySem.F.slot_list_extend PySem.F.type_list_extend mt_extend hx (jps_cons he jps_nil (star_cons hs [] _)) (base_of hp _ _ _) (few_of hs rfl (by decide)) hl (star_cons hs [] _) rfl)) fun D σ H ⟨W0, H0, Bk, γ, τ, out, ⟨W, fp, f, b, w, sl, n⟩, e, ok⟩ => by
    simp only [execS, Option.bind_eq_some_iff, Prod.exists] at e
    obtain ⟨d, τ1, e1, l, e2, e3⟩ := e
    obtain ⟨a, vs, ds, hF, h1, h2, h3, h4, h5, r, hz⟩ := slot_o sl ht
    rw [h1] at e2
    cases e2
    cases d with
    | list ys =>
      dsimp only at e3
      split at e3 <;> first | cases e3 | skip
      rename_i hlt
      refine ⟨.ref a, getD_some h2, Or.inl ⟨rfl, _, SqL.of h3⟩, W, fp, γ, τ, [.list ys], τ1, w, sl, by simp only [evalEs, e1, Option.bind_some, Option.map_some], fun us W1 H1 f1 w1 r1 => ?_⟩
      cases r1 with
      | cons ra rt =>
        rename_i v us
        cases rt
        cases ra with
        | @lst c ws _ hc rc lc =>
          have h31 := f1.hp _ _ h3 h5
          have h41 := f1.ownB h3 h4
          have h51 := f1.ntp h3 h5
          have sl1 := sl.mono f1
          refine ⟨a, c, vs, ws, rfl, rfl, h31, w1.sub _ _ hc, by rw [r.length, rc.length]; exact hlt, ?_⟩
          refine ok σ _ (SX.mut (f.trans f1) (b.trans f1.B) w1 sl1 n (ty_lt ht (by decide)) hF h41 h51 ?_)
          rw [ht]
          exact ⟨a, _, _, rfl, rfl, h2, upd_same, h41, h51, (r.mono f1.B).append rc, by rw [List.length_append]; exact hlt⟩
    | _ => simp at e3
theorem updIx_some {l k y l' : D} (e : updIx l k y = some l') : ∃ xs i j, l = .list xs ∧ k = .int i ∧ ixN xs.length i = some j ∧ l' = .list (xs.set j y) := by
  unfold updIx at e
  split at e
  · obtain ⟨j, e1, rfl⟩ := Option.map_eq_some_iff.mp e
    exact ⟨_, _, j, rfl, rfl, e1, rfl⟩
  · cases e
/-- x[k] = e -/
theorem js_setix {i : Nat} {x k e : Expr} {ik ie : IE} {p2 pos : Pos} (hn : noSlice k = true) (hx : PE X x (tVar i)) (ht : ty Γ i = .o) (he : PE X e (tJ cf Γ ie .p)) (hk : PE X k (tB cf Γ ik)) (hs : swapsWithSole [.Subscript x k p2] e pos.line X.env = pure false) (hw : swappedStores [.Subscript x k p2] e X.env = pure none) :
    PS X (.Assign [.Subscript x k p2] e pos) (tS cf res ΓL Γ (.setix i ik ie) Γ) :=
  PSw (ps_asg he (pg_sub hx hk set_list (sub_assign hn _ _)) hs hw) fun D σ H ⟨W0, H0, Bk, γ, τ, out, ⟨W, fp, f, b, w, sl, n⟩, e, ok⟩ => by
    simp only [execS, Option.bind_eq_some_iff, Option.map_eq_some_iff, Prod.exists] at e
    obtain ⟨d, τ1, e1, q, τ2, e2, l, e3, l', e4, rfl⟩ := e
    obtain ⟨a, vs, ds, hF, h1, h2, h3, h4, h5, r, hz⟩ := slot_o sl ht
    rw [h1] at e3
    cases e3
    obtain ⟨xs, z, j, el, rfl, ej, rfl⟩ := updIx_some e4
    cases el
    refine ⟨W, fp, γ, τ, d, τ1, w, sl, e1, fun v W1 H1 f1 w1 r1 => ⟨.ref a, getD_some h2, W1, fp, γ, τ1, _, τ2, w1, sl.mono f1, e2, fun kv W2 H2 f2 w2 o2 => ?_⟩⟩
    cases o2.int
    have f12 := f1.trans f2
    have h31 := f12.hp _ _ h3 h5
    have h41 := f12.ownB h3 h4
    have h51 := f12.ntp h3 h5
    refine ⟨a, vs, z, j, rfl, rfl, h31, by rw [r.length]; exact ej, ?_⟩
    refine ok σ _ (SX.mut (f.trans f12) (b.trans f12.B) w2 (sl.mono f12) n (ty_lt ht (by decide)) hF h41 h51 ?_)
    rw [ht]
    exact ⟨a, _, _, rfl, rfl, h2, upd_same, h41, h51, (r.mono f12.B).set (Rp.mono f2.B r1) j, by rw [List.length_set]; exact hz⟩
/-! ### return, break, continue, an expression, if -/
theorem js_ret {e : Expr} {ie : IE} {pos : Pos} (he : PE X e (tJ cf Γ ie res)) : PS X (.Return (some e) pos) (tS cf res ΓL Γ (.ret ie) Γ1) :=
  PSw (ps_ret he) fun D σ H ⟨W0, H0, Bk, γ, τ, out, ⟨W, fp, f, b, w, sl, n⟩, e, ok⟩ => by
    simp only [execS, Option.map_eq_some_iff, Prod.exists] at e
    obtain ⟨d, τ1, e1, rfl⟩ := e
    exact ⟨W, fp, γ, τ, d, τ1, w, sl, e1, fun v W1 H1 f1 w1 r1 => ok v H1 ⟨W1, f.trans f1, w1, r1⟩⟩
theorem js_retN {pos : Pos} (hr : res = .p) : PS X (.Return none pos) (tS cf res ΓL Γ .retN Γ1) :=
  PSw ps_retN fun D σ H ⟨W0, H0, Bk, γ, τ, out, ⟨W, fp, f, b, w, sl, n⟩, e, ok⟩ => by
    simp only [execS, Option.some.injEq] at e
    subst e
    exact ok .non H ⟨W, f, w, by rw [hr]; exact .non⟩
theorem js_brk {pos : Pos} (hw : weak Γ ΓL = true) : PS X (.Break pos) (tS cf res ΓL Γ .brk Γ1) :=
  PSw ps_break fun D σ H ⟨W0, H0, Bk, γ, τ, out, sx, e, ok⟩ => by
    simp only [execS, Option.some.injEq] at e
    subst e
    exact ok σ H (sx.weak hw)
theorem js_cont {pos : Pos} (hw : weak Γ ΓL = true) : PS X (.Continue pos) (tS cf res ΓL Γ .cont Γ1) :=
  PSw ps_continue fun D σ H ⟨W0, H0, Bk, γ, τ, out, sx, e, ok⟩ => by
    simp only [execS, Option.some.injEq] at e
    subst e
    exact ok σ H (sx.weak hw)
theorem js_ex {e : Expr} {ie : IE} {pos : Pos} (he : PE X e (tJ cf Γ ie .p)) (hs : swapsWith e none pos.line X.env = pure false) : PS X (.Expr e pos) (tS cf res ΓL Γ (.ex ie) Γ) :=
  PSw (ps_expr he hs) fun D σ H ⟨W0, H0, Bk, γ, τ, out, ⟨W, fp, f, b, w, sl, n⟩, e, ok⟩ => by
    simp only [execS, Option.map_eq_some_iff, Prod.exists] at e
    obtain ⟨d, τ1, e1, rfl⟩ := e
    exact ⟨W, fp, γ, τ, d, τ1, w, sl, e1, fun v W1 H1 f1 w1 r1 => ok σ H1 ⟨W1, fp, f.trans f1, b.trans f1.B, w1, sl.mono f1, n⟩⟩
theorem js_ite {c : Expr} {a b : List Stmt} {ic : IE} {ia ib : List IS} {pos : Pos} (hc : PT X c (tT cf Γ ic)) (ha : PSs X a (tSs cf res ΓL Γ ia Γ1)) (hb : PSs X b (tSs cf res ΓL Γ ib Γ1)) : PS X (.If c a b pos) (tS cf res ΓL Γ (.ite ic ia ib) Γ1) :=
  PSw (ps_if hc ha hb) fun D σ H ⟨W0, H0, Bk, γ, τ, out, ⟨W, fp, f, b, w, sl, n⟩, e, ok⟩ => by
    simp only [execS, Option.bind_eq_some_iff, Prod.exists] at e
    obtain ⟨k, τ1, e1, e2⟩ := e
    refine ⟨W, fp, γ, τ, k, τ1, w, sl, e1, fun W1 H1 f1 w1 => ?_⟩
    cases k with
    | true =>
      rw [if_pos rfl] at e2
      exact iteT ⟨W0, H0, Bk, γ, τ1, out, ⟨W1, fp, f.trans f1, b.trans f1.B, w1, sl.mono f1, n⟩, e2, ok⟩
    | false =>
      rw [if_neg Bool.false_ne_true] at e2
      exact iteF ⟨W0, H0, Bk, γ, τ1, out, ⟨W1, fp, f.trans f1, b.trans f1.B, w1, sl.mono f1, n⟩, e2, ok⟩
end
end Ev
set_option Elab.async false
set_option linter.all false
set_option maxRecDepth 100000
set_option autoImplicit false
/-! Ev12: loops. -/
namespace Ev
open PySem PySem.Spec PyProof.Rows L2
section
variable {cf : CF} {res : Ty} {ΓL Γ G Γ1 Γ2 : List Ty} {X : Cx}
theorem ItOk.same {B : Hp} {J : It} {ds : List D} (h : ItOk (fun W _ => Same B W.B) J ds) : ∀ W τ H, WI W τ H → Same B W.B → ∀ i : Nat,
  (∀ d, ds[i]? = some d → J.go i H ∧ ∀ x H', J.yld i H x H' → ∃ W', FrE W H W' H' ∧ WI W' τ H' ∧ Rp W'.B x d) ∧ (ds.length ≤ i → J.stop i H) := h
/-- for tg in ..: body -/
theorem js_for {tg : Tg} {k : IK} {args : List IE} {ib : List IS} {ks : List Nat} {target iter : Expr} {body : List Stmt} {pos : Pos} (hx : X.xe = fun _ _ => False) (hc : X.calm = true) (h0 : weak Γ G = true) (hi : PI X target iter (tI cf Γ k args)) (hg : PG X target (gT tg))
    (hb : PSs X body (tSs cf res G (setT tg G) ib Γ1)) (h1 : weak Γ1 G = true) (hk : ∀ i ∈ ks, ty G i = .u) (hf : ∀ x, foldedSetIterable iter X.env x = pure x) :
    PS X (.For target iter body [] pos) (tS cf res ΓL Γ (.for tg k args ib ks G) G) := by
  have hp : PassesOwn (model X.prog X.w) X.A X.env X.xe := by rw [hx]; exact PassesOwn.never
  refine PSw (ps_for hp hc hi hg hb hf) fun D σ H ⟨W0, H0, Bk, γ, τ, out, ⟨W, fp, f, b, w, sl, n⟩, e, ok⟩ => ?_
  simp only [execS, Option.bind_eq_some_iff, Prod.exists] at e
  obtain ⟨ds, τ1, e1, xs, e2, e3⟩ := e
  refine ⟨W, fp, γ, τ, ds, τ1, xs, w, sl, e1, e2, fun J W1 H1 f1 w1 io _ => ?_⟩
  have start : SX W0 H0 W1.B G γ τ1 σ H1 := SX.weak (Γ := Γ) ⟨W1, fp, f.trans f1, Same.refl _, w1, sl.mono f1, n⟩ h0
  have kb : Same Bk W1.B := b.trans f1.B
  refine ⟨fun i m σ2 H2 => ∃ γ2 τ2, i + m = xs.length ∧ SX W0 H0 W1.B G γ2 τ2 σ2 H2 ∧ forL (fun x g t => (bindT tg x g).bind fun g' => execSs cf ib g' t) ks (xs.drop i) γ2 τ2 = some out, ⟨xs.length, γ, τ1, by omega, start, e3⟩, fun i m σ2 H2 hW => ?_⟩
  obtain ⟨γ2, τ2, em, sx2, er⟩ := hW
  obtain ⟨W2, fp2, f2, b2, w2, sl2, n2⟩ := id sx2
  have okI := io W2 τ2 H2 w2 b2 i
  cases hxi : xs[i]? with
  | none =>
    have hge : xs.length ≤ i := List.getElem?_eq_none_iff.mp hxi
    refine .inl ⟨okI.2 hge, ?_⟩
    rw [List.drop_eq_nil_of_le hge] at er
    simp only [forL, Option.some.injEq] at er
    subst er
    exact ok σ2 H2 (sx2.known kb)
  | some x =>
    have hlt : i < xs.length := (List.getElem?_eq_some_iff.mp hxi).1
    obtain ⟨go, yl⟩ := okI.1 x hxi
    rw [drop_cons' hxi] at er
    simp only [forL, Option.bind_eq_some_iff] at er
    obtain ⟨o, ⟨g', eb, eo⟩, er2⟩ := er
    refine .inr ⟨go, fun σ' H' => ∃ γ2 τ2, i + 1 + (m - 1) = xs.length ∧ SX W0 H0 W1.B G γ2 τ2 σ' H' ∧ forL (fun x g t => (bindT tg x g).bind fun g' => execSs cf ib g' t) ks (xs.drop (i + 1)) γ2 τ2 = some out, fun σ' H' hN => ⟨m - 1, by omega, hN⟩, fun xv H3 hy => ?_⟩
    obtain ⟨W3, f3, w3, rx⟩ := yl xv H3 hy
    refine ⟨W3, fp2, G, γ2, x, g', sl2.mono f3, w3.sub, rx, eb, fun σ4 fp4 sl4 le4 _ => ?_⟩
    refine ⟨W0, H0, W1.B, g', τ2, o, ⟨W3, fp4, f2.trans f3, b2.trans f3.B, w3, sl4, fun j a m => n2 j a (le4 j a m)⟩, eo, ?_⟩
    cases o with
    | nx g t =>
      intro σ5 H5 sx5
      exact ⟨_, _, by omega, (sx5.weak h1).kill hk, er2⟩
    | ct g t =>
      intro σ5 H5 sx5
      exact ⟨_, _, by omega, sx5.kill hk, er2⟩
    | bk g t =>
      intro σ5 H5 sx5
      cases er2
      exact ok σ5 H5 ((sx5.kill hk).known kb)
    | rt d t =>
      cases er2
      exact ok
/-- while c: body -/
theorem js_whl {ic : IE} {ib : List IS} {ks : List Nat} {c : Expr} {body : List Stmt} {pos : Pos} (hx : X.xe = fun _ _ => False) (h0 : weak Γ G = true) (hc : PT X c (tT cf G ic)) (hb : PSs X body (tSs cf res G G ib Γ1)) (h1 : weak Γ1 G = true) (hk : ∀ i ∈ ks, ty G i = .u) :
    PS X (.While c body [] pos) (tS cf res ΓL Γ (.whl ic ib ks G) G) := by
  have hp : PassesOwn (model X.prog X.w) X.A X.env X.xe := by rw [hx]; exact PassesOwn.never
  refine PSw (ps_while hp hc hb) fun D σ H ⟨W0, H0, Bk, γ, τ, out, sx, e, ok⟩ => ?_
  simp only [execS] at e
  refine ⟨fun m σ2 H2 => ∃ γ2 τ2, SX W0 H0 Bk G γ2 τ2 σ2 H2 ∧ whileL (fun g t => tst (evalE cf ic g t)) (fun g t => execSs cf ib g t) ks m γ2 τ2 = some out, ⟨bigL, γ, τ, sx.weak h0, e⟩, fun m σ2 H2 hW => ?_⟩
  obtain ⟨γ2, τ2, ⟨W2, fp2, f2, b2, w2, sl2, n2⟩, er⟩ := hW
  cases m with
  | zero => simp [whileL] at er
  | succ m =>
    simp only [whileL, Option.bind_eq_some_iff, Prod.exists] at er
    obtain ⟨k, τ3, e1, e2⟩ := er
    refine ⟨W2, fp2, γ2, τ2, k, τ3, w2, sl2, e1, fun W3 H3 f3 w3 => ?_⟩
    have sx3 : SX W0 H0 Bk G γ2 τ3 σ2 H3 := ⟨W3, fp2, f2.trans f3, b2.trans f3.B, w3, sl2.mono f3, n2⟩
    cases k with
    | false =>
      rw [if_neg Bool.false_ne_true] at e2
      cases e2
      exact iteF (ok σ2 H3 sx3)
    | true =>
      rw [if_pos rfl] at e2
      obtain ⟨o, e3, e4⟩ := Option.bind_eq_some_iff.mp e2
      refine iteT ⟨fun σ' H' => ∃ γ2 τ2, SX W0 H0 Bk G γ2 τ2 σ' H' ∧ whileL (fun g t => tst (evalE cf ic g t)) (fun g t => execSs cf ib g t) ks m γ2 τ2 = some out, fun σ' H' hN => ⟨m, Nat.lt_succ_self m, hN⟩, W0, H0, Bk, γ2, τ3, o, sx3, e3, ?_⟩
      cases o with
      | nx g t =>
        intro σ5 H5 sx5
        exact ⟨_, _, (sx5.weak h1).kill hk, e4⟩
      | ct g t =>
        intro σ5 H5 sx5
        exact ⟨_, _, sx5.kill hk, e4⟩
      | bk g t =>
        intro σ5 H5 sx5
        cases e4
        exact ok σ5 H5 (sx5.kill hk)
      | rt d t =>
        cases e4
        exact ok
end
end Ev
set_option Elab.async false
set_option linter.all false
set_option maxRecDepth 100000
set_option autoImplicit false
/-! EvTp: the drawing state; a display of texts that is asked at once. -/
namespace Ev
open PySem PySem.Spec PyProof.Rows L2
theorem tape_on {W : Wd} {l : List D} {H : Hp} (w : WI W (some l) H) : ∃ a c, ∃ cells : List Int, W.st = some (a, c) ∧ a ≠ c ∧ W.B a = none ∧ W.B c = none ∧ H c = some (.lst (cells.map V.int)) ∧ cells.length ≤ sizeLine ∧
    H a = some (.lst (l.map (tv c))) ∧ l.length ≤ sizeLine ∧ ∀ d ∈ l, (∃ i, d = .int i) ∨ d = .list (cells.map .int) := by
  cases w.tape with
  | on a c cells h1 h2 h3 h4 h5 h6 h7 h8 h9 => exact ⟨a, c, cells, h1, h2, h3, h4, h5, h6, h7, h8, h9⟩
theorem ixN_nat {m n : Nat} (h : n < m) : ixN m (n : Int) = some n := by
  unfold ixN
  simp
  omega
theorem isIntD_some {d : D} {k : Int} (h : isIntD d = some k) : d = .int k := by
  cases d <;> first | (cases h; rfl) | cases h
theorem isListD_some {d : D} {cs : List D} (h : isListD d = some cs) : d = .list cs := by
  cases d <;> first | (cases h; rfl) | cases h
theorem cells_of {l : List D} {cells : List Int} {cs : List D} (al : ∀ d ∈ l, (∃ i, d = .int i) ∨ d = .list (cells.map .int)) (h : tapeCells (some l) = some cs) : cs = cells.map .int := by
  have h : l.findSome? isListD = some cs := h
  obtain ⟨d, hd, e⟩ := List.exists_of_findSome?_eq_some h
  rcases al d hd with ⟨i, rfl⟩ | rfl
  · cases e
  · cases e; rfl
section
variable {cf : CF} {res : Ty} {ΓL Γ Γ1 : List Ty} {X : Cx}
/-- state[n] -/
theorem je_stx {e : Expr} {i n kk : Nat} {p pos : Pos} (hx : PE X e (tVar i)) (ht : ty Γ i = .st) : PE X (.Subscript e (.Constant (.int (n : Nat)) kk p) pos) (tJ cf Γ (.stx i n) .p) :=
  PEw (pe_ix ix_seq hx pe_int (plain_ix rfl)) fun σ H Q ⟨W, fp, γ, τ, d, τ', w, sl, ev, q⟩ => by
    simp only [evalE, Option.map_eq_some_iff, Prod.mk.injEq] at ev
    obtain ⟨k, e1, rfl, rfl⟩ := ev
    obtain ⟨_, _, a, c, h2, hst⟩ := slot_at sl i ht
    cases τ with
    | none => cases e1
    | some l =>
      obtain ⟨a', c', cells, g1, g2, g3, g4, g5, g6, g7, g8, g9⟩ := tape_on w
      rw [hst] at g1
      cases g1
      obtain ⟨d, e2, e3⟩ := Option.bind_eq_some_iff.mp (show (l[n]?).bind isIntD = some k from e1)
      cases isIntD_some e3
      have hn : n < l.length := (List.getElem?_eq_some_iff.mp e2).1
      refine ⟨.ref a, getD_some h2, .inl ⟨a, _, _, .int k, rfl, rfl, SqL.of g7, ?_, q _ W H (.refl W H) w (.int _)⟩⟩
      unfold atI
      rw [List.length_map, ixN_nat hn]
      show (l.map (tv c))[n]? = _
      rw [List.getElem?_map, e2]
      rfl
/-- len(cells) -/
theorem je_clen {e : Expr} {i : Nat} {p pos : Pos} (hg : Gl X "len") (hm : X.mg "len" = none) (hs : unstar e = true) (hx : PE X e (tVar i)) (ht : ty Γ i = .cl) : PE X (.Call (.Name "len" p) [e] [] pos) (tJ cf Γ (.clen i) .p) :=
  PEw (pe_callB call_len_seq hg hm (b1_boot (f := .len) rfl).1 (pa_cons hx pa_nil (star_cons hs [] _)) (b1_boot (f := .len) rfl).2.1 (b1_boot (f := .len) rfl).2.2 (star_cons hs [] _) rfl) fun σ H Q ⟨W, fp, γ, τ, d, τ', w, sl, ev, q⟩ => by
    simp only [evalE, Option.map_eq_some_iff, Prod.mk.injEq] at ev
    obtain ⟨cs, e1, rfl, rfl⟩ := ev
    obtain ⟨_, _, a, c, h2, hst⟩ := slot_at sl i ht
    cases τ with
    | none => cases e1
    | some l =>
      obtain ⟨a', c', cells, g1, g2, g3, g4, g5, g6, g7, g8, g9⟩ := tape_on w
      rw [hst] at g1
      cases g1
      cases cells_of g9 e1
      refine ⟨.ref c, getD_some h2, c, _, rfl, .inl (SqL.of g5), ?_⟩
      have := q (.int (cells.map V.int).length) W H (.refl W H) w (by rw [List.length_map, List.length_map]; exact .int _)
      exact this
/-- cells[e] -/
theorem je_cix {x e : Expr} {i : Nat} {ie : IE} {pos : Pos} (hn : noSlice e = true) (hx : PE X x (tVar i)) (ht : ty Γ i = .cl) (he : PE X e (tB cf Γ ie)) : PE X (.Subscript x e pos) (tJ cf Γ (.cix i ie) .p) :=
  PEw (pe_ix ix_seq hx he (plain_ix hn)) fun σ H Q ⟨W, fp, γ, τ, d, τ', w, sl, ev, q⟩ => by
    simp only [evalE, Option.bind_eq_some_iff, Option.map_eq_some_iff, Prod.mk.injEq, Prod.exists] at ev
    obtain ⟨z, τ1, e1, cs, e2, d', e3, rfl, rfl⟩ := ev
    obtain ⟨_, _, a, c, h2, hst⟩ := slot_at sl i ht
    refine ⟨.ref c, getD_some h2, W, fp, γ, τ, z, τ1, w, sl, e1, fun v W1 H1 f1 w1 o1 => ?_⟩
    cases τ1 with
    | none => cases e2
    | some l =>
      obtain ⟨a', c', cells, g1, g2, g3, g4, g5, g6, g7, g8, g9⟩ := tape_on w1
      rw [f1.st _ hst] at g1
      cases g1
      cases cells_of g9 e2
      unfold opIx at e3
      split at e3
      · rename_i xs y i' ex
        cases ex
        cases o1.int
        obtain ⟨j, q1, q2⟩ := Option.bind_eq_some_iff.mp (show (ixN (cells.map PyData.int).length i').bind (fun j => (cells.map PyData.int)[j]?) = some d' from e3)
        rw [List.getElem?_map, Option.map_eq_some_iff] at q2
        obtain ⟨k, q2, rfl⟩ := q2
        refine .inl ⟨c, _, i', .int k, rfl, rfl, SqL.of g5, ?_, q _ W1 H1 f1 w1 (.int _)⟩
        unfold atI
        rw [List.length_map] at q1 ⊢
        rw [q1]
        show (cells.map V.int)[j]? = _
        rw [List.getElem?_map, q2]
        rfl
      · rename_i xs y i' ex
        cases ex
      · cases e3
/-- cells = state[n] -/
theorem js_cget {t e : Expr} {i j n kk : Nat} {p p2 pos : Pos} (hu : unstar t = true) (hj : j < Γ.length) (hx : PE X e (tVar i)) (ht : ty Γ i = .st) (hg : PG X t (gName j)) (hs : swapsWithSole [t] (.Subscript e (.Constant (.int (n : Nat)) kk p) p2) pos.line X.env = pure false) (hw : swappedStores [t] (.Subscript e (.Constant (.int (n : Nat)) kk p) p2) X.env = pure none) :
    PS X (.Assign [t] (.Subscript e (.Constant (.int (n : Nat)) kk p) p2) pos) (tS cf res ΓL Γ (.cget j i n) (Γ.set j .cl)) :=
  PSw (ps_asg (pe_ix ix_seq hx pe_int (plain_ix rfl)) hg hs hw (each_one hu _)) fun D σ H ⟨W0, H0, Bk, γ, τ, out, ⟨W, fp, f, b, w, sl, nn⟩, e, ok⟩ => by
    simp only [execS, Option.bind_eq_some_iff, Option.map_eq_some_iff] at e
    obtain ⟨l, rfl, d, e1, cs, e2, rfl⟩ := e
    cases isListD_some e2
    obtain ⟨_, _, a, c, h2, hst⟩ := slot_at sl i ht
    obtain ⟨a', c', cells, g1, g2, g3, g4, g5, g6, g7, g8, g9⟩ := tape_on w
    rw [hst] at g1
    cases g1
    have hn : n < l.length := (List.getElem?_eq_some_iff.mp e1).1
    refine ⟨.ref a, getD_some h2, .inl ⟨a, _, _, .ref c, rfl, rfl, SqL.of g7, ?_, ?_⟩⟩
    · unfold atI
      rw [List.length_map, ixN_nat hn]
      show (l.map (tv c))[n]? = _
      rw [List.getElem?_map, e1]
      rfl
    · refine ok _ H ⟨W, _, f, b, w, (sl.forgetB j).reslot (t := .cl) (F := []) hj ⟨rfl, rfl, a, c, rfl, hst⟩ List.nodup_nil (fun j _ a ha => (List.not_mem_nil ha).elim), fun k a m => ?_⟩
      have m : a ∈ (if k = j then [] else fp k) := m
      split at m
      · cases m
      · exact nn k a m
/-- the drawing state's outer list changes -/
theorem tape_change {W : Wd} {l l' : List D} {H : Hp} {a c : Addr} (w : WI W (some l) H) (hst : W.st = some (a, c)) (hl : l'.length = l.length) (al : ∀ d ∈ l', d ∈ l ∨ ∃ i, d = .int i) : FrE W H W (upd H a (.lst (l'.map (tv c)))) ∧ WI W (some l') (upd H a (.lst (l'.map (tv c)))) := by
  obtain ⟨a', c', cells, g1, g2, g3, g4, g5, g6, g7, g8, g9⟩ := tape_on w
  rw [hst] at g1
  cases g1
  refine ⟨⟨fun _ h => h, fun _ h => .inl h, Same.refl _, fun _ h => .inl h, fun b o hb nb => ?_, fun b hb => ?_⟩, ⟨fun b o hb => ?_, .on a c cells hst g2 g3 g4 ?_ g6 upd_same (by rw [hl]; exact g8) fun d hd => ?_⟩⟩
  · rw [upd_ne (fun z => nb ⟨a, c, hst, .inl z⟩)]; exact hb
  · by_cases z : b = a
    · rw [z, upd_same]; exact fun z => nomatch z
    · rw [upd_ne z]; exact hb
  · rw [upd_ne (fun z => by rw [z, g3] at hb; cases hb)]; exact w.sub b o hb
  · rw [upd_ne (Ne.symm g2)]; exact g5
  · rcases al d hd with h | h
    · exact g9 d h
    · exact .inl h
/-- .. its inner list -/
theorem tape_cells {W : Wd} {l : List D} {H : Hp} {a c : Addr} (w : WI W (some l) H) (hst : W.st = some (a, c)) {cells' : List Int} (hz : cells'.length ≤ sizeLine) : FrE W H W (upd H c (.lst (cells'.map V.int))) ∧ WI W (some (setCells l (cells'.map .int))) (upd H c (.lst (cells'.map V.int))) := by
  obtain ⟨a', c', cells, g1, g2, g3, g4, g5, g6, g7, g8, g9⟩ := tape_on w
  rw [hst] at g1
  cases g1
  refine ⟨⟨fun _ h => h, fun _ h => .inl h, Same.refl _, fun _ h => .inl h, fun b o hb nb => ?_, fun b hb => ?_⟩, ⟨fun b o hb => ?_, .on a c cells' hst g2 g3 g4 upd_same hz ?_ (by unfold setCells; rw [List.length_map]; exact g8) fun d hd => ?_⟩⟩
  · rw [upd_ne (fun z => nb ⟨a, c, hst, .inr z⟩)]; exact hb
  · by_cases z : b = c
    · rw [z, upd_same]; exact fun z => nomatch z
    · rw [upd_ne z]; exact hb
  · rw [upd_ne (fun z => by rw [z, g4] at hb; cases hb)]; exact w.sub b o hb
  · rw [upd_ne g2, g7]
    have : (setCells l (cells'.map .int)).map (tv c) = l.map (tv c) := by
      unfold setCells
      rw [List.map_map]
      apply List.map_congr_left
      intro d hd
      rcases g9 d hd with ⟨i, rfl⟩ | rfl
      · rfl
      · rfl
    rw [this]
  · unfold setCells at hd
    obtain ⟨d', hd', rfl⟩ := List.mem_map.mp hd
    rcases g9 d' hd' with ⟨i, rfl⟩ | rfl
    · exact .inl ⟨i, rfl⟩
    · exact .inr rfl
/-- state[n] = e -/
theorem js_sset {x e : Expr} {i n kk : Nat} {ie : IE} {p p2 pos : Pos} (hx : PE X x (tVar i)) (ht : ty Γ i = .st) (he : PE X e (tJ cf Γ ie .p)) (hs : swapsWithSole [.Subscript x (.Constant (.int (n : Nat)) kk p) p2] e pos.line X.env = pure false) (hw : swappedStores [.Subscript x (.Constant (.int (n : Nat)) kk p) p2] e X.env = pure none) :
    PS X (.Assign [.Subscript x (.Constant (.int (n : Nat)) kk p) p2] e pos) (tS cf res ΓL Γ (.sset i n ie) Γ) :=
  PSw (ps_asg he (pg_sub hx pe_int set_list (sub_assign rfl _ _)) hs hw) fun D σ H ⟨W0, H0, Bk, γ, τ, out, ⟨W, fp, f, b, w, sl, nn⟩, e, ok⟩ => by
    simp only [execS, Option.bind_eq_some_iff, Option.map_eq_some_iff, Prod.exists] at e
    obtain ⟨d, τ1, e1, l, e2, k, e3, v, e4, rfl⟩ := e
    have e2 : τ1 = some l := e2
    subst e2
    cases intOf_some e4
    obtain ⟨_, _, a, c, h2, hst⟩ := slot_at sl i ht
    refine ⟨W, fp, γ, τ, _, _, w, sl, e1, fun u W1 H1 f1 w1 r1 => ⟨.ref a, getD_some h2, ?_⟩⟩
    cases r1
    obtain ⟨a', c', cells, g1, g2, g3, g4, g5, g6, g7, g8, g9⟩ := tape_on w1
    have hst1 := f1.st _ hst
    rw [hst1] at g1
    cases g1
    obtain ⟨d, e5, e6⟩ := Option.bind_eq_some_iff.mp (show (l[n]?).bind isIntD = some k from e3)
    have hn : n < l.length := (List.getElem?_eq_some_iff.mp e5).1
    refine ⟨a, l.map (tv c), _, n, rfl, rfl, g7, by rw [List.length_map]; exact ixN_nat hn, ?_⟩
    have hm : (l.map (tv c)).set n (.int v) = (l.set n (.int v)).map (tv c) := by rw [List.map_set]; rfl
    obtain ⟨f2, w2⟩ := tape_change w1 hst1 (l' := l.set n (.int v)) (by rw [List.length_set]) (fun d hd => by
      rcases List.mem_or_eq_of_mem_set hd with h | h
      · exact .inl h
      · exact .inr ⟨v, h⟩)
    rw [hm]
    have f12 := f1.trans f2
    exact ok σ _ ⟨W1, fp, f.trans f12, b.trans f12.B, w2, sl.mono f12, nn⟩
/-- cells[k] = e -/
theorem js_cset {x k e : Expr} {i : Nat} {ik ie : IE} {p2 pos : Pos} (hn : noSlice k = true) (hx : PE X x (tVar i)) (ht : ty Γ i = .cl) (he : PE X e (tJ cf Γ ie .p)) (hk : PE X k (tB cf Γ ik)) (hs : swapsWithSole [.Subscript x k p2] e pos.line X.env = pure false) (hw : swappedStores [.Subscript x k p2] e X.env = pure none) :
    PS X (.Assign [.Subscript x k p2] e pos) (tS cf res ΓL Γ (.cset i ik ie) Γ) :=
  PSw (ps_asg he (pg_sub hx hk set_list (sub_assign hn _ _)) hs hw) fun D σ H ⟨W0, H0, Bk, γ, τ, out, ⟨W, fp, f, b, w, sl, nn⟩, e, ok⟩ => by
    simp only [execS, Option.bind_eq_some_iff, Option.map_eq_some_iff, Prod.exists] at e
    obtain ⟨d, τ1, e1, q, τ2, e2, l, e3, cs, e4, v, e5, z, e6, j, e7, rfl⟩ := e
    have e3 : τ2 = some l := e3
    subst e3
    cases intOf_some e5
    cases intOf_some e6
    obtain ⟨_, _, a, c, h2, hst⟩ := slot_at sl i ht
    refine ⟨W, fp, γ, τ, _, _, w, sl, e1, fun u W1 H1 f1 w1 r1 => ⟨.ref c, getD_some h2, W1, fp, γ, τ1, _, _, w1, sl.mono f1, e2, fun kv W2 H2 f2 w2 o2 => ?_⟩⟩
    cases r1
    cases o2.int
    obtain ⟨a', c', cells, g1, g2, g3, g4, g5, g6, g7, g8, g9⟩ := tape_on w2
    have hst2 := f2.st _ (f1.st _ hst)
    rw [hst2] at g1
    cases g1
    cases cells_of g9 e4
    refine ⟨c, cells.map V.int, z, j, rfl, rfl, g5, by rw [List.length_map] at e7 ⊢; exact e7, ?_⟩
    obtain ⟨f3, w3⟩ := tape_cells w2 hst2 (cells' := cells.set j v) (by rw [List.length_set]; exact g6)
    have m1 : (cells.map V.int).set j (.int v) = (cells.set j v).map V.int := by rw [List.map_set]
    have m2 : (cells.map PyData.int).set j (.int v) = (cells.set j v).map PyData.int := by rw [List.map_set]
    rw [m1]
    rw [m2] at ok
    have f13 := (f1.trans f2).trans f3
    exact ok σ _ ⟨W2, fp, f.trans f13, b.trans f13.B, w3, sl.mono f13, nn⟩
/-! ### return [0, cells] -/
def tmV (tm : List (Option Int)) (v : V) : List V := tm.map fun o => match o with | some k => .int k | none => v
def tTm (i : Nat) (tm : List (Option Int)) : TA := fun σ H Q => ∃ v, σ[i]? = some (some v) ∧ Q (tmV tm v) H
theorem pa_tmC {es : List Expr} {i kk : Nat} {k : Int} {tm : List (Option Int)} {p : Pos} (h : PA X es (tTm i tm)) : PA X (.Constant (.int k) kk p :: es) (tTm i (some k :: tm)) :=
  PAw (pa_cons pe_int h rfl) fun σ H Q ⟨v, e, q⟩ => ⟨v, e, q⟩
theorem pa_tmV {es : List Expr} {e : Expr} {i : Nat} {tm : List (Option Int)} (hu : unstar e = true) (he : PE X e (tVar i)) (h : PA X es (tTm i tm)) : PA X (e :: es) (tTm i (none :: tm)) :=
  PAw (pa_cons he h (star_cons hu _ _)) fun σ H Q ⟨v, e, q⟩ => ⟨v, e, v, e, q⟩
theorem pa_tm0 {i : Nat} : PA X [] (tTm i []) := PAw pa_nil fun σ H Q ⟨v, e, q⟩ => q
theorem js_retSt {es : List Expr} {i : Nat} {tm : List (Option Int)} {p pos : Pos} (hr : res = .st) (ht : ty Γ i = .o) (hl : tm.length ≤ 1000) (h : PA X es (tTm i tm)) : PS X (.Return (some (.List es p)) pos) (tS cf res ΓL Γ (.retSt i tm) Γ1) :=
  PSw (ps_ret (pe_lst h)) fun D σ H ⟨W0, H0, Bk, γ, τ, out, ⟨W, fp, f, b, w, sl, nn⟩, e, ok⟩ => by
    cases τ with
    | some l => simp [execS] at e
    | none =>
      simp only [execS, Option.bind_eq_some_iff, Option.map_eq_some_iff] at e
      obtain ⟨d, e1, cs, e2, ns, e3, rfl⟩ := e
      cases listOf_some e2
      obtain ⟨c, vs, ds, hF, h1, h2, h3, h4, h5, r, hz⟩ := slot_o sl ht
      rw [e1] at h1
      cases h1
      have ev := r.ints e3
      have ed := ints_list e3
      subst ev ed
      have hst : W.st = none := by
        cases w.tape with
        | off h => exact h
      refine ⟨.ref c, getD_some h2, ?_, fun p hp => ?_⟩
      · unfold tmV; rw [List.length_map, sizeLine_eq]; omega
      have hpc : p ≠ c := fun z => by rw [z, h3] at hp; cases hp
      have ec : (tmL tm (ns.map .int)).map (tv c) = tmV tm (.ref c) := by
        unfold tmL tmV
        rw [List.map_map]
        apply List.map_congr_left
        intro o _
        cases o <;> rfl
      refine ok (.ref p) _ ⟨⟨W.B, some (p, c)⟩, ⟨fun x hx => ?_, fun b hb => ?_, f.B, f.nb, fun b o hb nb => ?_, fun b hb => ?_⟩, ⟨fun b o hb => ?_, .on p c ns rfl hpc (w.none_ hp) h4 ?_ ?_ (by rw [ec]; exact upd_same) ?_ fun d hd => ?_⟩, ?_⟩
      · have := f.st x hx
        rw [hst] at this
        cases this
      · obtain ⟨x, y, e, hb⟩ := hb
        cases e
        rcases hb with rfl | rfl
        · exact .inr (f.free hp)
        · exact .inr (nn i _ (by rw [hF]; exact List.mem_cons_self))
      · have hb1 := f.hp b o hb nb
        rw [upd_ne (fun z => by rw [z, hp] at hb1; cases hb1)]
        exact hb1
      · by_cases z : b = p
        · rw [z, upd_same]; exact fun z => nomatch z
        · rw [upd_ne z]; exact f.Ht b hb
      · have hb1 := w.sub b o hb
        rw [upd_ne (fun z => by rw [z, hp] at hb1; cases hb1)]
        exact hb1
      · rw [upd_ne (Ne.symm hpc)]; exact h3
      · rw [List.length_map] at hz; exact hz
      · unfold tmL; rw [List.length_map, sizeLine_eq]; omega
      · unfold tmL at hd
        obtain ⟨o, _, rfl⟩ := List.mem_map.mp hd
        cases o with
        | some k => exact .inl ⟨k, rfl⟩
        | none => exact .inr rfl
      · subst hr
        exact ⟨rfl, p, c, rfl, rfl⟩
/-! ### {..}[e] -/
def cV : D → V
  | .int i => .int i
  | .bool b => .bl b
  | .str x => .str x
  | _ => .non
def plainC : D → Bool
  | .int _ => true
  | .bool _ => true
  | .none => true
  | .str x => PyData.strOk x
  | _ => false
theorem cV_rp {B : Hp} {d : D} (h : plainC d = true) : Rp B (cV d) d := by
  cases d with
  | int i => exact .int i
  | bool b => exact .bl b
  | none => exact .non
  | str x => exact .str x h
  | _ => cases h
def kvV (kvs : List (Str × D)) : List (Key × V) := kvs.map fun p => (Sum.inr p.1, cV p.2)
theorem valV_merge (x : Str) : ∀ (kvs : List (Str × D)) (A : List (Key × V)) (o : Option D), valV A (.inr x) = o.map cV → valV (mergeK A (kvV kvs)) (.inr x) = (kvs.foldl (fun acc p => if x = p.1 then some p.2 else acc) o).map cV
  | [], A, o, h => h
  | p :: r, A, o, h => by
    show valV (mergeK (putK A (Sum.inr p.1) (cV p.2)) (kvV r)) (.inr x) = _
    rw [List.foldl_cons]
    refine valV_merge x r _ _ ?_
    rw [valV_put, h]
    by_cases c : x = p.1
    · rw [if_pos c, if_pos (by rw [c])]; rfl
    · rw [if_neg c, if_neg (fun z => c (Sum.inr.inj z))]
theorem lastK_mem {kvs : List (Str × D)} {x : Str} {d : D} (h : lastK kvs x = some d) : ∃ p ∈ kvs, p.2 = d := by
  have main : ∀ (kvs : List (Str × D)) (o : Option D), kvs.foldl (fun acc p => if x = p.1 then some p.2 else acc) o = some d → o = some d ∨ ∃ p ∈ kvs, p.2 = d := by
    intro kvs
    induction kvs with
    | nil => exact fun o h => .inl h
    | cons p r ih =>
      intro o h
      rcases ih _ h with h | ⟨q, hq, e⟩
      · have h : (if x = p.1 then some p.2 else o) = some d := h
        split at h
        · cases h; exact .inr ⟨p, List.mem_cons_self, rfl⟩
        · exact .inl h
      · exact .inr ⟨q, List.mem_cons_of_mem _ hq, e⟩
  rcases main kvs none h with h | h
  · cases h
  · exact h
def tcs (kvs : List (Str × D)) : List (TE × TE) := kvs.map fun p => (tC (.str p.1), tC (cV p.2))
theorem pairs_c {σ : L2.St} : ∀ (kvs : List (Str × D)) {H : Hp} {Q : List (V × V) → Hp → Prop}, Q ((kvV kvs).map fun kv => (kV kv.1, kv.2)) H → tPairs (tcs kvs) σ H Q
  | [], H, Q, q => q
  | p :: r, H, Q, q => pairs_c r q
theorem je_dcst {keys : List (Option Expr)} {values : List Expr} {kvs : List (Str × D)} {e : Expr} {ie : IE} {p pos : Pos} (hu : X.A.units + 150 < cLine) (h : PPs X p keys values (tcs kvs)) (hall : keys.all (·.isSome) = true) (hl : keys.length = values.length) (h0 : keys ≠ []) (h15 : keys.length ≤ 15) (hk : kvs.length ≤ 15)
    (hn : noSlice e = true) (hv : kvs.all (fun p => plainC p.2) = true) (he : PE X e (tB cf Γ ie)) : PE X (.Subscript (.Dict keys values p) e pos) (tJ cf Γ (.dcst kvs ie) .p) :=
  PEw (pe_dget (by omega) (pe_disp h hall hl h0 h15) he (fun ov iv => by cases e <;> first | rfl | cases hn)) fun σ H Q ⟨W, fp, γ, τ, d, τ', w, sl, ev, q⟩ => by
    simp only [evalE, Option.bind_eq_some_iff, Option.map_eq_some_iff, Prod.mk.injEq, Prod.exists] at ev
    obtain ⟨z, τ1, e1, x, e2, d', e3, rfl, rfl⟩ := ev
    intro a ha
    refine pairs_c kvs ⟨upd_same, kvV kvs, rfl, by unfold kvV; rw [List.length_map]; exact hk, ?_⟩
    have np : ¬ W.tp a := fun t => by
      obtain ⟨xs, z⟩ := w.tpx t
      rw [ha] at z
      cases z
    have eu : upd (upd H a (.dK [])) a (.dK (mergeK [] (kvV kvs))) = upd H a (.dK (mergeK [] (kvV kvs))) := by
      funext b
      by_cases c : b = a
      · subst c; rw [upd_same, upd_same]
      · rw [upd_ne c, upd_ne c, upd_ne c]
    rw [eu]
    have fa := (FrE.refl W H).change (p := a) (.dK (mergeK [] (kvV kvs))) ha
    refine ⟨W, fp, γ, τ, z, _, w.change _ (w.none_ ha) np, sl.change (fun i m => sl.new ha i m), e1, fun v W1 H1 f1 w1 o1 => ?_⟩
    have hx : z = .str x := by
      cases z <;> first | (cases e2; rfl) | cases e2
    subst hx
    obtain ⟨rfl, _⟩ := o1.str
    have hval := valV_merge x kvs [] none rfl
    have e3' : kvs.foldl (fun acc p => if x = p.1 then some p.2 else acc) none = some d' := e3
    rw [e3'] at hval
    refine ⟨a, cV d', rfl, .inl ⟨_, .inr x, .inl (f1.hp _ _ upd_same np), rfl, hval.symm⟩, q _ W1 H1 (fa.trans f1) w1 (cV_rp ?_)⟩
    obtain ⟨pr, hp, rfl⟩ := lastK_mem e3
    rw [List.all_eq_true] at hv
    exact hv pr hp
end
end Ev
set_option Elab.async false
set_option linter.all false
set_option maxRecDepth 100000
set_option maxHeartbeats 4000000
set_option autoImplicit false
/-! EvSet: set(list of ints), as the sorting rule wants it. -/
namespace Ev
open PySem PySem.Spec PyProof.Rows L2
theorem getD_some' {ns : List Int} {i : Nat} (h : i < ns.length) : ns[i]? = some (ns.getD i 0) := by
  rw [List.getD_eq_getElem?_getD, List.getElem?_eq_getElem h]; rfl
abbrev emptySet (w : World) : Obj := { cls := .type "set", dict := none, data := .set #[] 0 (.fresh 0 0 (!w.params.followText "set-order")) }
section
variable {P : Program} {w : World} {A : Around} {E : Value → Shared → Prop} {s : Shared}
/-- the new set takes the list's ints -/
theorem set_fill {h0 : Heap} {l : Addr} {items : Array Value} {ns : List Int} {R : Result → Shared → Prop} (hd : A.handled = none) (hl : h0.IsList l items) (hi : IntsAre items.toList ns) (hb : ns.length + 1 < scanBound)
    (hR : ∀ (h' : Heap) (tk c : Nat), SetR w h' h0.objs.size (fun j => decide (j ∈ ns)) c → c ≤ ns.length → (∀ b o, h0.get? b = some o → h'.get? b = some o) → R (.ok (.ret .none)) { s with heap := h', toks := tk }) :
    wpAny (model P w) A.in1 (Builtin.«set.__init__» ⟨[.ref h0.objs.size, .ref l], []⟩) (fun fin s' => match fin with | .done f => R (.ok f) s' | .again c => c.quiet = true ∧ codeAny (model P w) A c R s') (fun e s' => R (.error e) s') { s with heap := h0.push (emptySet w) } := by
  have many : items.size = ns.length := by rw [← hi.length, Array.length_toList]
  have here : (h0.push (emptySet w)).get? h0.objs.size = some (emptySet w) := Heap.get?_push_size _ rfl
  have old : ∀ {b : Addr} {o : Obj}, h0.get? b = some o → (h0.push (emptySet w)).get? b = some o := fun e => Heap.get?_push_of_some _ e
  have size1 : (h0.push (emptySet w)).objs.size = h0.objs.size + 1 := Heap.size_push ..
  have il : (h0.push (emptySet w)).IsList l items := hl.push _
  obtain ⟨ol, el, cl, nl, dl⟩ := hl
  have low : l < h0.objs.size := Heap.lt_size el
  obtain ⟨k1, k2, k3, k4⟩ := ol
  simp only at cl dl
  subst cl
  subst dl
  have el1 := old el
  have b1 := F.sub_list_set
  have b2 := F.sub_list_frozenset
  have b3 : (Value.type "list" == Value.type "dict") = false := by decide
  unfold Builtin.«set.__init__» noKeywords Builtin.Frozenset.updateFrom
  generalize hp : pyIter = pI
  wp_walk
  subst hp
  refine wpAny_pyIter_list il (wpAny_bind (wpAny_runValue ?_))
  have off : l ≠ (h0.push (emptySet w)).objs.size := by rw [size1]; exact Nat.ne_of_lt (Nat.lt_succ_of_lt low)
  have apart : h0.objs.size ∉ [(h0.push (emptySet w)).objs.size, l] := by
    rw [size1]
    intro m
    rcases List.mem_cons.mp m with e | m
    · exact absurd e (Nat.ne_of_lt (Nat.lt_succ_self _))
    · exact absurd (List.mem_singleton.mp m) (Nat.ne_of_gt low)
  have item : ∀ (i : Nat) (v : Value), items[i]? = some v → ∃ k t, ns[i]? = some k ∧ v = .int k t := fun i v hv => by
    have lt : i < ns.length := by rw [← many]; exact (Array.getElem?_eq_some_iff.mp hv).1
    obtain ⟨t, rfl⟩ := IntsAre.int_at hi i v (by rw [Array.getElem?_toList]; exact hv)
    exact ⟨_, t, getD_some' lt, rfl⟩
  refine set_update_ints ((Walks.list (A := A.in1.in1) (show A.handled = none from hd) (h0.push (emptySet w)).objs.size l off items).toS) h0.objs.size apart ns many hb item items.size 0 _ (by omega) (Nat.zero_le _) ⟨⟨_, Heap.get?_push_size _ rfl, rfl, rfl⟩, il.push _⟩ ⟨0, Nat.le_refl 0, setR_new_at (Heap.get?_push_of_some _ here)⟩ ?_
  intro s' c mv lec sr
  obtain ⟨h', g2, d2, t2, o2⟩ := s'
  obtain rfl : g2 = s.gens := mv.gens
  obtain rfl : d2 = s.drawn := mv.drawn
  obtain rfl : o2 = s.os := mv.os
  refine wpAny_pure (wpAny_pure (hR h' t2 c sr (by omega) fun b o e => ?_))
  have lb := Heap.lt_size e
  refine mv.heap b o (fun m => ?_) (Heap.get?_push_of_some _ (old e))
  rcases List.mem_cons.mp m with e | m
  · exact absurd e (Nat.ne_of_lt lb)
  · have := List.mem_singleton.mp m
    rw [size1] at this
    exact absurd this (Nat.ne_of_lt (Nat.lt_succ_of_lt lb))
/-- set(xs), xs a list of ints -/
theorem call_set_listI {l : Addr} {items : Array Value} {ns : List Int} {Q : Value → Shared → Prop} (hd : A.handled = none) (hl : s.heap.IsList l items) (hi : IntsAre items.toList ns) (hb : ns.length + 1 < scanBound)
    (h : ∀ (h' : Heap) (tk c : Nat), SetR w h' s.heap.objs.size (fun j => decide (j ∈ ns)) c → c ≤ ns.length → (∀ b o, s.heap.get? b = some o → h'.get? b = some o) → Q (.ref s.heap.objs.size) { s with heap := h', toks := tk }) :
    wpAny (model P w) A (call (.type "set") [.ref l]) Q E s := by
  obtain ⟨c0, tl, mro⟩ := F.called_set.mro
  have g1 := F.called_set.made
  have g2 := F.called_set.sub
  have g3 := F.called_set.notType
  have g4 := F.called_set.canCreate
  have g5 := F.typeCall_set_1 (.ref l)
  refine wpAny_call (codeAny_of_tree (wpAny_pure ⟨Code.quiet_builtin _ (by decide +kernel), codeAny_builtin F.entry_type_call ?_⟩))
  rw [Around.under_plain (weight_type_call_type "set" [.ref l] []) rfl]
  repeat (any_goals (first | assumption | wp_step))
  refine codeAny_mono (code_set_led1 (.ref l) (E := E) (Q₁ := fun v z => v = .ref s.heap.objs.size ∧ z = { s with heap := s.heap.push (emptySet w) }) ⟨rfl, rfl⟩) fun r z hr => ?_
  match r, hr with
  | .error e, hr => exact hr
  | .ok (.ret v), hr =>
    obtain ⟨rfl, rfl⟩ := hr
    have here : (s.heap.push (emptySet w)).get? s.heap.objs.size = some (emptySet w) := Heap.get?_push_size _ rfl
    have ty : Shared.TypeIs { s with heap := s.heap.push (emptySet w) } (.ref s.heap.objs.size) "set" := ⟨_, here, rfl⟩
    have i1 := F.called_set.init.lookup
    have i2 := F.called_set.init.bind (.ref s.heap.objs.size)
    repeat (any_goals (first | assumption | wp_step))
    refine codeAny_mono (codeAny_call_builtin (R := wants (fun v z => v = .none ∧ ∃ h' tk c, z = { s with heap := h', toks := tk } ∧ SetR w h' s.heap.objs.size (fun j => decide (j ∈ ns)) c ∧ c ≤ ns.length ∧ (∀ b o, s.heap.get? b = some o → h'.get? b = some o)) E) F.called_set.init.plain F.entry_set_init
      (check_set_init_1 ty ?_)) fun r z hr => ?_
    · exact set_fill (A := A.in1) (s := s) (R := wants (fun v z => v = .none ∧ ∃ h' tk c, z = { s with heap := h', toks := tk } ∧ SetR w h' s.heap.objs.size (fun j => decide (j ∈ ns)) c ∧ c ≤ ns.length ∧ (∀ b o, s.heap.get? b = some o → h'.get? b = some o)) E) (show A.handled = none from hd) hl hi hb fun h' tk c q1 q2 q3 => ⟨rfl, h', tk, c, rfl, q1, q2, q3⟩
    match r, hr with
    | .error e, hr => exact hr
    | .ok (.ret v), hr =>
      obtain ⟨rfl, h', tk, c, rfl, q1, q2, q3⟩ := hr
      repeat (any_goals (first | assumption | wp_step))
      exact h _ _ _ q1 q2 q3
end
theorem insU_mem {x z : Int} : ∀ {l : List Int}, z ∈ insU x l ↔ z = x ∨ z ∈ l
  | [] => by simp [insU]
  | y :: r => by
    unfold insU
    split
    · simp
    · split
      · rename_i h; subst h; simp
      · rw [List.mem_cons, insU_mem, List.mem_cons]
        constructor
        · rintro (h | h | h)
          · exact .inr (.inl h)
          · exact .inl h
          · exact .inr (.inr h)
        · rintro (h | h | h)
          · exact .inr (.inl h)
          · exact .inl h
          · exact .inr (.inr h)
theorem insU_up {x : Int} : ∀ {l : List Int}, l.Pairwise (· < ·) → (insU x l).Pairwise (· < ·)
  | [], _ => List.pairwise_singleton _ _
  | y :: r, h => by
    obtain ⟨h1, h2⟩ := List.pairwise_cons.mp h
    unfold insU
    split
    · rename_i hx
      refine List.pairwise_cons.mpr ⟨fun z hz => ?_, h⟩
      rcases List.mem_cons.mp hz with rfl | hz
      · exact hx
      · exact Int.lt_trans hx (h1 z hz)
    · split
      · exact h
      · rename_i q1 q2
        refine List.pairwise_cons.mpr ⟨fun z hz => ?_, insU_up h2⟩
        rcases insU_mem.mp hz with rfl | hz
        · omega
        · exact h1 z hz
theorem usort_mem {z : Int} : ∀ {l : List Int}, z ∈ usort l ↔ z ∈ l
  | [] => by simp [usort]
  | x :: r => by rw [usort, insU_mem, usort_mem, List.mem_cons]
theorem usort_up : ∀ l : List Int, (usort l).Pairwise (· < ·)
  | [] => .nil
  | x :: r => insU_up (usort_up r)
theorem up_eq : ∀ {l m : List Int}, l.Pairwise (· < ·) → m.Pairwise (· < ·) → (∀ z, z ∈ l ↔ z ∈ m) → l = m
  | [], [], _, _, _ => rfl
  | [], y :: m, _, _, h => absurd ((h y).mpr List.mem_cons_self) List.not_mem_nil
  | x :: l, [], _, _, h => absurd ((h x).mp List.mem_cons_self) List.not_mem_nil
  | x :: l, y :: m, h1, h2, h => by
    obtain ⟨a1, a2⟩ := List.pairwise_cons.mp h1
    obtain ⟨b1, b2⟩ := List.pairwise_cons.mp h2
    have e : x = y := by
      rcases List.mem_cons.mp ((h x).mp List.mem_cons_self) with e | hx
      · exact e
      · rcases List.mem_cons.mp ((h y).mpr List.mem_cons_self) with e | hy
        · exact e.symm
        · have := b1 x hx
          have := a1 y hy
          omega
    subst e
    rw [up_eq a2 b2 fun z => ?_]
    have q := h z
    rw [List.mem_cons, List.mem_cons] at q
    constructor
    · intro hz
      rcases q.mp (.inr hz) with e | e
      · subst e; exact absurd (a1 z hz) (Int.lt_irrefl z)
      · exact e
    · intro hz
      rcases q.mpr (.inr hz) with e | e
      · subst e; exact absurd (b1 z hz) (Int.lt_irrefl z)
      · exact e
/-- two lists without doubles and with the same members are as long -/
theorem nodup_len {l m : List Int} (h1 : l.Nodup) (h2 : m.Nodup) (h : ∀ z, z ∈ l ↔ z ∈ m) : l.length = m.length := by
  have key : ∀ (l m : List Int), l.Nodup → (∀ z ∈ l, z ∈ m) → l.length ≤ m.length := by
    intro l
    induction l with
    | nil => intro m _ _; simp
    | cons x l ih =>
      intro m hn hs
      obtain ⟨a1, a2⟩ := List.nodup_cons.mp hn
      have hx := hs x List.mem_cons_self
      have := ih (m.erase x) a2 fun z hz => by
        have ne : z ≠ x := fun e => a1 (e ▸ hz)
        exact (List.mem_erase_of_ne ne).mpr (hs z (List.mem_cons_of_mem _ hz))
      rw [List.length_erase_of_mem hx] at this
      have pos := List.length_pos_of_mem hx
      rw [List.length_cons]
      omega
  exact Nat.le_antisymm (key l m h1 fun z hz => (h z).mp hz) (key m l h2 fun z hz => (h z).mpr hz)
theorem RpA.of_ints' {B : Hp} : ∀ ns : List Int, RpA B (ns.map V.int) (ns.map PyData.int)
  | [] => .nil
  | n :: r => .cons (.int n) (RpA.of_ints' r)
section
variable {X : Cx}
/-- set(xs) -/
def rSetL (K : PySem.W.Frag) (w : World) : List V → Hp → VK → Prop := fun xs H Q => ∃ (l : Addr) (ns : List Int), xs = [.ref l] ∧ SqL K H l (ns.map V.int) ∧ ns.length ≤ 4000 ∧
  ∀ (p : Addr) (c : Nat), H p = none → c ≤ ns.length → Q (.ref p) (upd H p (SetO w p (fun j => decide (j ∈ ns)) c))
theorem cr_setL (hc : X.calm = true) : CallR X (.type "set") (rSetL X.K X.w) := fun pins s σ H xs us Q I r h => by
  obtain ⟨l, ns, rfl, hs, hl, q⟩ := h
  rw [Vals.ref1 r]
  obtain ⟨its, r2, pl, _⟩ := I.list hs
  have free : H s.heap.objs.size = none := I.hok.fresh (Nat.le_refl _)
  refine call_set_listI (I.ok.hd hc) pl.isList (ns := ns) (by simpa using RZ.intsAre_vals r2) (by unfold scanBound; omega) fun h' tk c q1 q2 q3 => ?_
  exact ⟨.ref s.heap.objs.size, _, I.laid (t' := tk) q3 (Nat.le_refl _) (setO_new q1), rfl, q _ c free q2⟩
/-- len(set) -/
def rLenS (w : World) : List V → Hp → VK → Prop := fun vs H Q => ∃ (a : Addr) (S : Int → Bool) (n : Nat), vs = [.ref a] ∧ H a = some (SetO w a S n) ∧ n ≤ 4000 ∧ ∀ ks : List Int, ks.Nodup → (∀ k, k ∈ ks ↔ S k = true) → ks.length = n → Q (.int (n : Nat)) H
theorem cr_lenS : CallR X (.builtin "len") (rLenS X.w) := fun pins s σ H xs us Q I r h => by
  obtain ⟨a, S, n, rfl, ha, hn, q⟩ := h
  rw [Vals.ref1 r]
  obtain ⟨o, es, ep, t, ho, hex, hd, _, nd, mem, _, hf, sz, _⟩ := setO_get I ha
  refine call_len_set ho hex hd hf (by omega) ⟨.int n, H, I.tok _, ⟨_, by rw [sz]⟩, q (es.toList.map keyOf) nd (fun k => (mem k).symm) ?_⟩
  rw [List.length_map, Array.length_toList, sz]
end
section
variable {cf : CF} {Γ : List Ty} {X : Cx}
theorem ints_at {W : Wd} {H : Hp} {τ : Tape} {v : V} {d : D} {xs : List D} {ns : List Int} (K : PySem.W.Frag) (w : WI W τ H) (o : Opd W H v d) (e1 : listOf d = some xs) (e2 : intsOf xs = some ns) : ∃ l, v = .ref l ∧ SqL K H l (ns.map V.int) := by
  unfold listOf at e1
  split at e1 <;> first | cases e1 | skip
  rcases o with o | ⟨ds, hd, p, vs, rfl, hp, nb, ra, l⟩
  · cases o with
    | lst eB r l => exact ⟨_, rfl, by rw [← r.ints e2]; exact SqL.of (w.sub _ _ eB)⟩
  · cases hd
    exact ⟨p, rfl, by rw [← ra.ints e2]; exact SqL.of hp⟩
theorem set_boot : bootBuiltins "set" = some (.type "set") ∧ ("set" : Str) ≠ "__name__" ∧ (("set" : Str) == ("__debug__" : Str)) = false := by decide +kernel
theorem sorted_boot : bootBuiltins "sorted" = some (.builtin "sorted") ∧ ("sorted" : Str) ≠ "__name__" ∧ (("sorted" : Str) == ("__debug__" : Str)) = false := by decide +kernel
theorem len_boot : bootBuiltins "len" = some (.builtin "len") ∧ ("len" : Str) ≠ "__name__" ∧ (("len" : Str) == ("__debug__" : Str)) = false := by decide +kernel
/-- sorted(set(xs)) -/
theorem je_sset (hc : X.calm = true) {e : Expr} {ie : IE} {p p2 q2 pos : Pos} (hg : Gl X "sorted") (hm : X.mg "sorted" = none) (hg2 : Gl X "set") (hm2 : X.mg "set" = none) (hs : unstar e = true) (he : PE X e (tB cf Γ ie)) :
    PE X (.Call (.Name "sorted" p) [.Call (.Name "set" p2) [e] [] q2] [] pos) (tJ cf Γ (.b1 .sset ie) .p) := by
  have h1 := pe_callTy (p := p2) (pos := q2) (cr_setL hc) hg2 hm2 set_boot.1 (jbs_cons he jbs_nil (star_cons hs [] _)) set_boot.2.1 set_boot.2.2 (star_cons hs [] _) rfl
  refine PEw (pe_callB (p := p) (pos := pos) (cr_sortedSet hc) hg hm sorted_boot.1 (pa_cons h1 pa_nil rfl) sorted_boot.2.1 sorted_boot.2.2 rfl rfl) fun σ H Q ⟨W, fp, γ, τ, d, τ', w, sl, ev, q⟩ => ?_
  obtain ⟨x, e1, e2⟩ := ev_b1 ev
  obtain ⟨ns, e3, e4⟩ := Option.bind_eq_some_iff.mp (show bSset x = some d from e2)
  obtain ⟨xs, e5, e6⟩ := Option.bind_eq_some_iff.mp e3
  split at e4 <;> first | cases e4 | skip
  rename_i hl
  refine ⟨W, fp, γ, τ, [x], τ', w, sl, by simp only [evalEs, e1, Option.bind_some, Option.map_some], fun vs W1 H1 f1 w1 o1 => ?_⟩
  match vs, o1 with
  | [v], o1 =>
    obtain ⟨l, rfl, sq⟩ := ints_at X.K w1 o1.1 e5 e6
    refine ⟨l, ns, rfl, sq, by omega, fun a c ha hcl => ⟨a, _, c, rfl, upd_same, by omega, fun us b up mem len hb => ?_⟩⟩
    have eu : us = usort ns := up_eq up (usort_up ns) fun z => by rw [mem, usort_mem]; simp
    subst eu
    have hb1 : H1 b = none := by
      by_cases k : b = a
      · rw [k]; exact ha
      · rw [upd_ne k] at hb; exact hb
    have f2 := (FrE.refl W1 H1).change (SetO X.w a (fun j => decide (j ∈ ns)) c) ha
    have nt : ¬ W1.tp a := fun t => by
      obtain ⟨z, e⟩ := w1.tpx t
      rw [ha] at e; cases e
    have w2 := w1.change (SetO X.w a (fun j => decide (j ∈ ns)) c) (w1.none_ ha) nt
    obtain ⟨f3, w3⟩ := new_obj w2 (.lst ((usort ns).map V.int)) hb
    refine q _ _ _ (f1.trans (f2.trans f3)) w3 (.lst upd_same (RpA.of_ints' _) ?_)
    rw [List.length_map, len]
    exact Nat.le_trans hcl (Nat.le_trans (Nat.le_of_lt hl) (by decide))
/-- len(set(xs)) -/
theorem je_lset (hc : X.calm = true) {e : Expr} {ie : IE} {p p2 q2 pos : Pos} (hg : Gl X "len") (hm : X.mg "len" = none) (hg2 : Gl X "set") (hm2 : X.mg "set" = none) (hs : unstar e = true) (he : PE X e (tB cf Γ ie)) :
    PE X (.Call (.Name "len" p) [.Call (.Name "set" p2) [e] [] q2] [] pos) (tJ cf Γ (.b1 .lset ie) .p) := by
  have h1 := pe_callTy (p := p2) (pos := q2) (cr_setL hc) hg2 hm2 set_boot.1 (jbs_cons he jbs_nil (star_cons hs [] _)) set_boot.2.1 set_boot.2.2 (star_cons hs [] _) rfl
  refine PEw (pe_callB (p := p) (pos := pos) cr_lenS hg hm len_boot.1 (pa_cons h1 pa_nil rfl) len_boot.2.1 len_boot.2.2 rfl rfl) fun σ H Q ⟨W, fp, γ, τ, d, τ', w, sl, ev, q⟩ => ?_
  obtain ⟨x, e1, e2⟩ := ev_b1 ev
  obtain ⟨ns, e3, e4⟩ := Option.bind_eq_some_iff.mp (show bLset x = some d from e2)
  obtain ⟨xs, e5, e6⟩ := Option.bind_eq_some_iff.mp e3
  split at e4 <;> first | cases e4 | skip
  rename_i hl
  refine ⟨W, fp, γ, τ, [x], τ', w, sl, by simp only [evalEs, e1, Option.bind_some, Option.map_some], fun vs W1 H1 f1 w1 o1 => ?_⟩
  match vs, o1 with
  | [v], o1 =>
    obtain ⟨l, rfl, sq⟩ := ints_at X.K w1 o1.1 e5 e6
    refine ⟨l, ns, rfl, sq, hl, fun a c ha hcl => ⟨a, _, c, rfl, upd_same, by omega, fun ks nd mem len => ?_⟩⟩
    have ec : c = (usort ns).length := by
      rw [← len]
      exact nodup_len nd ((usort_up ns).imp fun h => by omega) fun z => by rw [mem, usort_mem]; simp
    have f2 := (FrE.refl W1 H1).change (SetO X.w a (fun j => decide (j ∈ ns)) c) ha
    have nt : ¬ W1.tp a := fun t => by
      obtain ⟨z, e⟩ := w1.tpx t
      rw [ha] at e; cases e
    have w2 := w1.change (SetO X.w a (fun j => decide (j ∈ ns)) c) (w1.none_ ha) nt
    refine q _ W1 _ (f1.trans f2) w2 ?_
    rw [ec]
    exact .int _
end
end Ev
set_option Elab.async false
set_option linter.all false
set_option maxRecDepth 100000
set_option autoImplicit false
/-! EvD: dicts; isinstance. -/
namespace Ev
open PySem PySem.Spec PyProof.Rows L2
/-! ### keys -/
theorem eqv_key (a b : Key) : PyData.eqv (keyD a) (keyD b) = decide (a = b) := by
  cases a <;> cases b <;> simp [keyD, PyData.eqv, Bool.beq_eq_decide_eq]
theorem eqvAll_key : ∀ a b : List Key, PyData.eqvAll (a.map keyD) (b.map keyD) = decide (a = b)
  | [], [] => by simp [PyData.eqvAll]
  | [], _ :: _ => by simp [PyData.eqvAll]
  | _ :: _, [] => by simp [PyData.eqvAll]
  | a :: as, b :: bs => by
    rw [List.map_cons, List.map_cons, PyData.eqvAll, eqv_key, eqvAll_key as bs]
    simp
theorem eqv_keyT (a b : List Key) : PyData.eqv (.tuple (a.map keyD)) (.tuple (b.map keyD)) = decide (a = b) := by
  rw [PyData.eqv, eqvAll_key]
theorem key_of_b {x : D} (h : keyB x = true) : ∃ k, x = keyD k := by
  cases x with
  | int i => exact ⟨.inl i, rfl⟩
  | str i => exact ⟨.inr i, rfl⟩
  | _ => cases h
theorem keys_of_b : ∀ {xs : List D}, xs.all keyB = true → ∃ ks : List Key, xs = ks.map keyD
  | [], _ => ⟨[], rfl⟩
  | x :: xs, h => by
    rw [List.all_cons, Bool.and_eq_true] at h
    obtain ⟨k, rfl⟩ := key_of_b h.1
    obtain ⟨ks, rfl⟩ := keys_of_b h.2
    exact ⟨k :: ks, rfl⟩
section
variable {B : Hp}
theorem Rp.key {v : V} {k : Key} (r : Rp B v (keyD k)) : v = kV k ∧ keyOk k := by
  cases k with
  | inl i => cases r; exact ⟨rfl, trivial⟩
  | inr i => cases r with | str _ h => exact ⟨rfl, h⟩
theorem RpA.keys : ∀ {vs : List V} {ks : List Key}, RpA B vs (ks.map keyD) → vs = ks.map kV ∧ ∀ x ∈ ks, keyOk x
  | _, [], .nil => ⟨rfl, fun _ h => nomatch h⟩
  | _, k :: ks, .cons a r => by
    obtain ⟨h1, h2⟩ := RpA.keys r
    obtain ⟨h3, h4⟩ := a.key
    refine ⟨by rw [h1, h3]; rfl, fun x hx => ?_⟩
    rcases List.mem_cons.mp hx with rfl | hx
    · exact h4
    · exact h2 x hx
theorem RpK.val : ∀ {ks : List (Key × V)} {ds : List (D × D)} (r : RpK B ks ds) (k : Key), (∃ v d, valV ks k = some v ∧ dget ds (keyD k) = some d ∧ Rp B v d) ∨ (valV ks k = none ∧ dget ds (keyD k) = none)
  | _, _, .nil, k => .inr ⟨rfl, rfl⟩
  | _, _, .cons (k := j) (v := v) (d := d) o a r, k => by
    by_cases e : j = k
    · refine .inl ⟨v, d, valV_pos e, ?_, a⟩
      rw [dget, eqv_key, e, decide_eq_true rfl, if_pos rfl]
    · rw [valV_neg (p := (j, v)) e, dget, eqv_key, decide_eq_false e, if_neg Bool.false_ne_true]
      exact RpK.val r k
theorem RpT.val : ∀ {ks : List (List Key × V)} {ds : List (D × D)} (r : RpT B ks ds) (k : List Key), (∃ v d, valV ks k = some v ∧ dget ds (.tuple (k.map keyD)) = some d ∧ Rp B v d) ∨ (valV ks k = none ∧ dget ds (.tuple (k.map keyD)) = none)
  | _, _, .nil, k => .inr ⟨rfl, rfl⟩
  | _, _, .cons (k := j) (v := v) (d := d) o l a r, k => by
    by_cases e : j = k
    · refine .inl ⟨v, d, valV_pos e, ?_, a⟩
      rw [dget, eqv_keyT, e, decide_eq_true rfl, if_pos rfl]
    · rw [valV_neg (p := (j, v)) e, dget, eqv_keyT, decide_eq_false e, if_neg Bool.false_ne_true]
      exact RpT.val r k
theorem RpK.any : ∀ {ks : List (Key × V)} {ds : List (D × D)} (r : RpK B ks ds) (k : Key), (ks.any fun kv => decide (kv.1 = k)) = ds.any fun p => PyData.eqv p.1 (keyD k)
  | _, _, .nil, k => rfl
  | _, _, .cons o a r, k => by rw [List.any_cons, List.any_cons, RpK.any r k, eqv_key]
theorem RpT.any : ∀ {ks : List (List Key × V)} {ds : List (D × D)} (r : RpT B ks ds) (k : List Key), (ks.any fun kv => decide (kv.1 = k)) = ds.any fun p => PyData.eqv p.1 (.tuple (k.map keyD))
  | _, _, .nil, k => rfl
  | _, _, .cons o l a r, k => by rw [List.any_cons, List.any_cons, RpT.any r k, eqv_keyT]
theorem RpK.repl {k : Key} {v : V} {d : D} (h : Rp B v d) : ∀ {ks : List (Key × V)} {ds : List (D × D)} (r : RpK B ks ds), RpK B (ks.map fun kv => if kv.1 = k then (kv.1, v) else kv) (ds.map fun p => if PyData.eqv p.1 (keyD k) = true then (p.1, d) else p)
  | _, _, .nil => .nil
  | _, _, .cons (k := j) o a r => by
    rw [List.map_cons, List.map_cons, eqv_key]
    by_cases e : j = k
    · rw [if_pos e, if_pos (decide_eq_true e)]
      exact .cons o h (RpK.repl h r)
    · rw [if_neg e, if_neg (by rw [decide_eq_false e]; exact Bool.false_ne_true)]
      exact .cons o a (RpK.repl h r)
theorem RpT.repl {k : List Key} {v : V} {d : D} (h : Rp B v d) : ∀ {ks : List (List Key × V)} {ds : List (D × D)} (r : RpT B ks ds), RpT B (ks.map fun kv => if kv.1 = k then (kv.1, v) else kv) (ds.map fun p => if PyData.eqv p.1 (.tuple (k.map keyD)) = true then (p.1, d) else p)
  | _, _, .nil => .nil
  | _, _, .cons (k := j) o l a r => by
    rw [List.map_cons, List.map_cons, eqv_keyT]
    by_cases e : j = k
    · rw [if_pos e, if_pos (decide_eq_true e)]
      exact .cons o l h (RpT.repl h r)
    · rw [if_neg e, if_neg (by rw [decide_eq_false e]; exact Bool.false_ne_true)]
      exact .cons o l a (RpT.repl h r)
theorem RpK.snoc {k : Key} {v : V} {d : D} (o : keyOk k) (h : Rp B v d) : ∀ {ks : List (Key × V)} {ds : List (D × D)} (r : RpK B ks ds), RpK B (ks ++ [(k, v)]) (ds ++ [(keyD k, d)])
  | _, _, .nil => .cons o h .nil
  | _, _, .cons o' a r => .cons o' a (RpK.snoc o h r)
theorem RpT.snoc {k : List Key} {v : V} {d : D} (o : ∀ x ∈ k, keyOk x) (l : k.length ≤ sizeLine) (h : Rp B v d) : ∀ {ks : List (List Key × V)} {ds : List (D × D)} (r : RpT B ks ds), RpT B (ks ++ [(k, v)]) (ds ++ [(.tuple (k.map keyD), d)])
  | _, _, .nil => .cons o l h .nil
  | _, _, .cons o' l' a r => .cons o' l' a (RpT.snoc o l h r)
theorem RpK.put {k : Key} {v : V} {d : D} (o : keyOk k) (h : Rp B v d) {ks : List (Key × V)} {ds : List (D × D)} (r : RpK B ks ds) : RpK B (putK ks k v) (dput ds (keyD k) d) := by
  unfold putK dput
  rw [r.any k]
  split
  · exact r.repl h
  · exact r.snoc o h
theorem RpT.put {k : List Key} {v : V} {d : D} (o : ∀ x ∈ k, keyOk x) (l : k.length ≤ sizeLine) (h : Rp B v d) {ks : List (List Key × V)} {ds : List (D × D)} (r : RpT B ks ds) : RpT B (putK ks k v) (dput ds (.tuple (k.map keyD)) d) := by
  unfold putK dput
  rw [r.any k]
  split
  · exact r.repl h
  · exact r.snoc o l h
end
/-- what stands at a key -/
theorem opdD_get {t : Bool} {W : Wd} {τ : Tape} {H : Hp} {v y : V} {m x : D} (w : WI W τ H) (o : OpdD t W H v m) (r : Opd W H y x) (hk : keyF t x = true) :
    ∃ a kvs, v = .ref a ∧ m = .dict kvs ∧ ((∃ u d, DGet H a y (some u) ∧ dget kvs x = some d ∧ Rp W.B u d) ∨ (DGet H a y none ∧ dget kvs x = none)) := by
  obtain ⟨ds, rfl, o⟩ := o
  cases t with
  | false =>
    obtain ⟨a, ks, rfl, h1, _, rk⟩ := (show OwnK W H v ds from o)
    obtain ⟨k, rfl⟩ := key_of_b hk
    have r : Rp W.B y (keyD k) := by
      rcases r with r | ⟨ds, e, _⟩
      · exact r
      · cases k <;> cases e
    obtain ⟨rfl, _⟩ := r.key
    refine ⟨a, ds, rfl, rfl, ?_⟩
    have g := DGet.k (k := k) h1
    rcases rk.val k with ⟨u, d, e1, e2, e3⟩ | ⟨e1, e2⟩
    · rw [e1] at g
      exact .inl ⟨u, d, g, e2, e3⟩
    · rw [e1] at g
      exact .inr ⟨g, e2⟩
  | true =>
    obtain ⟨a, ks, rfl, h1, _, rk⟩ := (show OwnT W H v ds from o)
    cases x with
    | tuple xs =>
      obtain ⟨k, rfl⟩ := keys_of_b (show xs.all keyB = true from hk)
      obtain ⟨b, vs, rfl, hb, rb, _⟩ := r.tup
      obtain ⟨rfl, _⟩ := rb.keys
      refine ⟨a, ds, rfl, rfl, ?_⟩
      have g := DGet.t (k := k) h1 (w.sub _ _ hb)
      rcases rk.val k with ⟨u, d, e1, e2, e3⟩ | ⟨e1, e2⟩
      · rw [e1] at g
        exact .inl ⟨u, d, g, e2, e3⟩
      · rw [e1] at g
        exact .inr ⟨g, e2⟩
    | _ => cases hk
theorem opdD_is {t : Bool} {W : Wd} {H : Hp} {v : V} {m : D} (o : OpdD t W H v m) : ∃ a, v = .ref a ∧ IsD H a := by
  obtain ⟨ds, rfl, o⟩ := o
  cases t with
  | false =>
    obtain ⟨a, ks, rfl, h1, _⟩ := (show OwnK W H v ds from o)
    exact ⟨a, rfl, .inl ⟨ks, .inl h1⟩⟩
  | true =>
    obtain ⟨a, ks, rfl, h1, _⟩ := (show OwnT W H v ds from o)
    exact ⟨a, rfl, .inr ⟨ks, .inl h1⟩⟩
theorem no_sl {i : Expr} (h : noSlice i = true) : NoSl i := fun ov iv => by
  cases i <;> first | rfl | cases h
section
variable {cf : CF} {Γ : List Ty} {X : Cx}
theorem je_dix (hu : X.A.units + 150 < cLine) {t : Bool} {a b : Expr} {ia ib : IE} {pos : Pos} (ha : PE X a (tD cf Γ t ia)) (hb : PE X b (tB cf Γ ib)) (hs : noSlice b = true) : PE X (.Subscript a b pos) (tJ cf Γ (.dix t ia ib) .p) :=
  PEw (pe_dget (by omega) ha hb (no_sl hs)) fun σ H Q ⟨W, fp, γ, τ, d, τ', w, sl, ev, q⟩ => by
    simp only [evalE, Option.bind_eq_some_iff, Option.map_eq_some_iff, Prod.mk.injEq, Prod.exists] at ev
    obtain ⟨m, τ1, e1, x, τ2, e2, d', e3, rfl, rfl⟩ := ev
    simp only [opDix, Option.bind_eq_some_iff] at e3
    obtain ⟨kvs, e4, e5⟩ := e3
    split at e5 <;> first | cases e5 | skip
    rename_i hk
    refine ⟨W, fp, γ, τ, m, τ1, w, sl, e1, fun v W1 H1 f1 w1 o1 => ⟨W1, fp, γ, τ1, x, _, w1, sl.mono f1, e2, fun y W2 H2 f2 w2 o2 => ?_⟩⟩
    obtain ⟨a, kvs', rfl, rfl, ⟨u, d, g, e6, r⟩ | ⟨g, e6⟩⟩ := opdD_get w2 (o1.mono f2) o2 hk
    · cases e4
      rw [e6] at e5
      cases e5
      exact ⟨a, u, rfl, g, q u W2 H2 (f1.trans f2) w2 r⟩
    · cases e4
      rw [e6] at e5
      cases e5
theorem ev_din {t neg : Bool} {ia ib : IE} {γ : En} {τ τ' : Tape} {d : D} (e : evalE cf (.din t neg ia ib) γ τ = some (d, τ')) :
    ∃ x τ1 kvs, evalE cf ia γ τ = some (x, τ1) ∧ evalE cf ib γ τ1 = some (.dict kvs, τ') ∧ keyF t x = true ∧ d = .bool (if neg then !(dget kvs x).isSome else (dget kvs x).isSome) := by
  simp only [evalE, Option.bind_eq_some_iff, Option.map_eq_some_iff, Prod.mk.injEq, Prod.exists] at e
  obtain ⟨x, τ1, e1, m, τ2, e2, d', e3, rfl, rfl⟩ := e
  simp only [opDin, Option.bind_eq_some_iff] at e3
  obtain ⟨kvs, e4, e5⟩ := e3
  split at e5 <;> first | cases e5 | skip
  rename_i hk
  cases m <;> cases e4
  exact ⟨x, τ1, kvs, e1, e2, hk, rfl⟩
def dinOp (neg : Bool) : CmpOp := if neg then .NotIn else .In
theorem w_din {t neg : Bool} {ia ib : IE} {σ : L2.St} {H : Hp} {Q : VK} (h : tJ cf Γ (.din t neg ia ib) .p σ H Q) : (if neg then tDNotIn (tB cf Γ ia) (tD cf Γ t ib) else tDIn (tB cf Γ ia) (tD cf Γ t ib)) σ H Q := by
  obtain ⟨W, fp, γ, τ, d, τ', w, sl, ev, q⟩ := h
  obtain ⟨x, τ1, kvs, e1, e2, hk, rfl⟩ := ev_din ev
  cases neg with
  | true =>
    refine ⟨W, fp, γ, τ, x, τ1, w, sl, e1, fun y W1 H1 f1 w1 o1 => ⟨W1, fp, γ, τ1, _, τ', w1, sl.mono f1, e2, fun v W2 H2 f2 w2 o2 => ?_⟩⟩
    obtain ⟨a, kvs', rfl, e0, ⟨u, d, g, e6, r⟩ | ⟨g, e6⟩⟩ := opdD_get w2 o2 (o1.mono f2) hk
    · cases e0
      rw [e6] at q
      exact ⟨a, some u, rfl, g, q _ W2 H2 (f1.trans f2) w2 (.bl _)⟩
    · cases e0
      rw [e6] at q
      exact ⟨a, none, rfl, g, q _ W2 H2 (f1.trans f2) w2 (.bl _)⟩
  | false =>
    refine ⟨W, fp, γ, τ, x, τ1, w, sl, e1, fun y W1 H1 f1 w1 o1 => ⟨W1, fp, γ, τ1, _, τ', w1, sl.mono f1, e2, fun v W2 H2 f2 w2 o2 => ?_⟩⟩
    obtain ⟨a, kvs', rfl, e0, ⟨u, d, g, e6, r⟩ | ⟨g, e6⟩⟩ := opdD_get w2 o2 (o1.mono f2) hk
    · cases e0
      rw [e6] at q
      exact ⟨a, some u, rfl, g, q _ W2 H2 (f1.trans f2) w2 (.bl _)⟩
    · cases e0
      rw [e6] at q
      exact ⟨a, none, rfl, g, q _ W2 H2 (f1.trans f2) w2 (.bl _)⟩
theorem pc_dinB (hu : X.A.units + 150 < cLine) {t neg : Bool} {a b : Expr} {ia ib : IE} (ha : PE X a (tB cf Γ ia)) (hb : PE X b (tD cf Γ t ib)) : PC X (dinOp neg) a b (if neg then tDNotIn (tB cf Γ ia) (tD cf Γ t ib) else tDIn (tB cf Γ ia) (tD cf Γ t ib)) := by
  cases neg with
  | true => exact pc_dnotin (by omega) ha hb
  | false => exact pc_din (by omega) ha hb
theorem je_din (hu : X.A.units + 150 < cLine) {t neg : Bool} {a b : Expr} {ia ib : IE} {pos : Pos} (ha : PE X a (tB cf Γ ia)) (hb : PE X b (tD cf Γ t ib)) (hm : ∀ es k p, b ≠ .Set es k p) : PE X (.Compare a [dinOp neg] [b] pos) (tJ cf Γ (.din t neg ia ib) .p) :=
  PEw (pe_cmp (pc_dinB hu ha hb) (behind_of hm)) fun σ H Q h => w_din h
theorem jt_din (hu : X.A.units + 150 < cLine) {t neg : Bool} {a b : Expr} {ia ib : IE} {pos : Pos} (ha : PE X a (tB cf Γ ia)) (hb : PE X b (tD cf Γ t ib)) (hm : ∀ es k p, b ≠ .Set es k p) : PT X (.Compare a [dinOp neg] [b] pos) (tT cf Γ (.din t neg ia ib)) :=
  PTw (pt_cmp (pc_dinB hu ha hb) (behind_of hm)) fun σ H Q ⟨W, fp, γ, τ, k, τ', w, sl, ev, q⟩ => by
    simp only [tst, Option.bind_eq_some_iff, Option.map_eq_some_iff, Prod.mk.injEq, Prod.exists] at ev
    obtain ⟨d, τ1, e1, k', e2, rfl, rfl⟩ := ev
    refine w_din ⟨W, fp, γ, τ, d, τ1, w, sl, e1, fun v W1 H1 f1 w1 r1 => ?_⟩
    obtain ⟨_, _, _, _, _, _, rfl⟩ := ev_din e1
    simp only [truth, Option.some.injEq] at e2
    subst e2
    exact ⟨_, Opd.bool (W := W1) (H := H1) (.inl r1), q W1 H1 f1 w1⟩
theorem m2_of {o e f : Expr} {m : Str} {apos cpos : Pos} (hp : plainBase o = true) (h1 : unstar e = true) (h2 : unstar f = true) (hl : (apos.endLine == cpos.line) = true) : M2 X o m apos e f cpos :=
  ⟨base_of hp _ _ _, few_of h1 (by simp [h2]) (Nat.lt_of_sub_eq_succ rfl), hl, by rw [star_cons h1 [f] _, star_cons h2 [] _]; rfl⟩
/-- d.get(k, x) -/
theorem je_dget (hu : X.A.units + 150 < cLine) {t : Bool} {a b c : Expr} {ia ib ic : IE} {apos cpos : Pos} (ha : PE X a (tD cf Γ t ia)) (hb : PE X b (tB cf Γ ib)) (hc : PE X c (tJ cf Γ ic .p)) (hp : plainBase a = true) (h1 : unstar b = true) (h2 : unstar c = true) (hl : (apos.endLine == cpos.line) = true) :
    PE X (.Call (.Attribute a "get" apos) [b, c] [] cpos) (tJ cf Γ (.dget t ia ib ic) .p) :=
  PEw (pe_dget2 (by omega) ha hb hc (m2_of hp h1 h2 hl)) fun σ H Q ⟨W, fp, γ, τ, d, τ', w, sl, ev, q⟩ => by
    simp only [evalE, Option.bind_eq_some_iff, Option.map_eq_some_iff, Prod.mk.injEq, Prod.exists] at ev
    obtain ⟨m, τ1, e1, x, τ2, e2, z, τ3, e2', d', e3, rfl, rfl⟩ := ev
    simp only [opDget, Option.bind_eq_some_iff] at e3
    obtain ⟨kvs, e4, e5⟩ := e3
    split at e5 <;> first | cases e5 | skip
    rename_i hk
    refine ⟨W, fp, γ, τ, m, τ1, w, sl, e1, fun v W1 H1 f1 w1 o1 => ?_⟩
    obtain ⟨a1, rfl, isd⟩ := opdD_is o1
    refine ⟨a1, rfl, isd, W1, fp, γ, τ1, x, τ2, w1, sl.mono f1, e2, fun y W2 H2 f2 w2 o2 => ⟨W2, fp, γ, τ2, z, _, w2, (sl.mono f1).mono f2, e2', fun z' W3 H3 f3 w3 r3 => ?_⟩⟩
    obtain ⟨a, kvs', e0, rfl, ⟨u, d, g, e6, r⟩ | ⟨g, e6⟩⟩ := opdD_get w3 ((o1.mono f2).mono f3) (o2.mono f3) hk
    · cases e0
      cases e4
      rw [e6] at q
      exact ⟨some u, g, q u W3 H3 ((f1.trans f2).trans f3) w3 r⟩
    · cases e0
      cases e4
      rw [e6] at q
      exact ⟨none, g, q z' W3 H3 ((f1.trans f2).trans f3) w3 r3⟩
/-! ### isinstance -/
def kcW : Kc → Str × String
  | .tup => ("tuple", "tuple") | .lst => ("list", "list") | .str => ("str", "str") | .int => ("int", "int") | .bool => ("bool", "bool")
theorem kc_boot (k : Kc) : bootBuiltins (kcW k).1 = some (.type (kcW k).2) ∧ (kcW k).1 ≠ "__name__" ∧ ((kcW k).1 == ("__debug__" : Str)) = false := by
  cases k <;> decide +kernel
theorem kt_NoneType (k : Kc) : kitB "NoneType" (kcW k).2 = some (isiB k .none) := by cases k <;> decide +kernel
theorem kt_bool (k : Kc) : kitB "bool" (kcW k).2 = some (isiB k (.bool true)) := by cases k <;> decide +kernel
theorem kt_int (k : Kc) : kitB "int" (kcW k).2 = some (isiB k (.int 0)) := by cases k <;> decide +kernel
theorem kt_str (k : Kc) : kitB "str" (kcW k).2 = some (isiB k (.str (Str.ofString ""))) := by cases k <;> decide +kernel
theorem kt_list (k : Kc) : kitB "list" (kcW k).2 = some (isiB k (.list [])) := by cases k <;> decide +kernel
theorem kt_tuple (k : Kc) : kitB "tuple" (kcW k).2 = some (isiB k (.tuple [])) := by cases k <;> decide +kernel
theorem isi_ty {K : PySem.W.Frag} {W : Wd} {τ : Tape} {H : Hp} {v : V} {d : D} (w : WI W τ H) (o : Opd W H v d) (k : Kc) : ∃ t, TyX K H v t ∧ PySem.W.kitOne K t (.type (kcW k).2) = some (isiB k d) := by
  cases d with
  | none => cases o.none_; exact ⟨_, .base .non, kit_ty ((kt_NoneType k).trans (by cases k <;> rfl))⟩
  | bool b => cases o.bool; exact ⟨_, .base (.bl b), kit_ty ((kt_bool k).trans (by cases k <;> rfl))⟩
  | int i => cases o.int; exact ⟨_, .base (.int i), kit_ty ((kt_int k).trans (by cases k <;> rfl))⟩
  | str x => obtain ⟨rfl, _⟩ := o.str; exact ⟨_, .base (.str x), kit_ty ((kt_str k).trans (by cases k <;> rfl))⟩
  | list xs =>
    obtain ⟨a, vs, rfl, h1, _⟩ := o.list w
    exact ⟨_, .base (.lst h1), kit_ty ((kt_list k).trans (by cases k <;> rfl))⟩
  | tuple xs =>
    obtain ⟨a, vs, rfl, h1, _⟩ := o.tup
    exact ⟨_, .base (.tup (w.sub _ _ h1)), kit_ty ((kt_tuple k).trans (by cases k <;> rfl))⟩
  | dict kvs => exact o.nodict.elim
theorem je_isi {k : Kc} {e : Expr} {ie : IE} {p p2 pos : Pos} (hg : Gl X "isinstance") (hm : X.mg "isinstance" = none) (hg2 : Gl X (kcW k).1) (hm2 : X.mg (kcW k).1 = none) (hs : unstar e = true) (he : PE X e (tB cf Γ ie)) :
    PE X (.Call (.Name "isinstance" p) [e, .Name (kcW k).1 p2] [] pos) (tJ cf Γ (.isi k ie) .p) :=
  PEw (pe_callB call_isi hg hm (by decide +kernel) (pa_cons he (pa_cons (pe_bltn hg2 hm2 (kc_boot k).1 (v := .ty (kcW k).2) rfl (kc_boot k).2.1 (kc_boot k).2.2) pa_nil rfl) (star_cons hs _ _)) (by decide) (by decide +kernel) (star_cons hs _ _) (star_any (by simp [unstar]) _ _)) fun σ H Q ⟨W, fp, γ, τ, d, τ', w, sl, ev, q⟩ => by
    simp only [evalE, Option.map_eq_some_iff, Prod.mk.injEq, Prod.exists] at ev
    obtain ⟨x, τ1, e1, rfl, rfl⟩ := ev
    refine ⟨W, fp, γ, τ, x, _, w, sl, e1, fun v W1 H1 f1 w1 o1 => ?_⟩
    obtain ⟨t, ht, hk⟩ := isi_ty (K := X.K) w1 o1 k
    exact ⟨v, .ty (kcW k).2, t, .type (kcW k).2, isiB k x, rfl, .ty _, ht, hk, q _ W1 H1 f1 w1 (.bl _)⟩
end
section
variable {cf : CF} {res : Ty} {ΓL Γ Γ1 Γ2 : List Ty} {X : Cx}
theorem slot_dK {W : Wd} {fp : Nat → List Addr} {γ : En} {σ : L2.St} {H : Hp} (sl : SL W fp Γ γ σ H) {i : Nat} (ht : ty Γ i = .dK) : ∃ a ks ds, fp i = [a] ∧ rd γ i = some (.dict ds) ∧ σ.getD i none = some (.ref a) ∧ H a = some (.dK ks) ∧ W.B a = none ∧ ¬ W.tp a ∧ RpK W.B ks ds :=
  slot_at sl i ht
theorem slot_dT {W : Wd} {fp : Nat → List Addr} {γ : En} {σ : L2.St} {H : Hp} (sl : SL W fp Γ γ σ H) {i : Nat} (ht : ty Γ i = .dT) : ∃ a ks ds, fp i = [a] ∧ rd γ i = some (.dict ds) ∧ σ.getD i none = some (.ref a) ∧ H a = some (.dT ks) ∧ W.B a = none ∧ ¬ W.tp a ∧ RpT W.B ks ds :=
  slot_at sl i ht
theorem opDput_some {t : Bool} {m x y d : D} (e : opDput t m x y = some d) : ∃ kvs, m = .dict kvs ∧ keyF t x = true ∧ kvs.length < sizeLine ∧ d = .dict (dput kvs x y) := by
  simp only [opDput, Option.bind_eq_some_iff] at e
  obtain ⟨kvs, e1, e2⟩ := e
  split at e2 <;> first | cases e2 | skip
  rename_i h
  cases m <;> cases e1
  exact ⟨kvs, rfl, h.1, h.2, rfl⟩
/-- d[k] = e -/
theorem js_setd (hu : X.A.units + 150 < cLine) {t : Bool} {i : Nat} {x k e : Expr} {ik ie : IE} {p2 pos : Pos} (hx : PE X x (tVar i)) (ht : ty Γ i = if t then .dT else .dK) (he : PE X e (tJ cf Γ ie .p)) (hk : PE X k (tB cf Γ ik)) (hs : swapsWith e (some (.Subscript x k p2)) pos.line X.env = pure false) :
    PS X (.Assign [.Subscript x k p2] e pos) (tS cf res ΓL Γ (.setd t i ik ie) Γ) :=
  PSw (ps_dput (by omega) hx hk he hs) fun D σ H ⟨W0, H0, Bk, γ, τ, out, ⟨W, fp, f, b, w, sl, n⟩, e, ok⟩ => by
    simp only [execS, Option.bind_eq_some_iff, Option.map_eq_some_iff, Prod.exists] at e
    obtain ⟨d, τ1, e1, q, τ2, e2, l, e3, l', e4, rfl⟩ := e
    obtain ⟨kvs, rfl, hkf, hlen, rfl⟩ := opDput_some e4
    cases t with
    | false =>
      obtain ⟨a, ks, ds, hF, h1, h2, h3, h4, h5, r⟩ := slot_dK sl ht
      rw [h1] at e3
      cases e3
      obtain ⟨kk, rfl⟩ := key_of_b hkf
      refine ⟨W, fp, γ, τ, d, τ1, w, sl, e1, fun v W1 H1 f1 w1 r1 => ⟨.ref a, getD_some h2, W1, fp, γ, τ1, _, τ2, w1, sl.mono f1, e2, fun kv W2 H2 f2 w2 o2 => ?_⟩⟩
      have rk : Rp W2.B kv (keyD kk) := by
        rcases o2 with r | ⟨ds, e, _⟩
        · exact r
        · cases kk <;> cases e
      obtain ⟨rfl, ko⟩ := rk.key
      have f12 := f1.trans f2
      have h31 := f12.hp _ _ h3 h5
      have h41 := f12.ownB h3 h4
      have h51 := f12.ntp h3 h5
      refine ⟨a, _, rfl, DPut.k h31 (by rw [r.length]; exact hlen), ?_⟩
      refine ok σ _ (SX.mut (f.trans f12) (b.trans f12.B) w2 (sl.mono f12) n (ty_lt ht (by decide)) hF h41 h51 ?_)
      rw [ht]
      exact ⟨a, _, _, rfl, rfl, h2, upd_same, h41, h51, (r.mono f12.B).put ko (Rp.mono f2.B r1)⟩
    | true =>
      obtain ⟨a, ks, ds, hF, h1, h2, h3, h4, h5, r⟩ := slot_dT sl ht
      rw [h1] at e3
      cases e3
      cases q with
      | tuple xs =>
        obtain ⟨kk, rfl⟩ := keys_of_b (show xs.all keyB = true from hkf)
        refine ⟨W, fp, γ, τ, d, τ1, w, sl, e1, fun v W1 H1 f1 w1 r1 => ⟨.ref a, getD_some h2, W1, fp, γ, τ1, _, τ2, w1, sl.mono f1, e2, fun kv W2 H2 f2 w2 o2 => ?_⟩⟩
        obtain ⟨bb, vs, rfl, hb, rb, lb⟩ := o2.tup
        obtain ⟨rfl, ko⟩ := rb.keys
        have f12 := f1.trans f2
        have h31 := f12.hp _ _ h3 h5
        have h41 := f12.ownB h3 h4
        have h51 := f12.ntp h3 h5
        refine ⟨a, _, rfl, DPut.t h31 (w2.sub _ _ hb) (by rw [r.length]; exact hlen), ?_⟩
        refine ok σ _ (SX.mut (f.trans f12) (b.trans f12.B) w2 (sl.mono f12) n (ty_lt ht (by decide)) hF h41 h51 ?_)
        rw [ht]
        exact ⟨a, _, _, rfl, rfl, h2, upd_same, h41, h51, (r.mono f12.B).put ko (by rw [List.length_map] at lb; exact lb) (Rp.mono f2.B r1)⟩
      | _ => cases hkf
/-- list(e), one's own -/
theorem jo_list {e : Expr} {ie : IE} {p pos : Pos} (hg : Gl X "list") (hm : X.mg "list" = none) (hs : unstar e = true) (he : PE X e (tB cf Γ ie)) : PE X (.Call (.Name "list" p) [e] [] pos) (tO cf Γ (.b1 .list ie)) :=
  PEw (pe_callTy call_list_of hg hm (by decide +kernel) (jbs_cons he jbs_nil (star_cons hs [] _)) (by decide) (by decide +kernel) (star_cons hs [] _) rfl) fun σ H Q ⟨W, fp, γ, τ, d, τ', w, sl, ev, q⟩ => by
    obtain ⟨x, e1, e2⟩ := ev_b1 ev
    refine ⟨W, fp, γ, τ, [x], τ', w, sl, by simp only [evalEs, e1, Option.bind_some, Option.map_some], fun vs W1 H1 f1 w1 o1 => ?_⟩
    match vs, o1 with
    | [v], o1 =>
      have o1 := o1.1
      have np : ∀ p, H1 p = none → ¬ W1.tp p := fun p hp t => by
        obtain ⟨xs, z⟩ := w1.tpx t
        rw [hp] at z
        cases z
      have e2 : bLst x = some d := e2
      unfold bLst at e2
      split at e2
      · cases e2
        obtain ⟨a, vs, rfl, h1, _, r1, l⟩ := o1.list w1
        exact ⟨a, vs, rfl, .inl (SqL.of h1), fun p hp => q p vs _ W1 _ rfl (f1.change _ (f1.free hp)) (w1.change _ (w1.none_ hp) (np p hp)) upd_same (w1.none_ hp) (np p hp) (f1.free hp) r1 l⟩
      · cases e2
        obtain ⟨a, vs, rfl, h1, r1, l⟩ := o1.tup
        exact ⟨a, vs, rfl, .inr (SqT.of (w1.sub _ _ h1)), fun p hp => q p vs _ W1 _ rfl (f1.change _ (f1.free hp)) (w1.change _ (w1.none_ hp) (np p hp)) upd_same (w1.none_ hp) (np p hp) (f1.free hp) r1 l⟩
      · cases e2
/-- x = dict(d) -/
theorem js_dcp {i : Nat} {target e : Expr} {ie : IE} {p p1 pos : Pos} (hu : unstar target = true) (hi : i < Γ.length) (hG : Gl X "dict") (hM : X.mg "dict" = none) (hs1 : unstar e = true) (he : PE X e (tD cf Γ false ie)) (hg : PG X target (gName i)) (hs : swapsWithSole [target] (.Call (.Name "dict" p) [e] [] p1) pos.line X.env = pure false) (hw : swappedStores [target] (.Call (.Name "dict" p) [e] [] p1) X.env = pure none) :
    PS X (.Assign [target] (.Call (.Name "dict" p) [e] [] p1) pos) (tS cf res ΓL Γ (.own i .dK (.dcp ie)) (Γ.set i .dK)) :=
  PSw (ps_asg (pe_callTy call_dictD hG hM (by decide +kernel) (pa_cons he pa_nil (star_cons hs1 _ _)) (by decide) (by decide +kernel) (star_cons hs1 _ _) rfl) hg hs hw (each_one hu _)) fun D σ H ⟨W0, H0, Bk, γ, τ, out, ⟨W, fp, f, b, w, sl, n⟩, e, ok⟩ => by
    simp only [execS, evalE, Option.bind_eq_some_iff, Option.map_eq_some_iff, Prod.mk.injEq, Prod.exists] at e
    obtain ⟨d, τ1, ⟨m, τ2, e1, kvs, e2, rfl, rfl⟩, rfl⟩ := e
    cases m <;> cases e2
    refine ⟨W, fp, γ, τ, _, _, w, sl, e1, fun v W1 H1 f1 w1 o1 => ?_⟩
    obtain ⟨ds, e0, o1⟩ := o1
    cases e0
    obtain ⟨a, ks, rfl, h1, hn1, rk⟩ := (show OwnK W1 H1 v kvs from o1)
    refine ⟨a, ks, rfl, .inl h1, fun p hp => ?_⟩
    have np : ¬ W1.tp p := fun t => by
      obtain ⟨xs, z⟩ := w1.tpx t
      rw [hp] at z
      cases z
    have hp0 : H0 p = none := f.free (f1.free hp)
    refine ok _ _ ⟨W1, _, (f.trans f1).change _ hp0, b.trans f1.B, w1.change _ (w1.none_ hp) np, (((sl.mono f1).forgetB i).change (p := p) (fun j m => (sl.mono f1).new hp j (off_mem m).1)).reslot (t := .dK) (F := [p]) hi ?_ (by simp) (fun j hj a ha => ?_), fun j a m => ?_⟩
    · exact ⟨p, ks, kvs, rfl, rfl, rfl, upd_same, w1.none_ hp, np, rk⟩
    · cases List.mem_singleton.mp ha
      exact (sl.mono f1).new hp j
    · have m : a ∈ (if j = i then [p] else fp j) := m
      split at m
      · cases List.mem_singleton.mp m
        exact hp0
      · exact n j a m
end
end Ev
set_option Elab.async false
set_option linter.all false
set_option maxRecDepth 100000
set_option autoImplicit false
/-! Ev13: the look that a run is a run of an expression. -/
namespace Ev
open PySem PySem.Spec PyProof.Rows L2
/-- what is known of a scope: the slots' names, its own names' kinds, a block's names (none: a def) -/
structure SC where
  N : List Str
  nm : List (Str × NameKind)
  bn : Option (List (Str × NameKind))
  /-- no repr runs around -/
  gd : Bool
/-- what is known of the program: its defs (by their places), the built-ins' names that no module's name hides -/
structure PG0 where
  P : Prg
  fn : List Str
  bl : List Str
inductive Mode | j (t : Ty) | b | d (t : Bool) | t | o deriving DecidableEq
def okP : Mode → Bool
  | .j .p => true | .b => true | .t => true
  | _ => false
def visB (S : SC) (x : Str) : Bool := match S.nm.lookup x with
  | some .local => true | some .cell => true | some .free => true
  | _ => false
def locB (S : SC) (x : Str) : Bool := match S.nm.lookup x with
  | some .local => true
  | some .cell => (match S.bn with | none => true | some l => decide (l.lookup x = some .cell))
  | _ => false
def glB (S : SC) (x : Str) : Bool := decide (S.nm.lookup x = some .globalImplicit)
def noMagic (x : Str) : Bool := !(x == ("__debug__" : Str)) && !(x == ("__classdict__" : Str))
def noSet : Expr → Bool
  | .Set .. => false
  | _ => true
def opB : BOp → Operator → Bool
  | .add, .Add => true | .sub, .Sub => true | .mul, .Mult => true | .mod, .Mod => true | .fdiv, .FloorDiv => true | .pow, .Pow => true
  | _, _ => false
def copB : COp → CmpOp → Bool
  | .eq, .Eq => true | .ne, .NotEq => true | .lt, .Lt => true | .le, .LtE => true | .gt, .Gt => true | .ge, .GtE => true | .isin, .In => true | .notin, .NotIn => true
  | _, _ => false
theorem opB_eq {o : BOp} {op : Operator} (h : opB o op = true) : op = opA o := by
  cases o <;> cases op <;> first | rfl | cases h
theorem copB_eq {o : COp} {op : CmpOp} (h : copB o op = true) : op = copA o := by
  cases o <;> cases op <;> first | rfl | cases h
def chkV (S : SC) (Γ : List Ty) (m : Mode) (i : Nat) (x : Str) : Bool := decide (S.N[i]? = some x) && visB S x && noMagic x && match m with
  | .j t => decide (ty Γ i = t) && (decide (t = .p) || decide (t = .pK) || decide (t = .pT) || decide (t = .st))
  | .b | .t => decide (ty Γ i = .p) || decide (ty Γ i = .o)
  | .d t => decide (ty Γ i = if t then .dT else .dK) || decide (ty Γ i = if t then .pT else .pK)
  | .o => false
def chkC (d : D) : Expr → Bool
  | .Constant (.int i) _ _ => (match d with | .int j => decide (i = j) | _ => false)
  | .Constant (.bool i) _ _ => (match d with | .bool j => decide (i = j) | _ => false)
  | .Constant .none _ _ => (match d with | .none => true | _ => false)
  | .Constant (.str i) _ _ => (match d with | .str j => decide (i = j) && PyData.strOk i | _ => false)
  | .UnaryOp .USub (.Constant (.int i) _ _) _ => (match d with | .int j => decide (-i = j) | _ => false)
  | _ => false
/-- names of a block, as they stand within -/
def relN (names outer : List (Str × NameKind)) : List (Str × NameKind) := names.map fun p => if p.2 == .free && outer.lookup p.1 == some .cell then (p.1, .cell) else p
def SC.blk (S : SC) (scope : Scope) : SC := ⟨S.N, relN scope.names S.nm, some scope.names, S.gd⟩
def ownOf (S : SC) (own : List Nat) : List (Str × Nat) := own.map fun i => (S.N.getD i (Str.ofString ""), i)
def blkB (S : SC) (scope : Scope) (own : List Nat) : Bool := decide (scope.kind = .function) && scope.names.all (fun y => decide (scope.names.lookup y.1 = some y.2)) && own.all (fun i => decide (i < S.N.length)) &&
  scope.names.all (fun y => if y.2 == .free then decide (S.nm.lookup y.1 = some .cell) || decide (S.nm.lookup y.1 = some .free) else true) &&
  scope.names.all (fun y => if y.2 == .local || y.2 == .cell then (ownOf S own).any (fun p => p.1 == y.1) || !S.N.contains y.1 else true)
mutual
def chkTg (S : SC) : Tg → Expr → Bool
  | .n i, e => (match e with | .Name x _ => decide (S.N[i]? = some x) && locB S x | _ => false)
  | .t ts, e => (match e with | .Tuple es _ _ => chkTgs S ts es | _ => false)
  | .l ts, e => (match e with | .Tuple es _ _ => chkTgs S ts es | _ => false)
def chkTgs (S : SC) : List Tg → List Expr → Bool
  | [], es => (match es with | [] => true | _ => false)
  | t :: ts, es => (match es with | e :: es => unstar e && chkTg S t e && chkTgs S ts es | _ => false)
end
def bWord (G : PG0) (S : SC) (x y : Str) : Bool := x == y && glB S x && G.bl.contains x
def isTup : Expr → Bool
  | .Tuple .. => true
  | _ => false
/-! ### forms of expressions -/
def kV (e : Expr) (f : Str → Bool) : Bool := match e with | .Name x _ => f x | _ => false
def kTup (e : Expr) (f : List Expr → Bool) : Bool := match e with | .Tuple es _ _ => f es | _ => false
def kLst (e : Expr) (f : List Expr → Bool) : Bool := match e with | .List es _ => f es | _ => false
def kBin (o : BOp) (e : Expr) (f g : Expr → Bool) : Bool := match e with | .BinOp a op b _ => opB o op && f a && g b | _ => false
def kCmp (o : COp) (e : Expr) (f g : Expr → Bool) : Bool := match e with | .Compare a [op] [b] _ => copB o op && noSet b && f a && g b | _ => false
def kCmp2 (o o' : COp) (e : Expr) (f g k : Expr → Bool) : Bool := match e with | .Compare a [op, op'] [b, c] _ => copB o op && copB o' op' && noSet c && f a && g b && k c | _ => false
def kDin (neg : Bool) (e : Expr) (f g : Expr → Bool) : Bool := match neg, e with
  | true, .Compare a [.NotIn] [b] _ => noSet b && f a && g b
  | false, .Compare a [.In] [b] _ => noSet b && f a && g b
  | _, _ => false
def kGet (e : Expr) (f g k : Expr → Bool) : Bool := match e with | .Call (.Attribute a y apos) [b, c] [] cpos => y == ("get" : Str) && plainBase a && unstar b && unstar c && (apos.endLine == cpos.line) && f a && g b && k c | _ => false
def kIsi (e : Expr) (f g : Str → Bool) (k : Expr → Bool) : Bool := match e with | .Call (.Name x _) [a, .Name y _] [] _ => unstar a && f x && g y && k a | _ => false
def kIs (e : Expr) (f : Expr → Bool) : Bool := match e with | .Compare a [.Is] [.Constant .none _ _] _ => f a | _ => false
def kIsNot (e : Expr) (f : Expr → Bool) : Bool := match e with | .Compare a [.IsNot] [.Constant .none _ _] _ => f a | _ => false
def kAnd (e : Expr) (f g : Expr → Bool) : Bool := match e with | .BoolOp .And (a :: b :: rest) pos => f a && (if rest.isEmpty then g b else g (.BoolOp .And (b :: rest) pos)) | _ => false
def kOr (e : Expr) (f g : Expr → Bool) : Bool := match e with | .BoolOp .Or (a :: b :: rest) pos => f a && (if rest.isEmpty then g b else g (.BoolOp .Or (b :: rest) pos)) | _ => false
def kNot (e : Expr) (f : Expr → Bool) : Bool := match e with | .UnaryOp .Not a _ => f a | _ => false
def kIte (e : Expr) (f g k : Expr → Bool) : Bool := match e with | .IfExp c a b _ => f c && g a && k b | _ => false
def kIx (e : Expr) (f g : Expr → Bool) : Bool := match e with | .Subscript a b _ => noSlice b && f a && g b | _ => false
def kSlF (e : Expr) (f g : Expr → Bool) : Bool := match e with | .Subscript a (.Slice (some b) none none _) _ => f a && g b | _ => false
def kSlT (e : Expr) (f g : Expr → Bool) : Bool := match e with | .Subscript a (.Slice none (some b) none _) _ => f a && g b | _ => false
def kSlB (e : Expr) (f g k : Expr → Bool) : Bool := match e with | .Subscript a (.Slice (some b) (some c) none _) _ => f a && g b && k c | _ => false
def kRev (e : Expr) (f : Expr → Bool) : Bool := match e with | .Subscript a (.Slice none none (some (.UnaryOp .USub (.Constant (.int n) _ _) _)) _) _ => decide (n = 1) && f a | _ => false
def kCall1 (e : Expr) (f : Str → Bool) (g : Expr → Bool) : Bool := match e with | .Call (.Name x _) [a] [] _ => unstar a && f x && g a | _ => false
def kCall2 (e : Expr) (f : Str → Bool) (g k : Expr → Bool) : Bool := match e with | .Call (.Name x _) [a, b] [] _ => unstar a && unstar b && f x && g a && k b | _ => false
def kCall (e : Expr) (f : Str → Bool) (g : List Expr → Bool) : Bool := match e with | .Call (.Name x _) es [] _ => es.all unstar && noMagic x && f x && g es | _ => false
def kIndex (e : Expr) (f g : Expr → Bool) : Bool := match e with | .Call (.Attribute a y apos) [b] [] cpos => y == ("index" : Str) && plainBase a && unstar b && (apos.endLine == cpos.line) && f a && g b | _ => false
def kComp (e : Expr) (f : Scope → Bool) (g : Scope → Expr → Bool) (k : Expr → Expr → Bool) (c : Scope → List Expr → Bool) (w : Scope → Expr → Bool) : Bool := match e with
  | .ListComp elt [⟨tg, it, ifs, 0⟩] scope _ => f scope && noSet it && g scope tg && k tg it && c scope ifs && w scope elt
  | _ => false
def kComp2 (e : Expr) (f : Scope → Bool) (g : Scope → Expr → Bool) (k : Expr → Expr → Bool) (c : Scope → List Expr → Bool) (g2 : Scope → Expr → Bool) (k2 : Scope → Expr → Expr → Bool) (c2 : Scope → List Expr → Bool) (w : Scope → Expr → Bool) : Bool := match e with
  | .ListComp elt [⟨tg, it, ifs, 0⟩, ⟨tg2, it2, ifs2, 0⟩] scope _ => f scope && noSet it && g scope tg && k tg it && c scope ifs && (noSet it2 && g2 scope tg2 && k2 scope tg2 it2 && c2 scope ifs2 && w scope elt)
  | _ => false
def nameB (S : SC) (i : Nat) (e : Expr) : Bool := kV e fun x => decide (S.N[i]? = some x) && visB S x && noMagic x
def kStx (e : Expr) (f : Expr → Bool) (n : Nat) : Bool := match e with | .Subscript a (.Constant (.int k) _ _) _ => decide (k = (n : Int)) && f a | _ => false
def keysB : List (Option Expr) → List Expr → List (Str × D) → Bool
  | ks, vs, [] => ks.isEmpty && vs.isEmpty
  | some (.Constant (.str x) _ _) :: ks, v :: vs, p :: r => decide (x = p.1) && chkC p.2 v && keysB ks vs r
  | _, _, _ => false
def kDcst (e : Expr) (kvs : List (Str × D)) (f : Expr → Bool) : Bool := match e with | .Subscript (.Dict ks vs _) b _ => noSlice b && keysB ks vs kvs && f b | _ => false
def isYes : IE → Bool
  | .yes => true
  | _ => false
def kIfs (ifs : List Expr) (cond : IE) (f : Expr → Bool) : Bool := match ifs with | [] => isYes cond | [c] => f c | _ => false
def kNil (es : List Expr) : Bool := match es with | [] => true | _ => false
def kCons (es : List Expr) (f : Expr → Bool) (g : List Expr → Bool) : Bool := match es with | e :: es => unstar e && f e && g es | _ => false
def b1Word (f : B1) (G : PG0) (S : SC) (x : Str) : Bool := match b1Fun f with | some (y, _) => bWord G S x y | none => (match b1Ty f with | some (y, _) => bWord G S x y | none => decide (f = .repr) && S.gd && bWord G S x "repr")
def resOk (m : Mode) (r : Ty) : Bool := match m with
  | .j t => decide (t = r) | .b => decide (r = .p) | .t => decide (r = .p) | .d t => decide (r = if t then .pT else .pK) | .o => false
def tMode (m : Mode) (k : Mode) : Mode := match m with | .t => .t | _ => k
def iteM (m : Mode) : Mode := match m with | .j t => .j t | _ => .j .p
def okI (m : Mode) : Bool := match m with | .j _ => true | .b => true | _ => false
def pM (pure : Bool) : Mode := if pure then .j .p else .b
def b1Set : B1 → Option Str
  | .sset => some "sorted" | .lset => some "len"
  | _ => none
def kCallC (e : Expr) (f g : Str → Bool) (k : Expr → Bool) : Bool := match e with | .Call (.Name x _) [.Call (.Name y _) [a] [] _] [] _ => unstar a && f x && g y && k a | _ => false
mutual
def chk (G : PG0) (S : SC) (Γ : List Ty) (m : Mode) : IE → Expr → Bool
  | .v i, e => kV e (chkV S Γ m i)
  | .c d, e => okP m && chkC d e
  | .yes, _ => false
  | .tup es, e => okP m && kTup e (fun es' => chkPs G S Γ es es' && decide (es.length ≤ 1000))
  | .lst es, e => (okP m || decide (m = .o)) && kLst e (fun es' => chkPs G S Γ es es' && decide (es.length ≤ 1000))
  | .bin o a b, e => okP m && kBin o e (fun x => chk G S Γ .b a x) (fun x => chk G S Γ .b b x)
  | .cmp o a b, e => okP m && kCmp o e (fun x => chk G S Γ .b a x) (fun x => chk G S Γ .b b x)
  | .cmp2 o o' a b c, e => okP m && kCmp2 o o' e (fun x => chk G S Γ .b a x) (fun x => chk G S Γ .b b x) (fun x => chk G S Γ .b c x)
  | .isN a, e => okP m && kIs e (fun x => chk G S Γ .b a x)
  | .notN a, e => okP m && kIsNot e (fun x => chk G S Γ .b a x)
  | .and a b, e => okP m && kAnd e (fun x => chk G S Γ (tMode m (.j .p)) a x) (fun x => chk G S Γ (tMode m (.j .p)) b x)
  | .or a b, e => okP m && kOr e (fun x => chk G S Γ (tMode m (.j .p)) a x) (fun x => chk G S Γ (tMode m (.j .p)) b x)
  | .not a, e => okP m && kNot e (fun x => chk G S Γ (tMode m .b) a x)
  | .ite c a b, e => okI m && kIte e (fun x => chk G S Γ .t c x) (fun x => chk G S Γ (iteM m) a x) (fun x => chk G S Γ (iteM m) b x)
  | .ix a b, e => okP m && kIx e (fun x => chk G S Γ .b a x) (fun x => chk G S Γ .b b x)
  | .slF a b, e => okP m && kSlF e (fun x => chk G S Γ .b a x) (fun x => chk G S Γ .b b x)
  | .slT a b, e => okP m && kSlT e (fun x => chk G S Γ .b a x) (fun x => chk G S Γ .b b x)
  | .slB a b c, e => okP m && kSlB e (fun x => chk G S Γ .b a x) (fun x => chk G S Γ .b b x) (fun x => chk G S Γ .b c x)
  | .rev a, e => okP m && kRev e (fun x => chk G S Γ .b a x)
  | .b1 f a, e => (okP m || (decide (m = .o) && decide (f = .list))) && (match b1Set f with
    | some w => kCallC e (fun x => bWord G S x w) (fun x => bWord G S x "set") (fun x => chk G S Γ .b a x)
    | none => kCall1 e (b1Word f G S) (fun x => chk G S Γ .b a x))
  | .b2 f a b, e => okP m && kCall2 e (fun x => bWord G S x (b2Fun f).1) (fun x => chk G S Γ .b a x) (fun x => chk G S Γ .b b x)
  | .call f es, e => kCall e (fun x => decide (G.fn[f]? = some x) && glB S x) (fun es' => match G.P[f]? with | some fd => resOk m fd.res && chkAs G S Γ es fd.pty es' | none => false)
  | .mth k a es, e => okP m && decide (k = .index) && kIndex e (fun x => chk G S Γ .b a x) (fun x => chkBs G S Γ es [x])
  | .comp own tg k args cond elt, e => (okP m || decide (m = .o)) && (tgSlots tg).all own.contains && kComp e (fun sc => blkB S sc own) (fun sc t => chkTg (S.blk sc) tg t) (fun t it => chkI G S Γ false k args t it)
      (fun sc ifs => kIfs ifs cond fun x => chk G (S.blk sc) (setT tg (unk Γ own)) .t cond x) (fun sc x => chk G (S.blk sc) (setT tg (unk Γ own)) (.j .p) elt x)
  | .comp2 own tg k args cond tg2 k2 args2 cond2 elt, e => (okP m || decide (m = .o)) && ((tgSlots tg).all own.contains && (tgSlots tg2).all own.contains) && kComp2 e (fun sc => blkB S sc own) (fun sc t => chkTg (S.blk sc) tg t) (fun t it => chkI G S Γ false k args t it)
      (fun sc ifs => kIfs ifs cond fun x => chk G (S.blk sc) (setT tg (unk Γ own)) .t cond x) (fun sc t => chkTg (S.blk sc) tg2 t) (fun sc t it => chkI G (S.blk sc) (setT tg (unk Γ own)) true k2 args2 t it)
      (fun sc ifs => kIfs ifs cond2 fun x => chk G (S.blk sc) (setT tg2 (unk (setT tg (unk Γ own)) (tgSlots tg2))) .t cond2 x) (fun sc x => chk G (S.blk sc) (setT tg2 (unk (setT tg (unk Γ own)) (tgSlots tg2))) (.j .p) elt x)
  | .dct _, _ => false
  | .dnew _, _ => false
  | .dix t a b, e => okP m && kIx e (fun x => chk G S Γ (.d t) a x) (fun x => chk G S Γ .b b x)
  | .din t neg a b, e => okP m && kDin neg e (fun x => chk G S Γ .b a x) (fun x => chk G S Γ (.d t) b x)
  | .dget t a b c, e => okP m && kGet e (fun x => chk G S Γ (.d t) a x) (fun x => chk G S Γ .b b x) (fun x => chk G S Γ (.j .p) c x)
  | .isi k a, e => okP m && kIsi e (fun x => bWord G S x "isinstance") (fun x => bWord G S x (kcW k).1) (fun x => chk G S Γ .b a x)
  | .dcp _, _ => false
  | .dlen _ _, _ => false
  | .dcomp _ _ _ _ _ _ _, _ => false
  | .stx i n, e => okP m && decide (ty Γ i = .st) && kStx e (nameB S i) n
  | .clen i, e => okP m && decide (ty Γ i = .cl) && kCall1 e (fun x => bWord G S x "len") (nameB S i)
  | .cix i a, e => okP m && decide (ty Γ i = .cl) && kIx e (nameB S i) (fun x => chk G S Γ .b a x)
  | .dcst kvs a, e => okP m && (kvs.all (fun p => plainC p.2) && decide (0 < kvs.length ∧ kvs.length ≤ 15)) && kDcst e kvs (fun x => chk G S Γ .b a x)
/-- written items: frozen data -/
def chkPs (G : PG0) (S : SC) (Γ : List Ty) : List IE → List Expr → Bool
  | [], es => kNil es
  | a :: as, es => kCons es (fun x => chk G S Γ (.j .p) a x) (fun xs => chkPs G S Γ as xs)
/-- operands -/
def chkBs (G : PG0) (S : SC) (Γ : List Ty) : List IE → List Expr → Bool
  | [], es => kNil es
  | a :: as, es => kCons es (fun x => chk G S Γ .b a x) (fun xs => chkBs G S Γ as xs)
/-- arguments by their kinds -/
def chkAs (G : PG0) (S : SC) (Γ : List Ty) : List IE → List Ty → List Expr → Bool
  | [], ts, es => ts.isEmpty && kNil es
  | a :: as, ts, es => (match ts with | t :: ts => kCons es (fun x => chk G S Γ (.j t) a x) (fun xs => chkAs G S Γ as ts xs) | [] => false)
/-- what is walked: pure, what stays while a body runs -/
def chkI (G : PG0) (S : SC) (Γ : List Ty) (pure : Bool) (k : IK) : List IE → Expr → Expr → Bool
  | [], _, _ => false
  | a :: as, tg, e => (match k with
    | .seq => as.isEmpty && chk G S Γ (pM pure) a e
    | .r1 => as.isEmpty && kCall1 e (fun x => bWord G S x "range") (fun x => chk G S Γ .b a x)
    | .r2 => kCall2 e (fun x => bWord G S x "range") (fun x => chk G S Γ .b a x) (fun x => chkBs G S Γ as [x])
    | .enum => isTup tg && as.isEmpty && kCall1 e (fun x => bWord G S x "enumerate") (fun x => chk G S Γ (pM pure) a x)
    | .zip => isTup tg && kCall2 e (fun x => bWord G S x "zip") (fun x => chk G S Γ (.j .p) a x) (fun x => chkPs G S Γ as [x])
    | .items => false)
end
section
variable {e : Expr} {f g k : Expr → Bool}
theorem and_t {a b : Bool} (h : (a && b) = true) : a = true ∧ b = true := by rwa [Bool.and_eq_true] at h
theorem kV_inv {f : Str → Bool} (h : kV e f = true) : ∃ x p, e = .Name x p ∧ f x = true := by
  unfold kV at h; split at h <;> first | exact ⟨_, _, rfl, h⟩ | cases h
theorem kTup_inv {f : List Expr → Bool} (h : kTup e f = true) : ∃ es j p, e = .Tuple es j p ∧ f es = true := by
  unfold kTup at h; split at h <;> first | exact ⟨_, _, _, rfl, h⟩ | cases h
theorem kLst_inv {f : List Expr → Bool} (h : kLst e f = true) : ∃ es p, e = .List es p ∧ f es = true := by
  unfold kLst at h; split at h <;> first | exact ⟨_, _, rfl, h⟩ | cases h
theorem kBin_inv {o : BOp} (h : kBin o e f g = true) : ∃ a b p, e = .BinOp a (opA o) b p ∧ f a = true ∧ g b = true := by
  unfold kBin at h; split at h <;> first | (obtain ⟨⟨h1, h2⟩, h3⟩ := (by simpa only [Bool.and_eq_true] using h : (_ ∧ _) ∧ _); cases opB_eq h1; exact ⟨_, _, _, rfl, h2, h3⟩) | cases h
theorem kCmp_inv {o : COp} (h : kCmp o e f g = true) : ∃ a b p, e = .Compare a [copA o] [b] p ∧ noSet b = true ∧ f a = true ∧ g b = true := by
  unfold kCmp at h; split at h <;> first | (obtain ⟨⟨⟨h1, h2⟩, h3⟩, h4⟩ := (by simpa only [Bool.and_eq_true] using h : ((_ ∧ _) ∧ _) ∧ _); cases copB_eq h1; exact ⟨_, _, _, rfl, h2, h3, h4⟩) | cases h
theorem kCmp2_inv {o o' : COp} (h : kCmp2 o o' e f g k = true) : ∃ a b c p, e = .Compare a [copA o, copA o'] [b, c] p ∧ noSet c = true ∧ f a = true ∧ g b = true ∧ k c = true := by
  unfold kCmp2 at h; split at h <;> first | (obtain ⟨⟨⟨⟨⟨h1, h2⟩, h3⟩, h4⟩, h5⟩, h6⟩ := (by simpa only [Bool.and_eq_true] using h : ((((_ ∧ _) ∧ _) ∧ _) ∧ _) ∧ _); cases copB_eq h1; cases copB_eq h2; exact ⟨_, _, _, _, rfl, h3, h4, h5, h6⟩) | cases h
theorem kDin_inv {neg : Bool} (h : kDin neg e f g = true) : ∃ a b p, e = .Compare a [dinOp neg] [b] p ∧ noSet b = true ∧ f a = true ∧ g b = true := by
  unfold kDin at h; split at h <;> first | (obtain ⟨h1, h3⟩ := and_t h; obtain ⟨h1, h2⟩ := and_t h1; exact ⟨_, _, _, rfl, h1, h2, h3⟩) | cases h
theorem kGet_inv (h : kGet e f g k = true) : ∃ a ap b c cp, e = .Call (.Attribute a "get" ap) [b, c] [] cp ∧ plainBase a = true ∧ unstar b = true ∧ unstar c = true ∧ (ap.endLine == cp.line) = true ∧ f a = true ∧ g b = true ∧ k c = true := by
  unfold kGet at h; split at h <;> first | (obtain ⟨h1, h8⟩ := and_t h; obtain ⟨h1, h7⟩ := and_t h1; obtain ⟨h1, h6⟩ := and_t h1; obtain ⟨h1, h5⟩ := and_t h1; obtain ⟨h1, h4⟩ := and_t h1; obtain ⟨h1, h3⟩ := and_t h1; obtain ⟨h1, h2⟩ := and_t h1; cases eq_of_beq h1; exact ⟨_, _, _, _, _, rfl, h2, h3, h4, h5, h6, h7, h8⟩) | cases h
theorem kIsi_inv {f g : Str → Bool} {k : Expr → Bool} (h : kIsi e f g k = true) : ∃ x p a y p2 pos, e = .Call (.Name x p) [a, .Name y p2] [] pos ∧ unstar a = true ∧ f x = true ∧ g y = true ∧ k a = true := by
  unfold kIsi at h; split at h <;> first | (obtain ⟨h1, h4⟩ := and_t h; obtain ⟨h1, h3⟩ := and_t h1; obtain ⟨h1, h2⟩ := and_t h1; exact ⟨_, _, _, _, _, _, rfl, h1, h2, h3, h4⟩) | cases h
theorem kIs_inv (h : kIs e f = true) : ∃ a j p p', e = .Compare a [.Is] [.Constant .none j p] p' ∧ f a = true := by
  unfold kIs at h; split at h <;> first | exact ⟨_, _, _, _, rfl, h⟩ | cases h
theorem kIsNot_inv (h : kIsNot e f = true) : ∃ a j p p', e = .Compare a [.IsNot] [.Constant .none j p] p' ∧ f a = true := by
  unfold kIsNot at h; split at h <;> first | exact ⟨_, _, _, _, rfl, h⟩ | cases h
theorem kAnd_inv (h : kAnd e f g = true) : ∃ a b rest p, e = .BoolOp .And (a :: b :: rest) p ∧ f a = true ∧ ((rest = [] ∧ g b = true) ∨ g (.BoolOp .And (b :: rest) p) = true) := by
  unfold kAnd at h
  split at h
  · obtain ⟨h1, h2⟩ := and_t h
    refine ⟨_, _, _, _, rfl, h1, ?_⟩
    split at h2
    · rename_i q; exact .inl ⟨List.isEmpty_iff.mp q, h2⟩
    · exact .inr h2
  · cases h
theorem kOr_inv (h : kOr e f g = true) : ∃ a b rest p, e = .BoolOp .Or (a :: b :: rest) p ∧ f a = true ∧ ((rest = [] ∧ g b = true) ∨ g (.BoolOp .Or (b :: rest) p) = true) := by
  unfold kOr at h
  split at h
  · obtain ⟨h1, h2⟩ := and_t h
    refine ⟨_, _, _, _, rfl, h1, ?_⟩
    split at h2
    · rename_i q; exact .inl ⟨List.isEmpty_iff.mp q, h2⟩
    · exact .inr h2
  · cases h
theorem kNot_inv (h : kNot e f = true) : ∃ a p, e = .UnaryOp .Not a p ∧ f a = true := by
  unfold kNot at h; split at h <;> first | exact ⟨_, _, rfl, h⟩ | cases h
theorem kIte_inv (h : kIte e f g k = true) : ∃ c a b p, e = .IfExp c a b p ∧ f c = true ∧ g a = true ∧ k b = true := by
  unfold kIte at h; split at h <;> first | (obtain ⟨h1, h3⟩ := and_t h; obtain ⟨h1, h2⟩ := and_t h1; exact ⟨_, _, _, _, rfl, h1, h2, h3⟩) | cases h
theorem kIx_inv (h : kIx e f g = true) : ∃ a b p, e = .Subscript a b p ∧ noSlice b = true ∧ f a = true ∧ g b = true := by
  unfold kIx at h; split at h <;> first | (obtain ⟨h1, h3⟩ := and_t h; obtain ⟨h1, h2⟩ := and_t h1; exact ⟨_, _, _, rfl, h1, h2, h3⟩) | cases h
theorem kSlF_inv (h : kSlF e f g = true) : ∃ a b p p', e = .Subscript a (.Slice (some b) none none p) p' ∧ f a = true ∧ g b = true := by
  unfold kSlF at h; split at h <;> first | (obtain ⟨h1, h2⟩ := and_t h; exact ⟨_, _, _, _, rfl, h1, h2⟩) | cases h
theorem kSlT_inv (h : kSlT e f g = true) : ∃ a b p p', e = .Subscript a (.Slice none (some b) none p) p' ∧ f a = true ∧ g b = true := by
  unfold kSlT at h; split at h <;> first | (obtain ⟨h1, h2⟩ := and_t h; exact ⟨_, _, _, _, rfl, h1, h2⟩) | cases h
theorem kSlB_inv (h : kSlB e f g k = true) : ∃ a b c p p', e = .Subscript a (.Slice (some b) (some c) none p) p' ∧ f a = true ∧ g b = true ∧ k c = true := by
  unfold kSlB at h; split at h <;> first | (obtain ⟨h1, h3⟩ := and_t h; obtain ⟨h1, h2⟩ := and_t h1; exact ⟨_, _, _, _, _, rfl, h1, h2, h3⟩) | cases h
theorem kRev_inv (h : kRev e f = true) : ∃ a j p1 p2 p3 p, e = .Subscript a (.Slice none none (some (.UnaryOp .USub (.Constant (.int 1) j p1) p2)) p3) p ∧ f a = true := by
  unfold kRev at h; split at h <;> first | (obtain ⟨h1, h2⟩ := and_t h; cases of_decide_eq_true h1; exact ⟨_, _, _, _, _, _, rfl, h2⟩) | cases h
theorem kCall1_inv {f : Str → Bool} (h : kCall1 e f g = true) : ∃ x p a p', e = .Call (.Name x p) [a] [] p' ∧ unstar a = true ∧ f x = true ∧ g a = true := by
  unfold kCall1 at h; split at h <;> first | (obtain ⟨h1, h3⟩ := and_t h; obtain ⟨h1, h2⟩ := and_t h1; exact ⟨_, _, _, _, rfl, h1, h2, h3⟩) | cases h
theorem kCallC_inv {f : Str → Bool} {g' : Str → Bool} {k : Expr → Bool} (h : kCallC e f g' k = true) : ∃ x p y p2 a q2 pos, e = .Call (.Name x p) [.Call (.Name y p2) [a] [] q2] [] pos ∧ unstar a = true ∧ f x = true ∧ g' y = true ∧ k a = true := by
  unfold kCallC at h; split at h <;> first | (obtain ⟨h1, h4⟩ := and_t h; obtain ⟨h1, h3⟩ := and_t h1; obtain ⟨h1, h2⟩ := and_t h1; exact ⟨_, _, _, _, _, _, _, rfl, h1, h2, h3, h4⟩) | cases h
theorem kCall2_inv {f : Str → Bool} (h : kCall2 e f g k = true) : ∃ x p a b p', e = .Call (.Name x p) [a, b] [] p' ∧ unstar a = true ∧ unstar b = true ∧ f x = true ∧ g a = true ∧ k b = true := by
  unfold kCall2 at h; split at h <;> first | (obtain ⟨h1, h5⟩ := and_t h; obtain ⟨h1, h4⟩ := and_t h1; obtain ⟨h1, h3⟩ := and_t h1; obtain ⟨h1, h2⟩ := and_t h1; exact ⟨_, _, _, _, _, rfl, h1, h2, h3, h4, h5⟩) | cases h
theorem kCall_inv {f : Str → Bool} {g : List Expr → Bool} (h : kCall e f g = true) : ∃ x p es p', e = .Call (.Name x p) es [] p' ∧ es.all unstar = true ∧ noMagic x = true ∧ f x = true ∧ g es = true := by
  unfold kCall at h; split at h <;> first | (obtain ⟨h1, h4⟩ := and_t h; obtain ⟨h1, h3⟩ := and_t h1; obtain ⟨h1, h2⟩ := and_t h1; exact ⟨_, _, _, _, rfl, h1, h2, h3, h4⟩) | cases h
theorem kIndex_inv (h : kIndex e f g = true) : ∃ a ap b cp, e = .Call (.Attribute a "index" ap) [b] [] cp ∧ plainBase a = true ∧ unstar b = true ∧ (ap.endLine == cp.line) = true ∧ f a = true ∧ g b = true := by
  unfold kIndex at h; split at h <;> first | (obtain ⟨h1, h6⟩ := and_t h; obtain ⟨h1, h5⟩ := and_t h1; obtain ⟨h1, h4⟩ := and_t h1; obtain ⟨h1, h3⟩ := and_t h1; obtain ⟨h1, h2⟩ := and_t h1; cases eq_of_beq h1; exact ⟨_, _, _, _, rfl, h2, h3, h4, h5, h6⟩) | cases h
theorem kComp_inv {f : Scope → Bool} {g : Scope → Expr → Bool} {k : Expr → Expr → Bool} {c : Scope → List Expr → Bool} {w : Scope → Expr → Bool} (h : kComp e f g k c w = true) :
    ∃ elt tg it ifs sc p, e = .ListComp elt [⟨tg, it, ifs, 0⟩] sc p ∧ f sc = true ∧ noSet it = true ∧ g sc tg = true ∧ k tg it = true ∧ c sc ifs = true ∧ w sc elt = true := by
  unfold kComp at h; split at h <;> first | (obtain ⟨h1, h6⟩ := and_t h; obtain ⟨h1, h5⟩ := and_t h1; obtain ⟨h1, h4⟩ := and_t h1; obtain ⟨h1, h3⟩ := and_t h1; obtain ⟨h1, h2⟩ := and_t h1; exact ⟨_, _, _, _, _, _, rfl, h1, h2, h3, h4, h5, h6⟩) | cases h
theorem kComp2_inv {f : Scope → Bool} {g : Scope → Expr → Bool} {k : Expr → Expr → Bool} {c : Scope → List Expr → Bool} {g2 : Scope → Expr → Bool} {k2 : Scope → Expr → Expr → Bool} {c2 : Scope → List Expr → Bool} {w : Scope → Expr → Bool} (h : kComp2 e f g k c g2 k2 c2 w = true) :
    ∃ elt tg it ifs tg2 it2 ifs2 sc p, e = .ListComp elt [⟨tg, it, ifs, 0⟩, ⟨tg2, it2, ifs2, 0⟩] sc p ∧ f sc = true ∧ noSet it = true ∧ g sc tg = true ∧ k tg it = true ∧ c sc ifs = true ∧ noSet it2 = true ∧ g2 sc tg2 = true ∧ k2 sc tg2 it2 = true ∧ c2 sc ifs2 = true ∧ w sc elt = true := by
  unfold kComp2 at h; split at h <;> first | (obtain ⟨h1, h6⟩ := and_t h; obtain ⟨h1, h5⟩ := and_t h1; obtain ⟨h1, h4⟩ := and_t h1; obtain ⟨h1, h3⟩ := and_t h1; obtain ⟨h1, h2⟩ := and_t h1; obtain ⟨h6, h10⟩ := and_t h6; obtain ⟨h6, h9⟩ := and_t h6; obtain ⟨h6, h8⟩ := and_t h6; obtain ⟨h6, h7⟩ := and_t h6; exact ⟨_, _, _, _, _, _, _, _, _, rfl, h1, h2, h3, h4, h5, h6, h7, h8, h9, h10⟩) | cases h
theorem kStx_inv {n : Nat} (h : kStx e f n = true) : ∃ a j p p', e = .Subscript a (.Constant (.int (n : Nat)) j p) p' ∧ f a = true := by
  unfold kStx at h; split at h <;> first | (obtain ⟨h1, h2⟩ := and_t h; cases of_decide_eq_true h1; exact ⟨_, _, _, _, rfl, h2⟩) | cases h
theorem kDcst_inv {kvs : List (Str × D)} (h : kDcst e kvs f = true) : ∃ ks vs p b p', e = .Subscript (.Dict ks vs p) b p' ∧ noSlice b = true ∧ keysB ks vs kvs = true ∧ f b = true := by
  unfold kDcst at h; split at h <;> first | (obtain ⟨h1, h3⟩ := and_t h; obtain ⟨h1, h2⟩ := and_t h1; exact ⟨_, _, _, _, _, rfl, h1, h2, h3⟩) | cases h
theorem kNil_inv {es : List Expr} (h : kNil es = true) : es = [] := by
  unfold kNil at h; split at h <;> first | rfl | cases h
theorem kCons_inv {es : List Expr} {g : List Expr → Bool} (h : kCons es f g = true) : ∃ a as, es = a :: as ∧ unstar a = true ∧ f a = true ∧ g as = true := by
  unfold kCons at h; split at h <;> first | (obtain ⟨h1, h3⟩ := and_t h; obtain ⟨h1, h2⟩ := and_t h1; exact ⟨_, _, rfl, h1, h2, h3⟩) | cases h
end
end Ev
set_option Elab.async false
set_option linter.all false
set_option maxRecDepth 100000
set_option autoImplicit false
/-! Ev14: what the look has seen is sound: expressions. -/
namespace Ev
open PySem PySem.Spec PyProof.Rows L2
structure CO (G : PG0) (n : Nat) (X : Cx) (S : SC) : Prop where
  N : X.N = S.N
  nd : S.N.Nodup
  nm : X.env.scope.names = S.nm
  kd : X.env.scope.kind = .function
  calm : X.calm = true
  xe : X.xe = fun _ _ => False
  room : Room n X.A
  fn : ∀ x, (match S.bn with | none => True | some l => l.lookup x = some NameKind.cell) → X.fn x = true
  bl : ∀ x ∈ G.bl, X.mg x = none
  calls : ∀ f fd x, G.P[f]? = some fd → G.fn[f]? = some x → ∃ fa fdt ps, FnOk X.prog X.w X.K X.mg X.base CX0 n fa fdt ps (spC (callF G.P n) fd.pty fd.res f) ∧ X.mg x = some (.ref fa) ∧ PySem.W.keepIn X.K (.ref fa) = true ∧ Binds X.K fdt ps []
  gd : S.gd = true → X.A.guards = some []
def isBoolOp : Expr → Bool
  | .BoolOp .. => true
  | _ => false
def Good (cf : CF) (Γ : List Ty) (X : Cx) : Mode → IE → Expr → Prop
  | .j t, ie, e => PE X e (tJ cf Γ ie t)
  | .b, ie, e => PE X e (tB cf Γ ie)
  | .d t, ie, e => PE X e (tD cf Γ t ie)
  | .t, ie, e => PT X e (tT cf Γ ie) ∧ (isBoolOp e = true → PW X e (tT cf Γ ie))
  | .o, ie, e => PE X e (tO cf Γ ie)
def valTest : Expr → Bool
  | .UnaryOp .Not _ _ => false
  | .BoolOp .. => false
  | .IfExp .. => false
  | .Compare .. => false
  | _ => true
theorem val_isTrue {e : Expr} (h : valTest e = true) (env : PySem.Env) (whole : Sem Value) : isTrue e env whole = (do let v ← whole; standAt e.pos; holding [v] (truthy v)) := by
  cases e with
  | UnaryOp op x p => cases op <;> first | rfl | cases h
  | BoolOp => cases h
  | IfExp => cases h
  | Compare => cases h
  | _ => rfl
section
variable {cf : CF} {Γ : List Ty} {X : Cx} {G : PG0} {n : Nat} {S : SC}
theorem val_nb {e : Expr} (h : valTest e = true) : isBoolOp e = false := by
  cases e <;> first | rfl | cases h
theorem pt_nb {e : Expr} {t : TT} (h : PT X e t) (hn : isBoolOp e = false) : PT X e t ∧ (isBoolOp e = true → PW X e t) := ⟨h, fun q => by rw [hn] at q; cases q⟩
theorem good_p {m : Mode} {ie : IE} {e : Expr} (hm : okP m = true) (h : PE X e (tJ cf Γ ie .p)) (hv : valTest e = true) : Good cf Γ X m ie e := by
  cases m with
  | j t => cases t <;> first | exact h | cases hm
  | b => exact jb_of h
  | t => exact pt_nb (jt_val (jb_of h) (val_isTrue hv _)) (val_nb hv)
  | _ => cases hm
theorem good_t {m : Mode} {ie : IE} {e : Expr} (hm : okP m = true) (h : PE X e (tJ cf Γ ie .p)) (ht : PT X e (tT cf Γ ie)) (hn : isBoolOp e = false) : Good cf Γ X m ie e := by
  cases m with
  | j t => cases t <;> first | exact h | cases hm
  | b => exact jb_of h
  | t => exact pt_nb ht hn
  | _ => cases hm
theorem CO.hu (c : CO G n X S) : X.A.units + 150 < cLine := by
  have := c.room.un
  omega
theorem CO.vis (c : CO G n X S) {x : Str} (h : visB S x = true) : Vis X.env.scope x := by
  unfold Vis
  rw [c.nm]
  unfold visB at h
  split at h
  · rename_i e; exact .inl e
  · rename_i e; exact .inr (.inl e)
  · rename_i e; exact .inr (.inr e)
  · cases h
theorem CO.loc (c : CO G n X S) {x : Str} (h : locB S x = true) : L2.Loc X.env.scope x ∧ (X.fn x = true ∨ X.env.scope.names.lookup x = some .local) := by
  unfold L2.Loc
  rw [c.nm]
  unfold locB at h
  split at h
  · rename_i e; exact ⟨.inl e, .inr e⟩
  · rename_i e
    refine ⟨.inr e, .inl (c.fn x ?_)⟩
    cases q : S.bn with
    | none => trivial
    | some l =>
      rw [q] at h
      exact of_decide_eq_true h
  · cases h
theorem CO.gl (c : CO G n X S) {x : Str} (h : glB S x = true) : Gl X x := by
  unfold Gl Env.kindOf
  rw [c.nm]
  exact of_decide_eq_true h
theorem magic_of {x : Str} (h : noMagic x = true) : (x == ("__debug__" : Str)) = false ∧ (x == ("__classdict__" : Str)) = false := by
  unfold noMagic at h
  simpa using h
theorem CO.var (c : CO G n X S) {i : Nat} {x : Str} {pos : Pos} (h1 : S.N[i]? = some x) (h2 : visB S x = true) (h3 : noMagic x = true) : PE X (.Name x pos) (tVar i) :=
  pe_var (by rw [c.N]; exact h1) (c.vis h2) (magic_of h3).1 (magic_of h3).2
theorem good_v (c : CO G n X S) {m : Mode} {i : Nat} {x : Str} {pos : Pos} (h : chkV S Γ m i x = true) : Good cf Γ X m (.v i) (.Name x pos) := by
  unfold chkV at h
  simp only [Bool.and_eq_true, decide_eq_true_eq] at h
  obtain ⟨⟨⟨h1, h2⟩, h3⟩, h4⟩ := h
  have hv := c.var (pos := pos) h1 h2 h3
  cases m with
  | j t =>
    simp only [Bool.and_eq_true, Bool.or_eq_true, decide_eq_true_eq] at h4
    exact je_v hv h4.1 (by rcases h4.2 with ((h | h) | h) | h <;> simp [h])
  | b => exact jb_v hv (by simpa using h4)
  | t => exact pt_nb (jt_val (jb_v hv (by simpa using h4)) (val_isTrue rfl _)) rfl
  | d t => exact jd_v hv (by simpa using h4)
  | o => cases h4
theorem good_c {m : Mode} {d : D} {e : Expr} (hm : okP m = true) (h : chkC d e = true) : Good cf Γ X m (.c d) e := by
  unfold chkC at h
  split at h
  · split at h <;> first | cases h | skip
    cases of_decide_eq_true h
    exact good_p hm (je_c pe_int fun B => .int _) rfl
  · split at h <;> first | cases h | skip
    cases of_decide_eq_true h
    exact good_p hm (je_c pe_bl fun B => .bl _) rfl
  · split at h <;> first | cases h | skip
    exact good_p hm (je_c pe_non fun B => .non) rfl
  · split at h <;> first | cases h | skip
    rw [Bool.and_eq_true, decide_eq_true_eq] at h
    obtain ⟨rfl, h2⟩ := h
    exact good_p hm (je_c pe_str fun B => .str _ h2) rfl
  · split at h <;> first | cases h | skip
    cases of_decide_eq_true h
    refine good_p hm (je_c (PEw (t' := tC (.int _)) (pe_un un_neg pe_int) fun σ H Q q => ?_) fun B => .int _) rfl
    exact ⟨_, rfl, q⟩
  · cases h
theorem noSet_ne {e : Expr} (h : noSet e = true) : ∀ es k p, e ≠ .Set es k p := fun es k p z => by
  subst z
  cases h
/-! ### blocks -/
theorem ownOf_snd (S : SC) (own : List Nat) : (ownOf S own).map (·.2) = own := by
  unfold ownOf
  rw [List.map_map]
  induction own with
  | nil => rfl
  | cons a r ih => rw [List.map_cons, ih]; rfl
theorem blk_ok (c : CO G n X S) {scope : Scope} {own : List Nat} (h : blkB S scope own = true) : BlkOk X.N X.env.scope scope (ownOf S own) := by
  unfold blkB at h
  simp only [Bool.and_eq_true, decide_eq_true_eq, List.all_eq_true] at h
  obtain ⟨⟨⟨⟨h1, h2⟩, h3⟩, h4⟩, h5⟩ := h
  refine ⟨h1, h2, fun p hp => ?_, fun y hy e => ?_, fun y hy e => ?_⟩
  · unfold ownOf at hp
    obtain ⟨i, hi, rfl⟩ := List.mem_map.mp hp
    have hl := h3 i hi
    rw [c.N]
    show S.N[i]? = some (S.N.getD i _)
    rw [List.getD_eq_getElem?_getD, List.getElem?_eq_getElem hl]
    rfl
  · have q := h4 y hy
    rw [e] at q
    rw [c.nm]
    simpa using q
  · have q := h5 y hy
    have e' : (y.2 == NameKind.local || y.2 == NameKind.cell) = true := by
      rcases e with e | e <;> rw [e] <;> rfl
    rw [e', if_pos rfl] at q
    rw [Bool.or_eq_true] at q
    rcases q with q | q
    · left
      rw [List.any_eq_true] at q
      obtain ⟨p, hp, hpe⟩ := q
      exact List.mem_map.mpr ⟨p, hp, by simpa using hpe⟩
    · right
      rw [c.N]
      intro hm
      rw [List.contains_iff_mem.mpr hm] at q
      cases q
theorem blk_co (c : CO G n X S) {scope : Scope} {own : List Nat} (h : blkB S scope own = true) (s : Shared) (H : Hp) (C : Addr) (cl : List (Str × Addr)) (fp : List Addr) : CO G n (X.blk s H scope (compEnvC scope cl C X.env) fp) (S.blk scope) := by
  have hk : scope.kind = .function := by
    unfold blkB at h
    simp only [Bool.and_eq_true, decide_eq_true_eq] at h
    exact h.1.1.1.1
  refine ⟨c.N, c.nd, ?_, hk, c.calm, rfl, c.room, fun x hx => ?_, c.bl, c.calls, c.gd⟩
  · show (scope.names.map fun (p : Str × NameKind) => if (p.2 == NameKind.free && X.env.scope.kind == .function && X.env.kindOf p.1 == some .cell) then (p.1, NameKind.cell) else (p.1, p.2)) = relN scope.names S.nm
    unfold relN
    apply List.map_congr_left
    intro p _
    have e1 : X.env.kindOf p.1 = S.nm.lookup p.1 := by unfold Env.kindOf; rw [c.nm]
    rw [c.kd, e1]
    simp
  · show (scope.names.lookup x == some NameKind.cell) = true
    have hx : scope.names.lookup x = some NameKind.cell := hx
    rw [hx]
    rfl
/-! ### targets -/
mutual
theorem tg_ok (c : CO G n X S) : ∀ (t : Tg) (e : Expr), chkTg S t e = true → PG X e (gT t)
  | .n i, e, h => by
    simp only [chkTg] at h
    split at h
    · simp only [Bool.and_eq_true, decide_eq_true_eq] at h
      obtain ⟨h1, h2⟩ := c.loc h.2
      exact gt_n (pg_name (by rw [c.N]; exact c.nd) (by rw [c.N]; exact h.1) h1 h2)
    · cases h
  | .t ts, e, h => by
    simp only [chkTg] at h
    split at h
    · obtain ⟨h1, h2, h3⟩ := tgs_ok c ts _ h
      exact gt_t c.calm h1 h2 h3
    · cases h
  | .l ts, e, h => by
    simp only [chkTg] at h
    split at h
    · obtain ⟨h1, h2, h3⟩ := tgs_ok c ts _ h
      exact gt_l c.calm h1 h2 h3
    · cases h
theorem tgs_ok (c : CO G n X S) : ∀ (ts : List Tg) (es : List Expr), chkTgs S ts es = true → PGs X es (gTs ts) ∧ es.all unstar = true ∧ es.length = ts.length
  | [], es, h => by
    simp only [chkTgs] at h
    split at h
    · exact ⟨gt_nil, rfl, rfl⟩
    · cases h
  | t :: ts, es, h => by
    simp only [chkTgs] at h
    split at h
    · rename_i e es
      simp only [Bool.and_eq_true] at h
      obtain ⟨h1, h2, h3⟩ := tgs_ok c ts es h.2
      refine ⟨gt_cons (tg_ok c t e h.1.2) h1 ?_, by rw [List.all_cons, h.1.1, h2]; rfl, by rw [List.length_cons, List.length_cons, h3]⟩
      have := h.1.1
      cases e <;> first | rfl | cases this
    · cases h
end
theorem word_ok (c : CO G n X S) {x y : Str} (h : bWord G S x y = true) : x = y ∧ Gl X x ∧ X.mg x = none := by
  unfold bWord at h
  simp only [Bool.and_eq_true, beq_iff_eq] at h
  exact ⟨h.1.1, c.gl h.1.2, c.bl x (List.contains_iff_mem.mp h.2)⟩
theorem tup_of {tg : Expr} (h : isTup tg = true) : ∃ es k p, tg = .Tuple es k p := by
  cases tg <;> first | exact ⟨_, _, _, rfl⟩ | cases h
end
end Ev
set_option Elab.async false
set_option linter.all false
set_option maxRecDepth 100000
set_option autoImplicit false
/-! Ev15: what the look has seen is sound. -/
namespace Ev
open PySem PySem.Spec PyProof.Rows L2
theorem folded_ok {e : Expr} (h : noSet e = true) (env : PySem.Env) (x : Value) : foldedSetIterable e env x = pure x := by
  unfold foldedSetIterable
  cases e <;> first | rfl | cases h
section
variable {cf : CF} {Γ : List Ty} {X : Cx}
theorem tt_yes {own : List Nat} : ∀ {σ : L2.St} {H : Hp} {Q : Bool → Hp → Prop}, tT cf Γ .yes σ H Q → tYes σ H Q := by
  intro σ H Q ⟨W, fp, γ, τ, b, τ', w, sl, e, q⟩
  simp only [tst, evalE, Option.bind_some, truth, Option.map_some, Option.some.injEq, Prod.mk.injEq] at e
  obtain ⟨rfl, rfl⟩ := e
  exact q W H (FrE.refl W H) w
theorem PTsw {ifs : List Expr} {t t' : TT} (h : PTs X ifs t) (w : ∀ σ H Q, t' σ H Q → t σ H Q) : PTs X ifs t' := ⟨fun pins s σ H Q I h' => h.run pins s σ H Q I (w σ H Q h')⟩
theorem ifs_ok {ifs : List Expr} {cond : IE} {f : Expr → Bool} (h : kIfs ifs cond f = true) (ih : ∀ e, f e = true → PT X e (tT cf Γ cond)) : PTs X ifs (tT cf Γ cond) := by
  unfold kIfs at h
  split at h
  · unfold isYes at h
    split at h
    · exact PTsw pts_nil fun σ H Q q => tt_yes (own := []) q
    · cases h
  · exact pts_one (ih _ h)
  · cases h
theorem all_sub {a b : List Nat} (h : a.all b.contains = true) : ∀ i ∈ a, i ∈ b := fun i m => by
  rw [List.all_eq_true] at h
  exact List.contains_iff_mem.mp (h i m)
theorem okP_cases {m : Mode} (h : okP m = true) : m = .j .p ∨ m = .b ∨ m = .t := by
  cases m with
  | j t => cases t <;> first | exact .inl rfl | cases h
  | b => exact .inr (.inl rfl)
  | t => exact .inr (.inr rfl)
  | _ => cases h
theorem okPo_cases {m : Mode} (h : (okP m || decide (m = .o)) = true) : okP m = true ∨ m = .o := by
  simpa using h
theorem good_o {m : Mode} {ie : IE} {e : Expr} (hm : okP m = true ∨ m = .o) (h : PE X e (tO cf Γ ie)) (hv : valTest e = true) : Good cf Γ X m ie e := by
  rcases hm with hm | rfl
  · exact good_p hm (jo_j h) hv
  · exact h
end
section
variable {G : PG0} {n : Nat}
theorem CO.call1 {X : Cx} {S : SC} {Γ : List Ty} (c : CO G n X S) {m : Mode} {f : Nat} {es : List IE} {x : Str} {p p' : Pos} {es' : List Expr} {fd : Fd} (h1 : es'.all unstar = true) (h2 : noMagic x = true) (h3 : G.fn[f]? = some x) (h4 : glB S x = true) (hf : G.P[f]? = some fd) (hm : resOk m fd.res = true)
    (ha : PA X es' (tJs (callF G.P n) Γ es fd.pty)) (hl : es'.length = es.length ∧ es.length = fd.pty.length) : Good (callF G.P n) Γ X m (.call f es) (.Call (.Name x p) es' [] p') := by
  obtain ⟨fa, fdt, ps, F, hmg, hk, hb⟩ := c.calls f fd x hf h3
  have main : PE X (.Call (.Name x p) es' [] p') (tJ (callF G.P n) Γ (.call f es) fd.res) := by
    cases es' with
    | nil =>
      cases es with
      | nil =>
        have e0 : fd.pty = [] := List.length_eq_zero_iff.mp hl.2.symm
        rw [e0] at F
        exact je_call0 F c.room (c.gl h4) hmg hk hb (magic_of h2).1
      | cons a as => cases hl.1
    | cons e es' =>
      rw [List.all_cons] at h1
      obtain ⟨q1, q2⟩ := and_t h1
      exact je_call F c.room (c.gl h4) hmg hk hb ha (magic_of h2).1 (star_cons q1 es' _) (star_any q2 _ _)
  cases m with
  | j t =>
    cases of_decide_eq_true hm
    exact main
  | b =>
    have e : fd.res = .p := of_decide_eq_true hm
    rw [e] at main
    exact jb_of main
  | t =>
    have e : fd.res = .p := of_decide_eq_true hm
    rw [e] at main
    exact pt_nb (jt_val (jb_of main) (val_isTrue rfl _)) rfl
  | d t =>
    have e : fd.res = if t then .pT else .pK := of_decide_eq_true hm
    rw [e] at main
    exact jd_of main
  | o => cases hm
/-- the clauses of a comprehension, brought together -/
theorem comp_ok {X : Cx} {S : SC} {Γ : List Ty} (c : CO G n X S) {own : List Nat} {tg : Tg} {k : IK} {args : List IE} {cond elt : IE} {elt' tg' it' : Expr} {ifs' : List Expr} {sc : Scope} {pos : Pos} (hb : blkB S sc own = true) (hn : noSet it' = true) (hown : ∀ i ∈ tgSlots tg, i ∈ own)
    (ht : chkTg (S.blk sc) tg tg' = true) (hi : PI X tg' it' (tIB (callF G.P n) Γ k args))
    (hc : ∀ {X' : Cx}, CO G n X' (S.blk sc) → PTs X' ifs' (tT (callF G.P n) (setT tg (unk Γ own)) cond)) (he : ∀ {X' : Cx}, CO G n X' (S.blk sc) → PE X' elt' (tJ (callF G.P n) (setT tg (unk Γ own)) elt .p)) :
    PE X (.ListComp elt' [⟨tg', it', ifs', 0⟩] sc pos) (tO (callF G.P n) Γ (.comp own tg k args cond elt)) := by
  have q := pe_lc (pos := pos) c.calm (by rw [c.N]; exact c.nd) hi (blk_ok c hb) (fun s H C cl fp => tg_ok (blk_co c hb s H C cl fp) tg tg' ht) (fun s H C cl fp => hc (blk_co c hb s H C cl fp)) (fun s H C cl fp => he (blk_co c hb s H C cl fp)) (fun x => folded_ok hn _ x)
  rw [ownOf_snd] at q
  exact PEw q fun σ H Q h => lc_runO hown h
theorem comp2_ok {X : Cx} {S : SC} {Γ : List Ty} (c : CO G n X S) {own : List Nat} {tg tg2 : Tg} {k k2 : IK} {args args2 : List IE} {cond cond2 elt : IE} {elt' tg' it' tg2' it2' : Expr} {ifs' ifs2' : List Expr} {sc : Scope} {pos : Pos} (hb : blkB S sc own = true) (hn : noSet it' = true) (hn2 : noSet it2' = true) (hown : ∀ i ∈ tgSlots tg, i ∈ own) (hown2 : ∀ i ∈ tgSlots tg2, i ∈ own)
    (ht : chkTg (S.blk sc) tg tg' = true) (ht2 : chkTg (S.blk sc) tg2 tg2' = true) (hi : PI X tg' it' (tIB (callF G.P n) Γ k args)) (hi2 : ∀ {X' : Cx}, CO G n X' (S.blk sc) → PI X' tg2' it2' (tI (callF G.P n) (setT tg (unk Γ own)) k2 args2))
    (hc : ∀ {X' : Cx}, CO G n X' (S.blk sc) → PTs X' ifs' (tT (callF G.P n) (setT tg (unk Γ own)) cond)) (hc2 : ∀ {X' : Cx}, CO G n X' (S.blk sc) → PTs X' ifs2' (tT (callF G.P n) (setT tg2 (unk (setT tg (unk Γ own)) (tgSlots tg2))) cond2))
    (he : ∀ {X' : Cx}, CO G n X' (S.blk sc) → PE X' elt' (tJ (callF G.P n) (setT tg2 (unk (setT tg (unk Γ own)) (tgSlots tg2))) elt .p)) :
    PE X (.ListComp elt' [⟨tg', it', ifs', 0⟩, ⟨tg2', it2', ifs2', 0⟩] sc pos) (tO (callF G.P n) Γ (.comp2 own tg k args cond tg2 k2 args2 cond2 elt)) := by
  have q := pe_lc2 (pos := pos) (vs1 := tgSlots tg2) c.calm (by rw [c.N]; exact c.nd) hi (blk_ok c hb) (by rw [ownOf_snd]; exact hown2) (fun s H C cl fp => tg_ok (blk_co c hb s H C cl fp) tg tg' ht) (fun s H C cl fp => hc (blk_co c hb s H C cl fp)) (fun s H C cl fp => hi2 (blk_co c hb s H C cl fp))
    (fun s H C cl fp => tg_ok (blk_co c hb s H C cl fp) tg2 tg2' ht2) (fun s H C cl fp => hc2 (blk_co c hb s H C cl fp)) (fun s H C cl fp => he (blk_co c hb s H C cl fp)) (fun x => folded_ok hn _ x) (fun env x => folded_ok hn2 env x)
  rw [ownOf_snd] at q
  exact PEw q fun σ H Q h => lc2_runO hown (fun i m => m) h
theorem name_ok {X : Cx} {S : SC} (c : CO G n X S) {i : Nat} {e : Expr} (h : nameB S i e = true) : PE X e (tVar i) := by
  obtain ⟨x, p, rfl, h⟩ := kV_inv (show kV e _ = true from h)
  obtain ⟨h1, h3⟩ := and_t h
  obtain ⟨h1, h2⟩ := and_t h1
  exact c.var (of_decide_eq_true h1) h2 h3
theorem pe_chkC {X : Cx} {d : D} {e : Expr} (h : chkC d e = true) : PE X e (tC (cV d)) := by
  unfold chkC at h
  split at h
  · split at h <;> first | cases h | skip
    cases of_decide_eq_true h
    exact pe_int
  · split at h <;> first | cases h | skip
    cases of_decide_eq_true h
    exact pe_bl
  · split at h <;> first | cases h | skip
    exact pe_non
  · split at h <;> first | cases h | skip
    rw [Bool.and_eq_true, decide_eq_true_eq] at h
    obtain ⟨rfl, h2⟩ := h
    exact pe_str
  · split at h <;> first | cases h | skip
    cases of_decide_eq_true h
    exact PEw (pe_un un_neg pe_int) fun σ H Q q => ⟨_, rfl, q⟩
  · cases h
theorem keys_ok {X : Cx} {p : Pos} : ∀ {ks : List (Option Expr)} {vs : List Expr} {kvs : List (Str × D)}, keysB ks vs kvs = true → PPs X p ks vs (tcs kvs) ∧ ks.all (·.isSome) = true ∧ ks.length = vs.length ∧ ks.length = kvs.length
  | ks, vs, [], h => by
    obtain ⟨h1, h2⟩ := and_t (show (ks.isEmpty && vs.isEmpty) = true by cases ks <;> exact h)
    cases List.isEmpty_iff.mp h1
    cases List.isEmpty_iff.mp h2
    exact ⟨pps_nil, rfl, rfl, rfl⟩
  | ks, vs, q :: r, h => by
    unfold keysB at h
    split at h
    · rename_i e0
      cases e0
    · rename_i e0
      cases e0
      obtain ⟨h, h3⟩ := and_t h
      obtain ⟨h1, h2⟩ := and_t h
      obtain ⟨a1, a2, a3, a4⟩ := keys_ok (X := X) (p := p) h3
      cases of_decide_eq_true h1
      exact ⟨pps_cons pe_str (pe_chkC h2) a1, by rw [List.all_cons, a2]; rfl, by rw [List.length_cons, List.length_cons, a3], by rw [List.length_cons, List.length_cons, a4]⟩
    · cases h
mutual
theorem chk_ok : ∀ (ie : IE) {S : SC} {X : Cx} {Γ : List Ty} {m : Mode} {e : Expr}, CO G n X S → chk G S Γ m ie e = true → Good (callF G.P n) Γ X m ie e
  | .v i, S, X, Γ, m, e, c, h => by
    have h : kV e (chkV S Γ m i) = true := h
    obtain ⟨x, p, rfl, h⟩ := kV_inv h
    exact good_v c h
  | .c d, S, X, Γ, m, e, c, h => by
    have h : (okP m && chkC d e) = true := h
    obtain ⟨h1, h2⟩ := and_t h
    exact good_c h1 h2
  | .yes, S, X, Γ, m, e, c, h => nomatch h
  | .tup es, S, X, Γ, m, e, c, h => by
    have h : (okP m && kTup e (fun es' => chkPs G S Γ es es' && decide (es.length ≤ 1000))) = true := h
    obtain ⟨hm, h⟩ := and_t h
    obtain ⟨es', j, p, rfl, h⟩ := kTup_inv h
    obtain ⟨h1, h2⟩ := and_t h
    exact good_p hm (je_tup (chkPs_ok es c h1).1 (by rw [sizeLine_eq]; have := of_decide_eq_true h2; omega)) rfl
  | .lst es, S, X, Γ, m, e, c, h => by
    have h : ((okP m || decide (m = .o)) && kLst e (fun es' => chkPs G S Γ es es' && decide (es.length ≤ 1000))) = true := h
    obtain ⟨hm, h⟩ := and_t h
    obtain ⟨es', p, rfl, h⟩ := kLst_inv h
    obtain ⟨h1, h2⟩ := and_t h
    exact good_o (okPo_cases hm) (jo_lst (chkPs_ok es c h1).1 (by rw [sizeLine_eq]; have := of_decide_eq_true h2; omega)) rfl
  | .bin o a b, S, X, Γ, m, e, c, h => by
    have h : (okP m && kBin o e (fun x => chk G S Γ .b a x) (fun x => chk G S Γ .b b x)) = true := h
    obtain ⟨hm, h⟩ := and_t h
    obtain ⟨a', b', p, rfl, h1, h2⟩ := kBin_inv h
    exact good_p hm (je_bin (chk_ok a c h1) (chk_ok b c h2)) rfl
  | .cmp o a b, S, X, Γ, m, e, c, h => by
    have h : (okP m && kCmp o e (fun x => chk G S Γ .b a x) (fun x => chk G S Γ .b b x)) = true := h
    obtain ⟨hm, h⟩ := and_t h
    obtain ⟨a', b', p, rfl, h0, h1, h2⟩ := kCmp_inv h
    exact good_t hm (je_cmp c.hu (chk_ok a c h1) (chk_ok b c h2) (noSet_ne h0)) (jt_cmp c.hu (chk_ok a c h1) (chk_ok b c h2) (noSet_ne h0)) rfl
  | .cmp2 o o' a b d, S, X, Γ, m, e, c, h => by
    have h : (okP m && kCmp2 o o' e (fun x => chk G S Γ .b a x) (fun x => chk G S Γ .b b x) (fun x => chk G S Γ .b d x)) = true := h
    obtain ⟨hm, h⟩ := and_t h
    obtain ⟨a', b', d', p, rfl, h0, h1, h2, h3⟩ := kCmp2_inv h
    exact good_t hm (je_cmp2 c.hu (chk_ok a c h1) (chk_ok b c h2) (chk_ok d c h3) (noSet_ne h0)) (jt_cmp2 c.hu (chk_ok a c h1) (chk_ok b c h2) (chk_ok d c h3) (noSet_ne h0)) rfl
  | .isN a, S, X, Γ, m, e, c, h => by
    have h : (okP m && kIs e (fun x => chk G S Γ .b a x)) = true := h
    obtain ⟨hm, h⟩ := and_t h
    obtain ⟨a', j, p, p', rfl, h1⟩ := kIs_inv h
    exact good_t hm (je_isN (chk_ok a c h1)) (jt_isN (chk_ok a c h1)) rfl
  | .notN a, S, X, Γ, m, e, c, h => by
    have h : (okP m && kIsNot e (fun x => chk G S Γ .b a x)) = true := h
    obtain ⟨hm, h⟩ := and_t h
    obtain ⟨a', j, p, p', rfl, h1⟩ := kIsNot_inv h
    exact good_t hm (je_notN (chk_ok a c h1)) (jt_notN (chk_ok a c h1)) rfl
  | .and a b, S, X, Γ, m, e, c, h => by
    have h : (okP m && kAnd e (fun x => chk G S Γ (tMode m (.j .p)) a x) (fun x => chk G S Γ (tMode m (.j .p)) b x)) = true := h
    obtain ⟨hm, h⟩ := and_t h
    obtain ⟨a', b', rest, p, rfl, h1, h2⟩ := kAnd_inv h
    have val : chk G S Γ (.j .p) a a' = true → (rest = [] ∧ chk G S Γ (.j .p) b b' = true) ∨ chk G S Γ (.j .p) b (.BoolOp .And (b' :: rest) p) = true → PE X (.BoolOp .And (a' :: b' :: rest) p) (tJ (callF G.P n) Γ (.and a b) .p) := fun h1 h2 => by
      refine je_and (chk_ok a c h1) ?_
      rcases h2 with ⟨e0, h3⟩ | h3
      · subst e0
        exact pe_one (chk_ok b c h3 : PE _ _ _)
      · exact chk_ok b c h3
    rcases okP_cases hm with rfl | rfl | rfl
    · exact val h1 h2
    · exact jb_of (val h1 h2)
    · have q : PW X (.BoolOp .And (a' :: b' :: rest) p) (tT (callF G.P n) Γ (.and a b)) := by
        have ga : Good (callF G.P n) Γ X .t a a' := chk_ok a c h1
        refine jw_and ga.1 ?_
        rcases h2 with ⟨e0, h3⟩ | h3
        · subst e0
          have gb : Good (callF G.P n) Γ X .t b b' := chk_ok b c h3
          exact jw_one gb.1
        · have gb : Good (callF G.P n) Γ X .t b (.BoolOp .And (b' :: rest) p) := chk_ok b c h3
          exact gb.2 rfl
      exact ⟨q.pt, fun _ => q⟩
  | .or a b, S, X, Γ, m, e, c, h => by
    have h : (okP m && kOr e (fun x => chk G S Γ (tMode m (.j .p)) a x) (fun x => chk G S Γ (tMode m (.j .p)) b x)) = true := h
    obtain ⟨hm, h⟩ := and_t h
    obtain ⟨a', b', rest, p, rfl, h1, h2⟩ := kOr_inv h
    have val : chk G S Γ (.j .p) a a' = true → (rest = [] ∧ chk G S Γ (.j .p) b b' = true) ∨ chk G S Γ (.j .p) b (.BoolOp .Or (b' :: rest) p) = true → PE X (.BoolOp .Or (a' :: b' :: rest) p) (tJ (callF G.P n) Γ (.or a b) .p) := fun h1 h2 => by
      refine je_or (chk_ok a c h1) ?_
      rcases h2 with ⟨e0, h3⟩ | h3
      · subst e0
        exact pe_one (chk_ok b c h3 : PE _ _ _)
      · exact chk_ok b c h3
    rcases okP_cases hm with rfl | rfl | rfl
    · exact val h1 h2
    · exact jb_of (val h1 h2)
    · have q : PW X (.BoolOp .Or (a' :: b' :: rest) p) (tT (callF G.P n) Γ (.or a b)) := by
        have ga : Good (callF G.P n) Γ X .t a a' := chk_ok a c h1
        refine jw_or ga.1 ?_
        rcases h2 with ⟨e0, h3⟩ | h3
        · subst e0
          have gb : Good (callF G.P n) Γ X .t b b' := chk_ok b c h3
          exact jw_one gb.1
        · have gb : Good (callF G.P n) Γ X .t b (.BoolOp .Or (b' :: rest) p) := chk_ok b c h3
          exact gb.2 rfl
      exact ⟨q.pt, fun _ => q⟩
  | .not a, S, X, Γ, m, e, c, h => by
    have h : (okP m && kNot e (fun x => chk G S Γ (tMode m .b) a x)) = true := h
    obtain ⟨hm, h⟩ := and_t h
    obtain ⟨a', p, rfl, h1⟩ := kNot_inv h
    rcases okP_cases hm with rfl | rfl | rfl
    · exact je_not (chk_ok a c h1)
    · exact jb_of (je_not (chk_ok a c h1))
    · have ga : Good (callF G.P n) Γ X .t a a' := chk_ok a c h1
      exact pt_nb (jt_not ga.1) rfl
  | .ite d a b, S, X, Γ, m, e, c, h => by
    have h : (okI m && kIte e (fun x => chk G S Γ .t d x) (fun x => chk G S Γ (iteM m) a x) (fun x => chk G S Γ (iteM m) b x)) = true := h
    obtain ⟨hm, h⟩ := and_t h
    obtain ⟨d', a', b', p, rfl, h1, h2, h3⟩ := kIte_inv h
    have gd : Good (callF G.P n) Γ X .t d d' := chk_ok d c h1
    cases m with
    | j t => exact je_ite gd.1 (chk_ok a c h2) (chk_ok b c h3)
    | b => exact jb_of (je_ite gd.1 (chk_ok a c h2) (chk_ok b c h3))
    | _ => cases hm
  | .ix a b, S, X, Γ, m, e, c, h => by
    have h : (okP m && kIx e (fun x => chk G S Γ .b a x) (fun x => chk G S Γ .b b x)) = true := h
    obtain ⟨hm, h⟩ := and_t h
    obtain ⟨a', b', p, rfl, h0, h1, h2⟩ := kIx_inv h
    exact good_p hm (je_ix (chk_ok a c h1) (chk_ok b c h2) (plain_ix h0)) rfl
  | .slF a b, S, X, Γ, m, e, c, h => by
    have h : (okP m && kSlF e (fun x => chk G S Γ .b a x) (fun x => chk G S Γ .b b x)) = true := h
    obtain ⟨hm, h⟩ := and_t h
    obtain ⟨a', b', p, p', rfl, h1, h2⟩ := kSlF_inv h
    exact good_p hm (je_slF (chk_ok a c h1) (chk_ok b c h2)) rfl
  | .slT a b, S, X, Γ, m, e, c, h => by
    have h : (okP m && kSlT e (fun x => chk G S Γ .b a x) (fun x => chk G S Γ .b b x)) = true := h
    obtain ⟨hm, h⟩ := and_t h
    obtain ⟨a', b', p, p', rfl, h1, h2⟩ := kSlT_inv h
    exact good_p hm (je_slT (chk_ok a c h1) (chk_ok b c h2)) rfl
  | .slB a b d, S, X, Γ, m, e, c, h => by
    have h : (okP m && kSlB e (fun x => chk G S Γ .b a x) (fun x => chk G S Γ .b b x) (fun x => chk G S Γ .b d x)) = true := h
    obtain ⟨hm, h⟩ := and_t h
    obtain ⟨a', b', d', p, p', rfl, h1, h2, h3⟩ := kSlB_inv h
    exact good_p hm (je_slB (chk_ok a c h1) (chk_ok b c h2) (chk_ok d c h3)) rfl
  | .rev a, S, X, Γ, m, e, c, h => by
    have h : (okP m && kRev e (fun x => chk G S Γ .b a x)) = true := h
    obtain ⟨hm, h⟩ := and_t h
    obtain ⟨a', j, p1, p2, p3, p, rfl, h1⟩ := kRev_inv h
    exact good_p hm (je_rev (chk_ok a c h1)) rfl
  | .b1 f a, S, X, Γ, m, e, c, h => by
    have h : ((okP m || (decide (m = .o) && decide (f = .list))) && (match b1Set f with
      | some w => kCallC e (fun x => bWord G S x w) (fun x => bWord G S x "set") (fun x => chk G S Γ .b a x)
      | none => kCall1 e (b1Word f G S) (fun x => chk G S Γ .b a x))) = true := h
    obtain ⟨hm, h⟩ := and_t h
    by_cases hm' : okP m = true
    case neg =>
      have hq : decide (m = .o) = true ∧ decide (f = .list) = true := by simpa [hm'] using hm
      cases of_decide_eq_true hq.1
      cases of_decide_eq_true hq.2
      obtain ⟨x, p, a', p', rfl, h0, h1, h2⟩ := kCall1_inv (show kCall1 e (b1Word .list G S) (fun x => chk G S Γ .b a x) = true from h)
      obtain ⟨rfl, g1, g2⟩ := word_ok c (show bWord G S x "list" = true from h1)
      exact jo_list g1 g2 h0 (chk_ok a c h2)
    case pos =>
    clear hm
    have hm := hm'
    clear hm'
    cases hb : b1Set f with
    | some w =>
    rw [hb] at h
    obtain ⟨x, p, y, p2, a', q2, pos, rfl, h0, h1, h2, h3⟩ := kCallC_inv h
    obtain ⟨rfl, g1, g2⟩ := word_ok c h1
    obtain ⟨rfl, g3, g4⟩ := word_ok c h2
    cases f <;> simp only [b1Set, reduceCtorEq, Option.some.injEq] at hb
    · subst hb
      exact good_p hm (je_sset c.calm g1 g2 g3 g4 h0 (chk_ok a c h3)) rfl
    · subst hb
      exact good_p hm (je_lset c.calm g1 g2 g3 g4 h0 (chk_ok a c h3)) rfl
    | none =>
    rw [hb] at h
    obtain ⟨x, p, a', p', rfl, h0, h1, h2⟩ := kCall1_inv h
    unfold b1Word at h1
    split at h1
    · rename_i y id hf
      obtain ⟨rfl, g1, g2⟩ := word_ok c h1
      exact good_p hm (je_b1 c.calm c.hu hf g1 g2 h0 (chk_ok a c h2)) rfl
    · split at h1
      · rename_i y id hf
        obtain ⟨rfl, g1, g2⟩ := word_ok c h1
        exact good_p hm (je_b1T hf g1 g2 h0 (chk_ok a c h2)) rfl
      · obtain ⟨h1, h3⟩ := and_t h1
        obtain ⟨hf, hgd⟩ := and_t h1
        cases of_decide_eq_true hf
        obtain ⟨rfl, g1, g2⟩ := word_ok c h3
        exact good_p hm (je_repr (c.gd hgd) c.hu g1 g2 h0 (chk_ok a c h2)) rfl
  | .b2 f a b, S, X, Γ, m, e, c, h => by
    have h : (okP m && kCall2 e (fun x => bWord G S x (b2Fun f).1) (fun x => chk G S Γ .b a x) (fun x => chk G S Γ .b b x)) = true := h
    obtain ⟨hm, h⟩ := and_t h
    obtain ⟨x, p, a', b', p', rfl, h0, h00, h1, h2, h3⟩ := kCall2_inv h
    obtain ⟨rfl, g1, g2⟩ := word_ok c h1
    exact good_p hm (je_b2 c.calm f g1 g2 h0 h00 (chk_ok a c h2) (chk_ok b c h3)) rfl
  | .call f es, S, X, Γ, m, e, c, h => by
    have h : kCall e (fun x => decide (G.fn[f]? = some x) && glB S x) (fun es' => match G.P[f]? with | some fd => resOk m fd.res && chkAs G S Γ es fd.pty es' | none => false) = true := h
    obtain ⟨x, p, es', p', rfl, h1, h2, h3, h4⟩ := kCall_inv h
    obtain ⟨h3, h5⟩ := and_t h3
    cases hf : G.P[f]? with
    | none => rw [hf] at h4; cases h4
    | some fd =>
      rw [hf] at h4
      obtain ⟨h6, h7⟩ := and_t h4
      obtain ⟨q1, q2⟩ := chkAs_ok es c h7
      exact c.call1 h1 h2 (of_decide_eq_true h3) h5 hf h6 q1 q2
  | .mth k a es, S, X, Γ, m, e, c, h => by
    have h : (okP m && decide (k = .index) && kIndex e (fun x => chk G S Γ .b a x) (fun x => chkBs G S Γ es [x])) = true := h
    obtain ⟨hm, h⟩ := and_t h
    obtain ⟨hm1, hk⟩ := and_t hm
    have ek := of_decide_eq_true hk
    obtain ⟨a', ap, b', cp, rfl, h0, h00, h1, h2, h3⟩ := kIndex_inv h
    subst ek
    cases es with
    | nil => cases kNil_inv (show kNil [b'] = true from h3)
    | cons b es =>
      obtain ⟨b1, bs, eb, hu, h4, h5⟩ := kCons_inv (show kCons [b'] (fun x => chk G S Γ .b b x) (fun xs => chkBs G S Γ es xs) = true from h3)
      cases eb
      cases es with
      | nil => exact good_p hm1 (je_index c.hu (chk_ok a c h2) (chk_ok b c h4) h0 h00 h1) rfl
      | cons d es =>
        obtain ⟨_, _, z, _⟩ := kCons_inv (show kCons [] (fun x => chk G S Γ .b d x) (fun xs => chkBs G S Γ es xs) = true from h5)
        cases z
  | .comp own tg k args cond elt, S, X, Γ, m, e, c, h => by
    have h : ((okP m || decide (m = .o)) && (tgSlots tg).all own.contains && kComp e (fun sc => blkB S sc own) (fun sc t => chkTg (S.blk sc) tg t) (fun t it => chkI G S Γ false k args t it)
      (fun sc ifs => kIfs ifs cond fun x => chk G (S.blk sc) (setT tg (unk Γ own)) .t cond x) (fun sc x => chk G (S.blk sc) (setT tg (unk Γ own)) (.j .p) elt x)) = true := h
    obtain ⟨hm, h⟩ := and_t h
    obtain ⟨hm, ho⟩ := and_t hm
    obtain ⟨elt', tg', it', ifs', sc, p, rfl, h1, h2, h3, h4, h5, h6⟩ := kComp_inv h
    exact good_o (okPo_cases hm) (comp_ok c h1 h2 (all_sub ho) h3 ((chkI_ok args c h4).2) (fun c' => ifs_ok h5 fun e q => (chk_ok cond c' q : Good _ _ _ .t _ _).1) (fun c' => chk_ok elt c' h6)) rfl
  | .comp2 own tg k args cond tg2 k2 args2 cond2 elt, S, X, Γ, m, e, c, h => by
    have h : ((okP m || decide (m = .o)) && ((tgSlots tg).all own.contains && (tgSlots tg2).all own.contains) && kComp2 e (fun sc => blkB S sc own) (fun sc t => chkTg (S.blk sc) tg t) (fun t it => chkI G S Γ false k args t it)
      (fun sc ifs => kIfs ifs cond fun x => chk G (S.blk sc) (setT tg (unk Γ own)) .t cond x) (fun sc t => chkTg (S.blk sc) tg2 t) (fun sc t it => chkI G (S.blk sc) (setT tg (unk Γ own)) true k2 args2 t it)
      (fun sc ifs => kIfs ifs cond2 fun x => chk G (S.blk sc) (setT tg2 (unk (setT tg (unk Γ own)) (tgSlots tg2))) .t cond2 x) (fun sc x => chk G (S.blk sc) (setT tg2 (unk (setT tg (unk Γ own)) (tgSlots tg2))) (.j .p) elt x)) = true := h
    obtain ⟨hm, h⟩ := and_t h
    obtain ⟨hm, ho⟩ := and_t hm
    obtain ⟨ho, ho2⟩ := and_t ho
    obtain ⟨elt', tg', it', ifs', tg2', it2', ifs2', sc, p, rfl, h1, h2, h3, h4, h5, h6, h7, h8, h9, h10⟩ := kComp2_inv h
    exact good_o (okPo_cases hm) (comp2_ok c h1 h2 h6 (all_sub ho) (all_sub ho2) h3 h7 ((chkI_ok args c h4).2) (fun c' => (chkI_ok args2 c' h8).1 rfl) (fun c' => ifs_ok h5 fun e q => (chk_ok cond c' q : Good _ _ _ .t _ _).1)
      (fun c' => ifs_ok h9 fun e q => (chk_ok cond2 c' q : Good _ _ _ .t _ _).1) (fun c' => chk_ok elt c' h10)) rfl
  | .dct _, S, X, Γ, m, e, c, h => nomatch h
  | .dnew _, S, X, Γ, m, e, c, h => nomatch h
  | .dix t a b, S, X, Γ, m, e, c, h => by
    have h : (okP m && kIx e (fun x => chk G S Γ (.d t) a x) (fun x => chk G S Γ .b b x)) = true := h
    obtain ⟨hm, h⟩ := and_t h
    obtain ⟨a', b', p, rfl, h0, h1, h2⟩ := kIx_inv h
    exact good_p hm (je_dix c.hu (chk_ok a c h1) (chk_ok b c h2) h0) rfl
  | .din t neg a b, S, X, Γ, m, e, c, h => by
    have h : (okP m && kDin neg e (fun x => chk G S Γ .b a x) (fun x => chk G S Γ (.d t) b x)) = true := h
    obtain ⟨hm, h⟩ := and_t h
    obtain ⟨a', b', p, rfl, h0, h1, h2⟩ := kDin_inv h
    exact good_t hm (je_din c.hu (chk_ok a c h1) (chk_ok b c h2) (noSet_ne h0)) (jt_din c.hu (chk_ok a c h1) (chk_ok b c h2) (noSet_ne h0)) rfl
  | .dget t a b d, S, X, Γ, m, e, c, h => by
    have h : (okP m && kGet e (fun x => chk G S Γ (.d t) a x) (fun x => chk G S Γ .b b x) (fun x => chk G S Γ (.j .p) d x)) = true := h
    obtain ⟨hm, h⟩ := and_t h
    obtain ⟨a', ap, b', d', cp, rfl, h0, h1, h2, h3, h4, h5, h6⟩ := kGet_inv h
    exact good_p hm (je_dget c.hu (chk_ok a c h4) (chk_ok b c h5) (chk_ok d c h6) h0 h1 h2 h3) rfl
  | .isi k a, S, X, Γ, m, e, c, h => by
    have h : (okP m && kIsi e (fun x => bWord G S x "isinstance") (fun x => bWord G S x (kcW k).1) (fun x => chk G S Γ .b a x)) = true := h
    obtain ⟨hm, h⟩ := and_t h
    obtain ⟨x, p, a', y, p2, pos, rfl, h1, h2, h3, h4⟩ := kIsi_inv h
    obtain ⟨rfl, g1, g2⟩ := word_ok c h2
    obtain ⟨rfl, g3, g4⟩ := word_ok c h3
    exact good_p hm (je_isi g1 g2 g3 g4 h1 (chk_ok a c h4)) rfl
  | .dcp _, S, X, Γ, m, e, c, h => nomatch h
  | .dlen _ _, S, X, Γ, m, e, c, h => nomatch h
  | .dcomp _ _ _ _ _ _ _, S, X, Γ, m, e, c, h => nomatch h
  | .stx i k, S, X, Γ, m, e, c, h => by
    obtain ⟨hm, h⟩ := and_t (show (okP m && decide (ty Γ i = .st) && kStx e (nameB S i) k) = true from h)
    obtain ⟨hm, ht⟩ := and_t hm
    obtain ⟨a, j, p, p', rfl, h1⟩ := kStx_inv h
    exact good_p hm (je_stx (name_ok c h1) (of_decide_eq_true ht)) rfl
  | .clen i, S, X, Γ, m, e, c, h => by
    obtain ⟨hm, h⟩ := and_t (show (okP m && decide (ty Γ i = .cl) && kCall1 e (fun x => bWord G S x "len") (nameB S i)) = true from h)
    obtain ⟨hm, ht⟩ := and_t hm
    obtain ⟨x, p, a', p', rfl, h0, h1, h2⟩ := kCall1_inv h
    obtain ⟨rfl, g1, g2⟩ := word_ok c h1
    exact good_p hm (je_clen g1 g2 h0 (name_ok c h2) (of_decide_eq_true ht)) rfl
  | .cix i a, S, X, Γ, m, e, c, h => by
    obtain ⟨hm, h⟩ := and_t (show (okP m && decide (ty Γ i = .cl) && kIx e (nameB S i) (fun x => chk G S Γ .b a x)) = true from h)
    obtain ⟨hm, ht⟩ := and_t hm
    obtain ⟨a', b', p, rfl, h0, h1, h2⟩ := kIx_inv h
    exact good_p hm (je_cix h0 (name_ok c h1) (of_decide_eq_true ht) (chk_ok a c h2)) rfl
  | .dcst kvs a, S, X, Γ, m, e, c, h => by
    obtain ⟨hm, h⟩ := and_t (show (okP m && (kvs.all (fun p => plainC p.2) && decide (0 < kvs.length ∧ kvs.length ≤ 15)) && kDcst e kvs (fun x => chk G S Γ .b a x)) = true from h)
    obtain ⟨hm, hp⟩ := and_t hm
    obtain ⟨hp, hk⟩ := and_t hp
    obtain ⟨ks, vs, p, b, p', rfl, h0, h1, h2⟩ := kDcst_inv h
    obtain ⟨a1, a2, a3, a4⟩ := keys_ok (X := X) (p := p) h1
    have hk := of_decide_eq_true hk
    exact good_p hm (je_dcst c.hu a1 a2 a3 (fun z => by rw [z] at a4; simp at a4; omega) (by omega) hk.2 h0 hp (chk_ok a c h2)) rfl
theorem chkPs_ok : ∀ (ies : List IE) {S : SC} {X : Cx} {Γ : List Ty} {es : List Expr}, CO G n X S → chkPs G S Γ ies es = true → PA X es (tPs (callF G.P n) Γ ies) ∧ es.all unstar = true
  | [], S, X, Γ, es, c, h => by
    cases kNil_inv (show kNil es = true from h)
    exact ⟨jps_nil, rfl⟩
  | a :: as, S, X, Γ, es, c, h => by
    obtain ⟨e, es, rfl, h1, h2, h3⟩ := kCons_inv (show kCons es (fun x => chk G S Γ (.j .p) a x) (fun xs => chkPs G S Γ as xs) = true from h)
    obtain ⟨q1, q2⟩ := chkPs_ok as c h3
    exact ⟨jps_cons (chk_ok a c h2) q1 (star_cons h1 _ _), by rw [List.all_cons, h1, q2]; rfl⟩
theorem chkBs_ok : ∀ (ies : List IE) {S : SC} {X : Cx} {Γ : List Ty} {es : List Expr}, CO G n X S → chkBs G S Γ ies es = true → PA X es (tBs (callF G.P n) Γ ies) ∧ es.all unstar = true
  | [], S, X, Γ, es, c, h => by
    cases kNil_inv (show kNil es = true from h)
    exact ⟨jbs_nil, rfl⟩
  | a :: as, S, X, Γ, es, c, h => by
    obtain ⟨e, es, rfl, h1, h2, h3⟩ := kCons_inv (show kCons es (fun x => chk G S Γ .b a x) (fun xs => chkBs G S Γ as xs) = true from h)
    obtain ⟨q1, q2⟩ := chkBs_ok as c h3
    exact ⟨jbs_cons (chk_ok a c h2) q1 (star_cons h1 _ _), by rw [List.all_cons, h1, q2]; rfl⟩
theorem chkAs_ok : ∀ (ies : List IE) {S : SC} {X : Cx} {Γ : List Ty} {ts : List Ty} {es : List Expr}, CO G n X S → chkAs G S Γ ies ts es = true → PA X es (tJs (callF G.P n) Γ ies ts) ∧ es.length = ies.length ∧ ies.length = ts.length
  | [], S, X, Γ, ts, es, c, h => by
    obtain ⟨h1, h2⟩ := and_t (show (ts.isEmpty && kNil es) = true from h)
    cases kNil_inv h2
    cases List.isEmpty_iff.mp h1
    exact ⟨js_nil, rfl, rfl⟩
  | a :: as, S, X, Γ, ts, es, c, h => by
    cases ts with
    | nil => exact nomatch (show false = true from h)
    | cons t ts =>
      obtain ⟨e, es, rfl, h1, h2, h3⟩ := kCons_inv (show kCons es (fun x => chk G S Γ (.j t) a x) (fun xs => chkAs G S Γ as ts xs) = true from h)
      obtain ⟨q1, q2, q3⟩ := chkAs_ok as c h3
      exact ⟨js_cons (chk_ok a c h2) q1 (star_cons h1 _ _), by rw [List.length_cons, List.length_cons, q2], by rw [List.length_cons, List.length_cons, q3]⟩
theorem chkI_ok : ∀ (ies : List IE) {S : SC} {X : Cx} {Γ : List Ty} {pure : Bool} {k : IK} {tg e : Expr}, CO G n X S → chkI G S Γ pure k ies tg e = true → (pure = true → PI X tg e (tI (callF G.P n) Γ k ies)) ∧ PI X tg e (tIB (callF G.P n) Γ k ies)
  | [], S, X, Γ, pure, k, tg, e, c, h => nomatch h
  | a :: as, S, X, Γ, pure, k, tg, e, c, h => by
    have both : PI X tg e (tI (callF G.P n) Γ k (a :: as)) → (pure = true → PI X tg e (tI (callF G.P n) Γ k (a :: as))) ∧ PI X tg e (tIB (callF G.P n) Γ k (a :: as)) := fun q => ⟨fun _ => q, pi_weak q⟩
    cases k with
    | seq =>
      obtain ⟨h1, h2⟩ := and_t (show (as.isEmpty && chk G S Γ (pM pure) a e) = true from h)
      cases List.isEmpty_iff.mp h1
      cases pure with
      | true => exact both (js_seq (chk_ok a c h2))
      | false => exact ⟨fun z => (Bool.false_ne_true z).elim, jb_seq (chk_ok a c h2)⟩
    | r1 =>
      obtain ⟨h1, h2⟩ := and_t (show (as.isEmpty && kCall1 e (fun x => bWord G S x "range") (fun x => chk G S Γ .b a x)) = true from h)
      cases List.isEmpty_iff.mp h1
      obtain ⟨x, p, a', p', rfl, h3, h4, h5⟩ := kCall1_inv h2
      obtain ⟨rfl, g1, g2⟩ := word_ok c h4
      exact both (js_r1 g1 g2 h3 (chk_ok a c h5))
    | r2 =>
      obtain ⟨x, p, a', b', p', rfl, h0, h00, h4, h5, h6⟩ := kCall2_inv (show kCall2 e (fun x => bWord G S x "range") (fun x => chk G S Γ .b a x) (fun x => chkBs G S Γ as [x]) = true from h)
      obtain ⟨rfl, g1, g2⟩ := word_ok c h4
      cases as with
      | nil => cases kNil_inv (show kNil [b'] = true from h6)
      | cons b as =>
        obtain ⟨b1, bs, eb, hu, h7, h8⟩ := kCons_inv (show kCons [b'] (fun x => chk G S Γ .b b x) (fun xs => chkBs G S Γ as xs) = true from h6)
        cases eb
        cases as with
        | nil => exact both (js_r2 g1 g2 h0 h00 (chk_ok a c h5) (chk_ok b c h7))
        | cons d as =>
          obtain ⟨_, _, z, _⟩ := kCons_inv (show kCons [] (fun x => chk G S Γ .b d x) (fun xs => chkBs G S Γ as xs) = true from h8)
          cases z
    | enum =>
      obtain ⟨h1, h2⟩ := and_t (show (isTup tg && as.isEmpty && kCall1 e (fun x => bWord G S x "enumerate") (fun x => chk G S Γ (pM pure) a x)) = true from h)
      obtain ⟨h11, h12⟩ := and_t h1
      have e0 := List.isEmpty_iff.mp h12
      subst e0
      obtain ⟨es, kk, tp, rfl⟩ := tup_of h11
      obtain ⟨x, p, a', p', rfl, h3, h4, h5⟩ := kCall1_inv h2
      obtain ⟨rfl, g1, g2⟩ := word_ok c h4
      cases pure with
      | true => exact both (js_enum g1 g2 h3 (chk_ok a c h5))
      | false => exact ⟨fun z => (Bool.false_ne_true z).elim, jb_enum g1 g2 h3 (chk_ok a c h5)⟩
    | zip =>
      obtain ⟨h1, h2⟩ := and_t (show (isTup tg && kCall2 e (fun x => bWord G S x "zip") (fun x => chk G S Γ (.j .p) a x) (fun x => chkPs G S Γ as [x])) = true from h)
      obtain ⟨es, kk, tp, rfl⟩ := tup_of h1
      obtain ⟨x, p, a', b', p', rfl, h0, h00, h4, h5, h6⟩ := kCall2_inv h2
      obtain ⟨rfl, g1, g2⟩ := word_ok c h4
      cases as with
      | nil => cases kNil_inv (show kNil [b'] = true from h6)
      | cons b as =>
        obtain ⟨b1, bs, eb, hu, h7, h8⟩ := kCons_inv (show kCons [b'] (fun x => chk G S Γ (.j .p) b x) (fun xs => chkPs G S Γ as xs) = true from h6)
        cases eb
        cases as with
        | nil => exact both (js_zip g1 g2 h0 h00 (chk_ok a c h5) (chk_ok b c h7))
        | cons d as =>
          obtain ⟨_, _, z, _⟩ := kCons_inv (show kCons [] (fun x => chk G S Γ (.j .p) d x) (fun xs => chkPs G S Γ as xs) = true from h8)
          cases z
    | items => exact nomatch (show false = true from h)
end
end
end Ev
set_option Elab.async false
set_option linter.all false
set_option maxRecDepth 100000
set_option autoImplicit false
/-! Ev16: the look at statements. -/
namespace Ev
open PySem PySem.Spec PyProof.Rows L2
abbrev Fl := Option (Option (List Ty))
def gd (b : Bool) (r : Option (List Ty)) : Fl := if b then some r else none
def Fits (r : Option (List Ty)) (Γ1 : List Ty) : Prop := match r with
  | none => True
  | some Γ' => weak Γ' Γ1 = true
def meet (Γ Γ' : List Ty) : List Ty := (Γ.zip Γ').map fun p => if p.1 = p.2 then p.1 else .u
def join : Fl → Fl → Fl
  | some none, r => r
  | some (some Γ), some none => some (some Γ)
  | some (some Γ), some (some Γ') => if weak Γ (meet Γ Γ') && weak Γ' (meet Γ Γ') then some (some (meet Γ Γ')) else none
  | _, _ => none
def isCompr : Expr → Bool
  | .ListComp .. => true | .SetComp .. => true | .DictComp .. => true
  | _ => false
/-- the new list goes straight to its name -/
def swapB (S : SC) (t e : Expr) : Bool := match t, e with
  | .Name x p, .ListComp elt gens sc pos => decide (S.nm.lookup x = some .local) && decide (p.line = pos.line) && !(sc.names.any fun (n, k) => n == x && (k == .local || k == .cell))
  | _, _ => false
def noSwapB (S : SC) (t e : Expr) : Bool := !isCompr e || match t, e with
  | .Name x p, .ListComp elt gens sc pos => !swapB S t e
  | .Name _ _, _ => false
  | _, _ => true
def isTupL : Expr → Bool
  | .Tuple .. => true | .List .. => true
  | _ => false
def locNm (S : SC) (line : Nat) (t : Expr) : Option Str := match t with
  | .Name id pos => if S.nm.lookup id == some .local && pos.line == line then some id else none
  | _ => none
def locNms (S : SC) (ts : List Expr) : List Str := ts.filterMap (locNm S ((ts.head?.map (·.pos.line)).getD 0))
/-- no stores from the right -/
def noStB (S : SC) (t e : Expr) : Bool := match t, e with
  | .Tuple ts _ _, .Tuple vs _ _ => (!(ts.length == 2 || ts.length == 3) || vs.length != ts.length) || ((locNms S ts).length != ts.length)
  | .Tuple .., .List .. => true
  | .Tuple .., x => !isTupL x
  | .List .., _ => false
  | _, _ => true
def asgB (S : SC) (t e : Expr) : Bool := unstar t && (noSwapB S t e || swapB S t e) && noStB S t e
def kAsg (s : Stmt) (f : Expr → Expr → Bool) : Bool := match s with | .Assign [t] e _ => f t e | _ => false
def kMeth (s : Stmt) (m : Str) (f g : Expr → Bool) : Bool := match s with | .Expr (.Call (.Attribute a y ap) [b] [] cp) _ => y == m && plainBase a && unstar b && (ap.endLine == cp.line) && f a && g b | _ => false
def kEx (s : Stmt) (f : Expr → Bool) : Bool := match s with | .Expr e _ => !isCompr e && f e | _ => false
def kRet (s : Stmt) (f : Expr → Bool) : Bool := match s with | .Return (some e) _ => f e | _ => false
def kRetN (s : Stmt) : Bool := match s with | .Return none _ => true | _ => false
def kBrk (s : Stmt) : Bool := match s with | .Break _ => true | _ => false
def kCont (s : Stmt) : Bool := match s with | .Continue _ => true | _ => false
def kSet (s : Stmt) (f g k : Expr → Bool) : Bool := match s with | .Assign [.Subscript a b _] e _ => noSlice b && !isCompr e && f a && g b && k e | _ => false
def kIf (s : Stmt) (f : Expr → Bool) (g k : List Stmt → Fl) : Fl := match s with | .If c a b _ => if f c then join (g a) (k b) else none | _ => none
def fitsB (r : Fl) (Γ : List Ty) : Bool := match r with
  | some none => true
  | some (some Γ') => weak Γ' Γ
  | none => false
def kFor (s : Stmt) (f : Expr → Expr → Bool) (g : List Stmt → Bool) : Bool := match s with | .For t e b [] _ => noSet e && f t e && g b | _ => false
def kWhl (s : Stmt) (f : Expr → Bool) (g : List Stmt → Bool) : Bool := match s with | .While c b [] _ => f c && g b | _ => false
def kPar (S : SC) (i j : Nat) (s : Stmt) (f : List Expr → Bool) : Bool := match s with
  | .Assign [.Tuple [.Name x px, .Name y py] _ _] (.Tuple [a, b] _ _) _ => decide (S.N[i]? = some x) && decide (S.N[j]? = some y) && decide (i ≠ j) && decide (S.nm.lookup x = some .local) && decide (S.nm.lookup y = some .local) && decide (px.line = py.line) && !([a, b].all (foldedForSure 8)) && !([a, b].all (constantsAlone 8)) && unstar a && unstar b && f [a, b]
  | _ => false
def kSSet (s : Stmt) (f : Expr → Bool) (n : Nat) (g : Expr → Bool) : Bool := match s with | .Assign [.Subscript a (.Constant (.int k) _ _) _] e _ => decide (k = (n : Int)) && !isCompr e && f a && g e | _ => false
def tmB (S : SC) (i : Nat) : List Expr → List (Option Int) → Bool
  | es, [] => es.isEmpty
  | .Constant (.int k) _ _ :: es, some k' :: tm => decide (k = k') && tmB S i es tm
  | e :: es, none :: tm => unstar e && nameB S i e && tmB S i es tm
  | _, _ => false
def kRetL (s : Stmt) (f : List Expr → Bool) : Bool := match s with | .Return (some (.List es _)) _ => f es | _ => false
def killB (ks : List Nat) (G : List Ty) : Bool := ks.all fun i => decide (ty G i = .u)
def isDnew (t : Bool) : IE → Bool
  | .dnew t' => decide (t = t')
  | _ => false
def isDict0 : Expr → Bool
  | .Dict [] [] _ => true
  | _ => false
mutual
def chkS (G : PG0) (S : SC) (res : Ty) (ΓL : List Ty) (Γ : List Ty) : IS → Stmt → Fl
  | .set tg e, s => gd (kAsg s fun t' e' => chkTg S tg t' && chk G S Γ (.j .p) e e' && asgB S t' e') (some (setT tg Γ))
  | .own i t e, s => (match t with
    | .o => gd (decide (i < Γ.length) && kAsg s fun t' e' => chkTg S (.n i) t' && chk G S Γ .o e e' && asgB S t' e') (some (Γ.set i .o))
    | .p => gd (kAsg s fun t' e' => chkTg S (.n i) t' && chk G S Γ (.j .p) e e' && (asgB S t' e' && !isCompr e')) (some (Γ.set i .p))
    | .pK => gd (kAsg s fun t' e' => chkTg S (.n i) t' && chk G S Γ (.j .pK) e e' && (asgB S t' e' && !isCompr e')) (some (Γ.set i .pK))
    | .pT => gd (kAsg s fun t' e' => chkTg S (.n i) t' && chk G S Γ (.j .pT) e e' && (asgB S t' e' && !isCompr e')) (some (Γ.set i .pT))
    | .st => gd (decide (i < Γ.length) && kAsg s fun t' e' => chkTg S (.n i) t' && chk G S Γ (.j .st) e e' && (asgB S t' e' && !isCompr e')) (some (Γ.set i .st))
    | .dK => match e with
      | .dcp a => gd (decide (i < Γ.length) && kAsg s fun t' e' => chkTg S (.n i) t' && kCall1 e' (fun x => bWord G S x "dict") (fun x => chk G S Γ (.d false) a x) && asgB S t' e') (some (Γ.set i .dK))
      | _ => gd (decide (i < Γ.length) && isDnew false e && kAsg s fun t' e' => chkTg S (.n i) t' && isDict0 e' && asgB S t' e') (some (Γ.set i .dK))
    | .dT => gd (decide (i < Γ.length) && isDnew true e && kAsg s fun t' e' => chkTg S (.n i) t' && isDict0 e' && asgB S t' e') (some (Γ.set i .dT))
    | _ => none)
  | .par i j a b, s => gd (kPar S i j s fun es => chkPs G S Γ [a, b] es) (some ((Γ.set i .p).set j .p))
  | .setix i k e, s => gd (decide (ty Γ i = .o) && kSet s (nameB S i) (fun x => chk G S Γ .b k x) (fun x => chk G S Γ (.j .p) e x)) (some Γ)
  | .app i e, s => gd (decide (ty Γ i = .o) && kMeth s "append" (nameB S i) (fun x => chk G S Γ (.j .p) e x)) (some Γ)
  | .ext i e, s => gd (decide (ty Γ i = .o) && kMeth s "extend" (nameB S i) (fun x => chk G S Γ (.j .p) e x)) (some Γ)
  | .ex e, s => gd (kEx s fun x => chk G S Γ (.j .p) e x) (some Γ)
  | .ret e, s => gd (kRet s fun x => chk G S Γ (.j res) e x) none
  | .retN, s => gd (kRetN s && decide (res = .p)) none
  | .ite c a b, s => kIf s (fun x => chk G S Γ .t c x) (fun l => chkSs G S res ΓL Γ a l) (fun l => chkSs G S res ΓL Γ b l)
  | .for tg k args body ks Gl, s => gd (weak Γ Gl && killB ks Gl && kFor s (fun t' e' => chkTg S tg t' && chkI G S Γ true k args t' e') (fun l => fitsB (chkSs G S res Gl (setT tg Gl) body l) Gl)) (some Gl)
  | .whl c body ks Gl, s => gd (weak Γ Gl && killB ks Gl && kWhl s (fun x => chk G S Gl .t c x) (fun l => fitsB (chkSs G S res Gl Gl body l) Gl)) (some Gl)
  | .brk, s => gd (kBrk s && weak Γ ΓL) none
  | .cont, s => gd (kCont s && weak Γ ΓL) none
  | .setix2 _ _ _ _, _ => none
  | .setd t i k e, s => gd (decide (ty Γ i = if t then .dT else .dK) && kSet s (nameB S i) (fun x => chk G S Γ .b k x) (fun x => chk G S Γ (.j .p) e x)) (some Γ)
  | .pop _ _, _ => none
  | .frz _, _ => none
  | .cget j i n, s => gd (decide (j < Γ.length) && decide (ty Γ i = .st) && kAsg s fun t' e' => chkTg S (.n j) t' && kStx e' (nameB S i) n) (some (Γ.set j .cl))
  | .cset i k e, s => gd (decide (ty Γ i = .cl) && kSet s (nameB S i) (fun x => chk G S Γ .b k x) (fun x => chk G S Γ (.j .p) e x)) (some Γ)
  | .sset i n e, s => gd (decide (ty Γ i = .st) && kSSet s (nameB S i) n (fun x => chk G S Γ (.j .p) e x)) (some Γ)
  | .retSt i tm, s => gd (decide (res = .st) && decide (ty Γ i = .o) && decide (tm.length ≤ 1000) && kRetL s (fun es => tmB S i es tm)) none
def chkSs (G : PG0) (S : SC) (res : Ty) (ΓL : List Ty) (Γ : List Ty) : List IS → List Stmt → Fl
  | [], ss => (match ss with | [] => some (some Γ) | _ => none)
  | i :: is, ss => (match isFrz i with
    | some k => (match frzT (ty Γ k) with | some t => chkSs G S res ΓL (Γ.set k t) is ss | none => none)
    | none => (match ss with
      | [] => none
      | s :: ss => (match chkS G S res ΓL Γ i s with
        | none => none
        | some none => if is.isEmpty && ss.isEmpty then some none else none
        | some (some Γ1) => chkSs G S res ΓL Γ1 is ss)))
where isFrz : IS → Option Nat
  | .frz k => some k
  | _ => none
end
end Ev
set_option Elab.async false
set_option linter.all false
set_option maxRecDepth 100000
set_option autoImplicit false
/-! Ev17: the look at statements is sound. -/
namespace Ev
open PySem PySem.Spec PyProof.Rows L2
section
variable {G : PG0} {n : Nat} {X : Cx} {S : SC}
theorem CO.blockKind (c : CO G n X S) : X.env.blockKind = .function := by
  unfold Env.blockKind
  rw [c.kd]
  rfl
theorem CO.kindOf (c : CO G n X S) (x : Str) : X.env.kindOf x = S.nm.lookup x := by
  unfold Env.kindOf
  rw [c.nm]
theorem swap_bool (c : CO G n X S) {x : Str} {p pos : Pos} {elt : Expr} {gens : List Comprehension} {sc : Scope} (line : Nat) :
    swapsWith (.ListComp elt gens sc pos) (some (.Name x p)) line X.env = pure (swapB S (.Name x p) (.ListComp elt gens sc pos)) := by
  show (pure (X.env.blockKind == .function && X.env.kindOf x == some .local && p.line == pos.line && !(sc.names.any fun (n, k) => n == x && (k == .local || k == .cell))) : Sem Bool) = _
  rw [c.blockKind, c.kindOf]
  congr 1
  unfold swapB
  have e : ∀ (l : Option NameKind), (l == some NameKind.local) = decide (l = some NameKind.local) := fun l => by
    cases l with
    | none => rfl
    | some k => cases k <;> rfl
  have e2 : (p.line == pos.line) = decide (p.line = pos.line) := rfl
  rw [e, e2]
  rfl
theorem sole_false (c : CO G n X S) {t e : Expr} (h : noSwapB S t e = true) (line : Nat) : swapsWithSole [t] e line X.env = pure false := by
  show swapsWith e (some t) line X.env = pure false
  unfold noSwapB at h
  cases e with
  | ListComp elt gens sc pos =>
    cases t with
    | Name x p =>
      rw [swap_bool c]
      have h : swapB S (.Name x p) (.ListComp elt gens sc pos) = false := by simpa [isCompr] using h
      rw [h]
    | _ => rfl
  | SetComp elt gens sc pos => cases t <;> first | rfl | cases h
  | DictComp a b gens sc pos => cases t <;> first | rfl | cases h
  | _ => rfl
theorem locNms_eq (c : CO G n X S) (ts : List Expr) : (ts.filterMap fun
    | .Name id pos => if X.env.kindOf id == some .local && pos.line == (ts.head?.map (·.pos.line)).getD 0 then some id else none
    | _ => none) = locNms S ts := by
  unfold locNms
  congr 1
  funext t
  unfold locNm
  cases t <;> first | rfl | (simp only [c.kindOf])
theorem key_none {l m : List Str} {k : Nat} {rest : Sem (Option (List Str))} (e : l = m) (h : (m.length != k) = true) : (if (l.length != k || l.eraseDups.length != l.length) = true then (pure none : Sem (Option (List Str))) else rest) = pure none := by
  rw [e, h]
  rfl
theorem key_some {l m : List Str} {k : Nat} {r1 r2 r3 : Sem (Option (List Str))} {f g : Bool} (e : l = m) (h : m.length = k) (h2 : m.eraseDups.length = m.length) (hf : f = false) (hg : g = false) (h3 : r3 = pure (some l)) : (if (l.length != k || l.eraseDups.length != l.length) = true then (pure none : Sem (Option (List Str))) else if f = true then r1 else if g = true then r2 else r3) = pure (some m) := by
  rw [h3, e, h, h2, hf, hg, h]
  rw [if_neg (by simp), if_neg Bool.false_ne_true, if_neg Bool.false_ne_true]
theorem stores_none (c : CO G n X S) {t e : Expr} (h : noStB S t e = true) : swappedStores [t] e X.env = pure none := by
  unfold noStB at h
  cases t with
  | Tuple ts k p =>
    cases e with
    | Tuple vs k2 p2 =>
      have h : ((!(ts.length == 2 || ts.length == 3) || vs.length != ts.length) || ((locNms S ts).length != ts.length)) = true := h
      rw [Bool.or_eq_true] at h
      unfold swappedStores
      simp only [pure_bind, bind_pure_comp, map_pure]
      rw [c.blockKind]
      by_cases h1 : (!(ts.length == 2 || ts.length == 3) || vs.length != ts.length) = true
      · have q : (!(ts.length == 2 || ts.length == 3) || vs.length != ts.length || (ScopeKind.function : ScopeKind) != .function) = true := by rw [h1]; rfl
        rw [if_pos q]
      · have h2 := h.resolve_left h1
        have q : ¬ ((!(ts.length == 2 || ts.length == 3) || vs.length != ts.length || (ScopeKind.function : ScopeKind) != .function) = true) := by
          rw [Bool.not_eq_true] at h1
          rw [h1]
          decide
        rw [if_neg q]
        split
        · rfl
        · refine key_none ?_ h2
          exact locNms_eq c ts
    | List es p2 => rfl
    | _ => first | rfl | cases h
  | List ts p => cases h
  | _ => rfl
/-! ### x = e -/
theorem asg_plain (c : CO G n X S) {t e : Expr} {te : TE} {g : TG} {pos : Pos} (hu : unstar t = true) (h1 : noSwapB S t e = true) (h2 : noStB S t e = true) (he : PE X e te) (hg : PG X t g) : PS X (.Assign [t] e pos) (tAsg te g) :=
  ps_asg he hg (sole_false c h1 _) (stores_none c h2) (each_one hu _)
theorem chk_form {Γ : List Ty} {m : Mode} {ie : IE} {elt : Expr} {gens : List Comprehension} {sc : Scope} {pos : Pos} (h : chk G S Γ m ie (.ListComp elt gens sc pos) = true) :
    (∃ own tg k args cond el, ie = .comp own tg k args cond el) ∨ (∃ own tg k args cond tg2 k2 args2 cond2 el, ie = .comp2 own tg k args cond tg2 k2 args2 cond2 el) := by
  cases ie <;> first
    | exact .inl ⟨_, _, _, _, _, _, rfl⟩
    | exact .inr ⟨_, _, _, _, _, _, _, _, _, _, rfl⟩
    | (exfalso; exact nomatch (show false = true from h))
    | (exfalso; have h : (_ && false) = true := h; rw [Bool.and_false] at h; cases h)
    | (exfalso; rename_i t neg a b; cases neg <;> (have h : (okP m && false) = true := h; rw [Bool.and_false] at h; cases h))
    | (exfalso; rename_i f a; have h : ((okP m || (decide (m = .o) && decide (f = .list))) && (match b1Set f with | some w => false | none => false)) = true := h; cases hq : b1Set f <;> rw [hq, Bool.and_false] at h <;> cases h)
theorem asgO (c : CO G n X S) {Γ : List Ty} {i : Nat} {m : Mode} {ie : IE} {t e : Expr} {pos : Pos} (hm : m = .o ∨ m = .j .p) (ht : chkTg S (.n i) t = true) (h : chk G S Γ m ie e = true) (hs : swapB S t e = true) : PS X (.Assign [t] e pos) (tAsg (tO (callF G.P n) Γ ie) (gName i)) := by
  cases t with
  | Name y py =>
    cases e with
    | ListComp elt gens sc p =>
      obtain ⟨hN, hloc⟩ := and_t (show (decide (S.N[i]? = some y) && locB S y) = true from ht)
      have hyl : X.env.scope.names.lookup y = some .local := by
        rw [c.nm]
        have hs : (decide (S.nm.lookup y = some .local) && decide (py.line = p.line) && !(sc.names.any fun (n, k) => n == y && (k == .local || k == .cell))) = true := hs
        exact of_decide_eq_true (and_t (and_t hs).1).1
      have hi' : X.N[i]? = some y := by rw [c.N]; exact of_decide_eq_true hN
      have hsw : swapsWith (.ListComp elt gens sc p) (some (.Name y py)) pos.line X.env = pure true := by rw [swap_bool c, hs]
      have hmo : okP m = true ∨ m = .o := by
        rcases hm with rfl | rfl
        · exact .inr rfl
        · exact .inl rfl
      rcases chk_form h with ⟨own, tg, k, args, cond, el, rfl⟩ | ⟨own, tg, k, args, cond, tg2, k2, args2, cond2, el, rfl⟩
      · have h : ((okP m || decide (m = .o)) && (tgSlots tg).all own.contains && kComp (.ListComp elt gens sc p) (fun sc => blkB S sc own) (fun sc t => chkTg (S.blk sc) tg t) (fun t it => chkI G S Γ false k args t it)
          (fun sc ifs => kIfs ifs cond fun x => chk G (S.blk sc) (setT tg (unk Γ own)) .t cond x) (fun sc x => chk G (S.blk sc) (setT tg (unk Γ own)) (.j .p) el x)) = true := h
        obtain ⟨hm1, h⟩ := and_t h
        obtain ⟨hm1, ho⟩ := and_t hm1
        obtain ⟨elt', tg', it', ifs', sc', p', e0, h1, h2, h3, h4, h5, h6⟩ := kComp_inv h
        cases e0
        have q := ps_setLc (py := py) (spos := pos) (pos := p) c.calm (by rw [c.N]; exact c.nd) hi' hyl hsw ((chkI_ok args c h4).2) (blk_ok c h1) (fun s H C cl fp => tg_ok (blk_co c h1 s H C cl fp) tg tg' h3)
          (fun s H C cl fp => ifs_ok h5 fun e q => (chk_ok cond (blk_co c h1 s H C cl fp) q : Good _ _ _ .t _ _).1) (fun s H C cl fp => (chk_ok el (blk_co c h1 s H C cl fp) h6 : PE _ _ _)) (fun x => folded_ok h2 _ x)
        rw [ownOf_snd] at q
        exact PSw q fun D σ H h => lc_runO (all_sub ho) h
      · have h : ((okP m || decide (m = .o)) && ((tgSlots tg).all own.contains && (tgSlots tg2).all own.contains) && kComp2 (.ListComp elt gens sc p) (fun sc => blkB S sc own) (fun sc t => chkTg (S.blk sc) tg t) (fun t it => chkI G S Γ false k args t it)
          (fun sc ifs => kIfs ifs cond fun x => chk G (S.blk sc) (setT tg (unk Γ own)) .t cond x) (fun sc t => chkTg (S.blk sc) tg2 t) (fun sc t it => chkI G (S.blk sc) (setT tg (unk Γ own)) true k2 args2 t it)
          (fun sc ifs => kIfs ifs cond2 fun x => chk G (S.blk sc) (setT tg2 (unk (setT tg (unk Γ own)) (tgSlots tg2))) .t cond2 x) (fun sc x => chk G (S.blk sc) (setT tg2 (unk (setT tg (unk Γ own)) (tgSlots tg2))) (.j .p) el x)) = true := h
        obtain ⟨hm1, h⟩ := and_t h
        obtain ⟨hm1, ho⟩ := and_t hm1
        obtain ⟨ho, ho2⟩ := and_t ho
        obtain ⟨elt', tg', it', ifs', tg2', it2', ifs2', sc', p', e0, h1, h2, h3, h4, h5, h6, h7, h8, h9, h10⟩ := kComp2_inv h
        cases e0
        have q := ps_setLc2 (py := py) (spos := pos) (pos := p) (vs1 := tgSlots tg2) c.calm (by rw [c.N]; exact c.nd) hi' hyl hsw ((chkI_ok args c h4).2) (blk_ok c h1) (by rw [ownOf_snd]; exact all_sub ho2) (fun s H C cl fp => tg_ok (blk_co c h1 s H C cl fp) tg tg' h3)
          (fun s H C cl fp => ifs_ok h5 fun e q => (chk_ok cond (blk_co c h1 s H C cl fp) q : Good _ _ _ .t _ _).1) (fun s H C cl fp => (chkI_ok args2 (blk_co c h1 s H C cl fp) h8).1 rfl) (fun s H C cl fp => tg_ok (blk_co c h1 s H C cl fp) tg2 tg2' h7)
          (fun s H C cl fp => ifs_ok h9 fun e q => (chk_ok cond2 (blk_co c h1 s H C cl fp) q : Good _ _ _ .t _ _).1) (fun s H C cl fp => (chk_ok el (blk_co c h1 s H C cl fp) h10 : PE _ _ _)) (fun x => folded_ok h2 _ x) (fun env x => folded_ok h6 env x)
        rw [ownOf_snd] at q
        exact PSw q fun D σ H h => lc2_runO (all_sub ho) (fun i m => m) h
    | _ => cases hs
  | _ => cases hs
theorem tgn_name (c : CO G n X S) {i : Nat} {t : Expr} (h : chkTg S (.n i) t = true) : PG X t (gName i) := by
  cases t with
  | Name x p =>
    obtain ⟨h1, h2⟩ := and_t (show (decide (S.N[i]? = some x) && locB S x) = true from h)
    obtain ⟨q1, q2⟩ := c.loc h2
    exact pg_name (by rw [c.N]; exact c.nd) (by rw [c.N]; exact of_decide_eq_true h1) q1 q2
  | _ => exact nomatch (show false = true from h)
/-- the store of a target of one name -/
theorem gn_w {i : Nat} {v : V} {σ : L2.St} {H : Hp} {Q : L2.St → Hp → Prop} (h : gT (.n i) v σ H Q) : gName i v σ H Q := by
  obtain ⟨W, fp, Γ, γ, d, γ', sl, sm, r, e, q⟩ := h
  simp only [bindT, Option.some.injEq] at e
  subst e
  exact q _ _ (sl.setP i (t := .p) (.inl rfl) r) (fun j a m => (off_mem m).1) ⟨by rw [List.length_set], fun j hj => by rw [List.getElem?_set_ne (fun z => hj (by rw [z]; exact List.mem_singleton.mpr rfl))]⟩
theorem tg_of_name {tg : Tg} {x : Str} {p : Pos} (h : chkTg S tg (.Name x p) = true) : ∃ i, tg = .n i := by
  cases tg with
  | n i => exact ⟨i, rfl⟩
  | t ts => cases h
  | l ts => cases h
theorem asg_tO {ie : IE} {Γ : List Ty} {g : TG} {D : Ends} {σ : L2.St} {H : Hp} {cf : CF} (h : tAsg (tJ cf Γ ie .p) g D σ H) : tAsg (tO cf Γ ie) g D σ H := tO_of h
variable {res : Ty} {ΓL Γ : List Ty}
theorem set_ok (c : CO G n X S) {tg : Tg} {ie : IE} {t e : Expr} {pos : Pos} (ht : chkTg S tg t = true) (h : chk G S Γ (.j .p) ie e = true) (ha : asgB S t e = true) : PS X (.Assign [t] e pos) (tS (callF G.P n) res ΓL Γ (.set tg ie) (setT tg Γ)) := by
  unfold asgB at ha
  obtain ⟨ha, h3⟩ := and_t ha
  obtain ⟨h1, h2⟩ := and_t ha
  rw [Bool.or_eq_true] at h2
  rcases h2 with h2 | h2
  · exact PSw (asg_plain c h1 h2 h3 (chk_ok ie c h : PE _ _ _) (tg_ok c tg t ht)) fun D σ H h => w_set h
  · have hn : ∃ x p, t = .Name x p := by
      cases t <;> first | exact ⟨_, _, rfl⟩ | cases h2
    obtain ⟨x, p, rfl⟩ := hn
    obtain ⟨i, rfl⟩ := tg_of_name ht
    refine PSw (asgO c (.inr rfl) ht h h2) fun D σ H q => ?_
    have q := w_set q
    obtain ⟨W, fp, γ, τ, d, τ', w, sl, ev, q⟩ := q
    exact tO_of ⟨W, fp, γ, τ, d, τ', w, sl, ev, fun v W' H' f w' r => gn_w (q v W' H' f w' r)⟩
theorem own_ok (c : CO G n X S) {i : Nat} {ie : IE} {t e : Expr} {pos : Pos} (hi : i < Γ.length) (ht : chkTg S (.n i) t = true) (h : chk G S Γ .o ie e = true) (ha : asgB S t e = true) : PS X (.Assign [t] e pos) (tS (callF G.P n) res ΓL Γ (.own i .o ie) (Γ.set i .o)) := by
  unfold asgB at ha
  obtain ⟨ha, h3⟩ := and_t ha
  obtain ⟨h1, h2⟩ := and_t ha
  rw [Bool.or_eq_true] at h2
  rcases h2 with h2 | h2
  · exact PSw (asg_plain c h1 h2 h3 (chk_ok ie c h : PE _ _ _) (tgn_name c ht)) fun D σ H h => w_own hi h
  · exact PSw (asgO c (.inl rfl) ht h h2) fun D σ H q => w_own hi q
theorem asgN (c : CO G n X S) {t e : Expr} (h : (asgB S t e && !isCompr e) = true) : unstar t = true ∧ noSwapB S t e = true ∧ noStB S t e = true := by
  obtain ⟨h, h4⟩ := and_t h
  unfold asgB at h
  obtain ⟨h, h3⟩ := and_t h
  obtain ⟨h1, h2⟩ := and_t h
  exact ⟨h1, by unfold noSwapB; rw [h4]; rfl, h3⟩
theorem js_setSt {i : Nat} {cf : CF} {target e : Expr} {ie : IE} {pos : Pos} (hu : unstar target = true) (hi : i < Γ.length) (he : PE X e (tJ cf Γ ie .st)) (hg : PG X target (gName i)) (hs : swapsWithSole [target] e pos.line X.env = pure false) (hw : swappedStores [target] e X.env = pure none) :
    PS X (.Assign [target] e pos) (tS cf res ΓL Γ (.own i .st ie) (Γ.set i .st)) := PSw (ps_asg he hg hs hw (each_one hu _)) fun D σ H ⟨W0, H0, Bk, γ, τ, out, ⟨W, fp, f, b, w, sl, n⟩, e, ok⟩ => by
  simp only [execS, Option.map_eq_some_iff, Prod.exists] at e
  obtain ⟨d, τ1, e1, rfl⟩ := e
  refine ⟨W, fp, γ, τ, d, τ1, w, sl, e1, fun v W1 H1 f1 w1 r1 => ?_⟩
  obtain ⟨rfl, a, c, rfl, hst⟩ := r1
  refine ok _ H1 ⟨W1, _, f.trans f1, b.trans f1.B, w1, ((sl.mono f1).forgetB i).reslot (t := .st) (F := []) hi ⟨rfl, rfl, a, c, rfl, hst⟩ List.nodup_nil (fun j _ a ha => nomatch ha), fun j a m => ?_⟩
  have m : a ∈ (if j = i then [] else fp j) := m
  split at m
  · cases m
  · exact n j a m
theorem kAsg_inv {s : Stmt} {f : Expr → Expr → Bool} (h : kAsg s f = true) : ∃ t e p, s = .Assign [t] e p ∧ f t e = true := by
  unfold kAsg at h; split at h <;> first | exact ⟨_, _, _, rfl, h⟩ | cases h
theorem kMeth_inv {s : Stmt} {m : Str} {f g : Expr → Bool} (h : kMeth s m f g = true) : ∃ a ap b cp p, s = .Expr (.Call (.Attribute a m ap) [b] [] cp) p ∧ plainBase a = true ∧ unstar b = true ∧ (ap.endLine == cp.line) = true ∧ f a = true ∧ g b = true := by
  unfold kMeth at h; split at h <;> first | (obtain ⟨h1, h6⟩ := and_t h; obtain ⟨h1, h5⟩ := and_t h1; obtain ⟨h1, h4⟩ := and_t h1; obtain ⟨h1, h3⟩ := and_t h1; obtain ⟨h1, h2⟩ := and_t h1; cases eq_of_beq h1; exact ⟨_, _, _, _, _, rfl, h2, h3, h4, h5, h6⟩) | cases h
theorem kEx_inv {s : Stmt} {f : Expr → Bool} (h : kEx s f = true) : ∃ e p, s = .Expr e p ∧ isCompr e = false ∧ f e = true := by
  unfold kEx at h; split at h <;> first | (obtain ⟨h1, h2⟩ := and_t h; exact ⟨_, _, rfl, by simpa using h1, h2⟩) | cases h
theorem kRet_inv {s : Stmt} {f : Expr → Bool} (h : kRet s f = true) : ∃ e p, s = .Return (some e) p ∧ f e = true := by
  unfold kRet at h; split at h <;> first | exact ⟨_, _, rfl, h⟩ | cases h
theorem kRetN_inv {s : Stmt} (h : kRetN s = true) : ∃ p, s = .Return none p := by
  unfold kRetN at h; split at h <;> first | exact ⟨_, rfl⟩ | cases h
theorem kBrk_inv {s : Stmt} (h : kBrk s = true) : ∃ p, s = .Break p := by
  unfold kBrk at h; split at h <;> first | exact ⟨_, rfl⟩ | cases h
theorem kCont_inv {s : Stmt} (h : kCont s = true) : ∃ p, s = .Continue p := by
  unfold kCont at h; split at h <;> first | exact ⟨_, rfl⟩ | cases h
theorem kSet_inv {s : Stmt} {f g k : Expr → Bool} (h : kSet s f g k = true) : ∃ a b p e pos, s = .Assign [.Subscript a b p] e pos ∧ noSlice b = true ∧ isCompr e = false ∧ f a = true ∧ g b = true ∧ k e = true := by
  unfold kSet at h; split at h <;> first | (obtain ⟨h1, h5⟩ := and_t h; obtain ⟨h1, h4⟩ := and_t h1; obtain ⟨h1, h3⟩ := and_t h1; obtain ⟨h1, h2⟩ := and_t h1; exact ⟨_, _, _, _, _, rfl, h1, by simpa using h2, h3, h4, h5⟩) | cases h
theorem kFor_inv {s : Stmt} {f : Expr → Expr → Bool} {g : List Stmt → Bool} (h : kFor s f g = true) : ∃ t e b p, s = .For t e b [] p ∧ noSet e = true ∧ f t e = true ∧ g b = true := by
  unfold kFor at h; split at h <;> first | (obtain ⟨h1, h3⟩ := and_t h; obtain ⟨h1, h2⟩ := and_t h1; exact ⟨_, _, _, _, rfl, h1, h2, h3⟩) | cases h
theorem kWhl_inv {s : Stmt} {f : Expr → Bool} {g : List Stmt → Bool} (h : kWhl s f g = true) : ∃ c b p, s = .While c b [] p ∧ f c = true ∧ g b = true := by
  unfold kWhl at h; split at h <;> first | (obtain ⟨h1, h2⟩ := and_t h; exact ⟨_, _, _, rfl, h1, h2⟩) | cases h
theorem kPar_inv {i j : Nat} {s : Stmt} {f : List Expr → Bool} (h : kPar S i j s f = true) : ∃ x px y py k1 p1 a b k2 p2 p, s = .Assign [.Tuple [.Name x px, .Name y py] k1 p1] (.Tuple [a, b] k2 p2) p ∧ S.N[i]? = some x ∧ S.N[j]? = some y ∧ i ≠ j ∧ S.nm.lookup x = some .local ∧ S.nm.lookup y = some .local ∧ px.line = py.line ∧
    [a, b].all (foldedForSure 8) = false ∧ [a, b].all (constantsAlone 8) = false ∧ unstar a = true ∧ unstar b = true ∧ f [a, b] = true := by
  unfold kPar at h
  split at h <;> first | cases h | skip
  simp only [Bool.and_eq_true, decide_eq_true_eq, Bool.not_eq_true'] at h
  obtain ⟨⟨⟨⟨⟨⟨⟨⟨⟨⟨h1, h2⟩, h3⟩, h4⟩, h5⟩, h6⟩, h7⟩, h8⟩, h9⟩, h10⟩, h11⟩ := h
  exact ⟨_, _, _, _, _, _, _, _, _, _, _, rfl, h1, h2, h3, h4, h5, h6, h7, h8, h9, h10, h11⟩
theorem par_stores (c : CO G n X S) {x y : Str} {px py p1 p2 : Pos} {k1 k2 i j : Nat} {a b : Expr} (hi : S.N[i]? = some x) (hj : S.N[j]? = some y) (hij : i ≠ j) (hx : S.nm.lookup x = some .local) (hy : S.nm.lookup y = some .local) (hl : px.line = py.line) (h7 : [a, b].all (foldedForSure 8) = false) (h8 : [a, b].all (constantsAlone 8) = false) (ha : unstar a = true) (hb : unstar b = true) :
    swappedStores [.Tuple [.Name x px, .Name y py] k1 p1] (.Tuple [a, b] k2 p2) X.env = pure (some [x, y]) := by
  have hne : x ≠ y := fun z => by
    subst z
    have h1 := (List.getElem?_eq_some_iff.mp hi)
    have h2 := (List.getElem?_eq_some_iff.mp hj)
    obtain ⟨q1, e1⟩ := h1
    obtain ⟨q2, e2⟩ := h2
    exact hij ((List.getElem_inj c.nd).mp (e1.trans e2.symm))
  unfold swappedStores
  simp only [pure_bind]
  rw [c.blockKind]
  rw [if_neg (show ¬ ((!([Expr.Name x px, Expr.Name y py].length == 2 || [Expr.Name x px, Expr.Name y py].length == 3) || [a, b].length != [Expr.Name x px, Expr.Name y py].length || ScopeKind.function != ScopeKind.function) = true) from fun z => by
    have z : (!(2 == 2 || 2 == 3) || 2 != 2 || ScopeKind.function != ScopeKind.function) = true := z
    exact absurd z (by decide))]
  have e1 : locNms S [.Name x px, .Name y py] = [x, y] := by
    unfold locNms
    simp only [List.head?_cons, Option.map_some, Option.getD_some, List.filterMap_cons, locNm, hx, hy, List.filterMap_nil]
    have : (Expr.Name x px).pos.line = px.line := rfl
    rw [this, hl]
    simp
  have e3 : ([x, y].eraseDups).length = 2 := by
    rw [List.eraseDups_cons]
    have : (y == x) = false := by simpa using fun z => hne z.symm
    simp [this]
    rfl
  have key : ∀ f : Expr → Bool, (∀ e, unstar e = true → f e = false) → ¬ ([a, b].any f = true) := fun f hf => by
    simp [hf a ha, hf b hb]
  rw [if_neg (key _ (fun e he => by cases e <;> first | rfl | exact nomatch he))]
  refine key_some (?_ : _ = [x, y]) rfl e3 h7 h8 rfl
  exact (locNms_eq c [.Name x px, .Name y py]).trans e1
end
end Ev
set_option Elab.async false
set_option linter.all false
set_option maxRecDepth 100000
set_option autoImplicit false
/-! Ev18: .. soundness of the look at statements, blocks, defs. -/
namespace Ev
open PySem PySem.Spec PyProof.Rows L2
section
variable {G : PG0} {n : Nat} {X : Cx} {S : SC} {res : Ty}
theorem gd_inv {b : Bool} {r' : Option (List Ty)} {r : Option (List Ty)} (h : gd b r' = some r) : b = true ∧ r = r' := by
  unfold gd at h
  split at h
  · rename_i q; exact ⟨q, (Option.some.inj h).symm⟩
  · cases h
theorem _root_.L2.PS.wk {cf : CF} {ΓL Γ Γ1 Γ2 : List Ty} {st : Stmt} {is : IS} (h : PS X st (tS cf res ΓL Γ is Γ1)) (k : weak Γ1 Γ2 = true) : PS X st (tS cf res ΓL Γ is Γ2) :=
  PSw h fun D σ H ⟨W0, H0, Bk, γ, τ, out, sx, e, ok⟩ => ⟨W0, H0, Bk, γ, τ, out, sx, e, by
    cases out with
    | nx g t => exact fun σ1 H1 sx1 => ok σ1 H1 (sx1.weak k)
    | bk g t => exact ok
    | ct g t => exact ok
    | rt d t => exact ok⟩
theorem meet_fits {r r' q : Fl} {Γ1 : List Ty} {x : Option (List Ty)} (h : join r r' = some x) (hf : Fits x Γ1) : ∃ a b, r = some a ∧ r' = some b ∧ Fits a Γ1 ∧ Fits b Γ1 := by
  have wt : ∀ {A B C : List Ty}, weak A B = true → weak B C = true → weak A C = true := fun {A B C} h k => by
    unfold weak at h k ⊢
    rw [Bool.and_eq_true, decide_eq_true_eq, List.all_eq_true] at h k ⊢
    obtain ⟨h1, h2⟩ := h
    obtain ⟨k1, k2⟩ := k
    refine ⟨h1.trans k1, fun p hp => ?_⟩
    obtain ⟨i, hi, e⟩ := List.getElem_of_mem hp
    rw [List.length_zip] at hi
    rw [List.getElem_zip] at e
    have m1 := h2 (A[i]'(by omega), B[i]'(by omega)) (by
      have : (A.zip B)[i]'(by rw [List.length_zip]; omega) = (A[i]'(by omega), B[i]'(by omega)) := List.getElem_zip ..
      rw [← this]; exact List.getElem_mem _)
    have m2 := k2 (B[i]'(by omega), C[i]'(by omega)) (by
      have : (B.zip C)[i]'(by rw [List.length_zip]; omega) = (B[i]'(by omega), C[i]'(by omega)) := List.getElem_zip ..
      rw [← this]; exact List.getElem_mem _)
    subst e
    simp only [Bool.or_eq_true, decide_eq_true_eq] at m1 m2 ⊢
    rcases m2 with m2 | m2
    · rcases m1 with m1 | m1
      · exact .inl (m2.trans m1)
      · exact .inr (m2.trans m1)
    · exact .inr m2
  unfold join at h
  split at h
  · exact ⟨none, x, rfl, h, trivial, hf⟩
  · cases h
    exact ⟨_, none, rfl, rfl, hf, trivial⟩
  · split at h
    · rename_i Γ Γ' hw
      obtain ⟨w1, w2⟩ := and_t hw
      cases h
      exact ⟨_, _, rfl, rfl, wt w1 hf, wt w2 hf⟩
    · cases h
  · cases h
theorem fitsB_ok {r : Fl} {Γ : List Ty} (h : fitsB r Γ = true) : ∃ x, r = some x ∧ Fits x Γ := by
  unfold fitsB at h
  split at h
  · exact ⟨_, rfl, trivial⟩
  · exact ⟨_, rfl, h⟩
  · cases h
theorem weak_refl (Γ : List Ty) : weak Γ Γ = true := by
  unfold weak
  rw [Bool.and_eq_true, decide_eq_true_eq, List.all_eq_true]
  refine ⟨rfl, fun p hp => ?_⟩
  obtain ⟨i, hi, e⟩ := List.getElem_of_mem hp
  rw [List.getElem_zip] at e
  subst e
  simp
theorem noComp_sole (S : SC) (t : Expr) {e : Expr} (h : isCompr e = false) : noSwapB S t e = true := by
  unfold noSwapB
  rw [h]
  rfl
theorem kSSet_inv {s : Stmt} {f : Expr → Bool} {k : Nat} {g : Expr → Bool} (h : kSSet s f k g = true) : ∃ a kk p1 p2 e pos, s = .Assign [.Subscript a (.Constant (.int (k : Nat)) kk p1) p2] e pos ∧ isCompr e = false ∧ f a = true ∧ g e = true := by
  unfold kSSet at h; split at h <;> first | (obtain ⟨h1, h4⟩ := and_t h; obtain ⟨h1, h3⟩ := and_t h1; obtain ⟨h1, h2⟩ := and_t h1; cases of_decide_eq_true h1; exact ⟨_, _, _, _, _, _, rfl, by simpa using h2, h3, h4⟩) | cases h
theorem kRetL_inv {s : Stmt} {f : List Expr → Bool} (h : kRetL s f = true) : ∃ es p pos, s = .Return (some (.List es p)) pos ∧ f es = true := by
  unfold kRetL at h; split at h <;> first | exact ⟨_, _, _, rfl, h⟩ | cases h
theorem tm_ok (c : CO G n X S) {i : Nat} : ∀ {es : List Expr} {tm : List (Option Int)}, tmB S i es tm = true → PA X es (tTm i tm)
  | es, [], h => by
    have h : es.isEmpty = true := by cases es <;> exact h
    cases List.isEmpty_iff.mp h
    exact pa_tm0
  | es, q :: tm, h => by
    unfold tmB at h
    split at h
    · rename_i e0
      cases e0
    · rename_i e0
      cases e0
      obtain ⟨h1, h2⟩ := and_t h
      cases of_decide_eq_true h1
      exact pa_tmC (tm_ok c h2)
    · rename_i e0
      cases e0
      obtain ⟨h, h3⟩ := and_t h
      obtain ⟨h1, h2⟩ := and_t h
      exact pa_tmV h1 (name_ok c h2) (tm_ok c h3)
    · cases h
theorem kIf_inv {s : Stmt} {f : Expr → Bool} {g k : List Stmt → Fl} {r : Option (List Ty)} (h : kIf s f g k = some r) : ∃ c a b p, s = .If c a b p ∧ f c = true ∧ join (g a) (k b) = some r := by
  cases s with
  | If c a b p =>
    have h : (if f c = true then join (g a) (k b) else none) = some r := h
    split at h
    · exact ⟨_, _, _, _, rfl, by assumption, h⟩
    · cases h
  | _ => cases h
mutual
theorem chkS_ok (c : CO G n X S) : ∀ (is : IS) {ΓL Γ : List Ty} {st : Stmt} {r : Option (List Ty)}, chkS G S res ΓL Γ is st = some r → ∀ Γ1, Fits r Γ1 → PS X st (tS (callF G.P n) res ΓL Γ is Γ1)
  | .set tg e, ΓL, Γ, st, r, h, Γ1, hf => by
    obtain ⟨hg, er⟩ := gd_inv (show gd (kAsg st fun t' e' => chkTg S tg t' && chk G S Γ (.j .p) e e' && asgB S t' e') (some (setT tg Γ)) = some r from h)
    clear h
    subst er
    have h := hg
    clear hg
    obtain ⟨t', e', p, rfl, h⟩ := kAsg_inv h
    obtain ⟨h1, h3⟩ := and_t h
    obtain ⟨h1, h2⟩ := and_t h1
    exact (set_ok c h1 h2 h3).wk hf
  | .own i t e, ΓL, Γ, st, r, h, Γ1, hf => by
    cases t with
    | o =>
      obtain ⟨hg, er⟩ := gd_inv (show gd (decide (i < Γ.length) && kAsg st fun t' e' => chkTg S (.n i) t' && chk G S Γ .o e e' && asgB S t' e') (some (Γ.set i .o)) = some r from h)
      clear h
      subst er
      have h := hg
      clear hg
      obtain ⟨h0, h⟩ := and_t h
      obtain ⟨t', e', p, rfl, h⟩ := kAsg_inv h
      obtain ⟨h1, h3⟩ := and_t h
      obtain ⟨h1, h2⟩ := and_t h1
      exact (own_ok c (of_decide_eq_true h0) h1 h2 h3).wk hf
    | p =>
      obtain ⟨hg, er⟩ := gd_inv (show gd (kAsg st fun t' e' => chkTg S (.n i) t' && chk G S Γ (.j .p) e e' && (asgB S t' e' && !isCompr e')) (some (Γ.set i .p)) = some r from h)
      clear h
      subst er
      have h := hg
      clear hg
      obtain ⟨t', e', p, rfl, h⟩ := kAsg_inv h
      obtain ⟨h1, h3⟩ := and_t h
      obtain ⟨h1, h2⟩ := and_t h1
      obtain ⟨q1, q2, q3⟩ := asgN c h3
      exact (js_setD q1 (.inl rfl) (chk_ok e c h2 : PE _ _ _) (tgn_name c h1) (sole_false c q2 _) (stores_none c q3)).wk hf
    | pK =>
      obtain ⟨hg, er⟩ := gd_inv (show gd (kAsg st fun t' e' => chkTg S (.n i) t' && chk G S Γ (.j .pK) e e' && (asgB S t' e' && !isCompr e')) (some (Γ.set i .pK)) = some r from h)
      clear h
      subst er
      have h := hg
      clear hg
      obtain ⟨t', e', p, rfl, h⟩ := kAsg_inv h
      obtain ⟨h1, h3⟩ := and_t h
      obtain ⟨h1, h2⟩ := and_t h1
      obtain ⟨q1, q2, q3⟩ := asgN c h3
      exact (js_setD q1 (.inr (.inl rfl)) (chk_ok e c h2 : PE _ _ _) (tgn_name c h1) (sole_false c q2 _) (stores_none c q3)).wk hf
    | pT =>
      obtain ⟨hg, er⟩ := gd_inv (show gd (kAsg st fun t' e' => chkTg S (.n i) t' && chk G S Γ (.j .pT) e e' && (asgB S t' e' && !isCompr e')) (some (Γ.set i .pT)) = some r from h)
      clear h
      subst er
      have h := hg
      clear hg
      obtain ⟨t', e', p, rfl, h⟩ := kAsg_inv h
      obtain ⟨h1, h3⟩ := and_t h
      obtain ⟨h1, h2⟩ := and_t h1
      obtain ⟨q1, q2, q3⟩ := asgN c h3
      exact (js_setD q1 (.inr (.inr rfl)) (chk_ok e c h2 : PE _ _ _) (tgn_name c h1) (sole_false c q2 _) (stores_none c q3)).wk hf
    | st =>
      obtain ⟨hg, er⟩ := gd_inv (show gd (decide (i < Γ.length) && kAsg st fun t' e' => chkTg S (.n i) t' && chk G S Γ (.j .st) e e' && (asgB S t' e' && !isCompr e')) (some (Γ.set i .st)) = some r from h)
      clear h
      subst er
      have h := hg
      clear hg
      obtain ⟨h0, h⟩ := and_t h
      obtain ⟨t', e', p, rfl, h⟩ := kAsg_inv h
      obtain ⟨h1, h3⟩ := and_t h
      obtain ⟨h1, h2⟩ := and_t h1
      obtain ⟨q1, q2, q3⟩ := asgN c h3
      exact (js_setSt q1 (of_decide_eq_true h0) (chk_ok e c h2 : PE _ _ _) (tgn_name c h1) (sole_false c q2 _) (stores_none c q3)).wk hf
    | dK =>
      by_cases hdc : ∃ a, e = .dcp a
      · obtain ⟨a, rfl⟩ := hdc
        obtain ⟨hg, er⟩ := gd_inv (show gd (decide (i < Γ.length) && kAsg st fun t' e' => chkTg S (.n i) t' && kCall1 e' (fun x => bWord G S x "dict") (fun x => chk G S Γ (.d false) a x) && asgB S t' e') (some (Γ.set i .dK)) = some r from h)
        clear h
        subst er
        have h := hg
        clear hg
        obtain ⟨h00, h⟩ := and_t h
        obtain ⟨t', e', p, rfl, h⟩ := kAsg_inv h
        obtain ⟨h1, h3⟩ := and_t h
        obtain ⟨h11, h2⟩ := and_t h1
        obtain ⟨x, px, a', p', rfl, k1, k2, k3⟩ := kCall1_inv h2
        obtain ⟨rfl, g1, g2⟩ := word_ok c k2
        obtain ⟨q1, q2, q3⟩ := asgN c (by rw [h3]; rfl)
        exact (js_dcp q1 (of_decide_eq_true h00) g1 g2 k1 (chk_ok a c k3 : PE _ _ _) (tgn_name c h11) (sole_false c q2 _) (stores_none c q3)).wk hf
      · have h : gd (decide (i < Γ.length) && isDnew false e && kAsg st fun t' e' => chkTg S (.n i) t' && isDict0 e' && asgB S t' e') (some (Γ.set i .dK)) = some r := by
          cases e <;> first | exact absurd ⟨_, rfl⟩ hdc | exact h
        obtain ⟨hg, er⟩ := gd_inv (show gd (decide (i < Γ.length) && isDnew false e && kAsg st fun t' e' => chkTg S (.n i) t' && isDict0 e' && asgB S t' e') (some (Γ.set i .dK)) = some r from h)
        clear h
        subst er
        have h := hg
        clear hg
        obtain ⟨h0, h⟩ := and_t h
        obtain ⟨h00, hd⟩ := and_t h0
        obtain ⟨t', e', p, rfl, h⟩ := kAsg_inv h
        obtain ⟨h1, h3⟩ := and_t h
        obtain ⟨h11, h2⟩ := and_t h1
        unfold isDict0 at h2
        split at h2 <;> first | contradiction | skip
        obtain ⟨q1, q2, q3⟩ := asgN c (by rw [h3]; rfl)
        unfold isDnew at hd
        split at hd <;> first | contradiction | skip
        cases of_decide_eq_true hd
        exact (js_dnew (t := false) q1 (of_decide_eq_true h00) (tgn_name c h11) (sole_false c q2 _) (stores_none c q3)).wk hf
    | dT =>
      obtain ⟨hg, er⟩ := gd_inv (show gd (decide (i < Γ.length) && isDnew true e && kAsg st fun t' e' => chkTg S (.n i) t' && isDict0 e' && asgB S t' e') (some (Γ.set i .dT)) = some r from h)
      clear h
      subst er
      have h := hg
      clear hg
      obtain ⟨h0, h⟩ := and_t h
      obtain ⟨h00, hd⟩ := and_t h0
      obtain ⟨t', e', p, rfl, h⟩ := kAsg_inv h
      obtain ⟨h1, h3⟩ := and_t h
      obtain ⟨h11, h2⟩ := and_t h1
      unfold isDict0 at h2
      split at h2 <;> first | contradiction | skip
      obtain ⟨q1, q2, q3⟩ := asgN c (by rw [h3]; rfl)
      unfold isDnew at hd
      split at hd <;> first | contradiction | skip
      cases of_decide_eq_true hd
      exact (js_dnew (t := true) q1 (of_decide_eq_true h00) (tgn_name c h11) (sole_false c q2 _) (stores_none c q3)).wk hf
    | u => exact nomatch (show (none : Fl) = some r from h)
    | oo => exact nomatch (show (none : Fl) = some r from h)
    | cl => exact nomatch (show (none : Fl) = some r from h)
  | .par i j a b, ΓL, Γ, st, r, h, Γ1, hf => by
    obtain ⟨hg, er⟩ := gd_inv (show gd (kPar S i j st fun es => chkPs G S Γ [a, b] es) (some ((Γ.set i .p).set j .p)) = some r from h)
    clear h
    subst er
    have h := hg
    clear hg
    obtain ⟨x, px, y, py, k1, p1, a', b', k2, p2, p, rfl, h1, h2, h3, h4, h5, h6, h7, h8, h9, h10, h11⟩ := kPar_inv h
    exact (js_par c.calm (by rw [c.N]; exact c.nd) (by rw [c.N]; exact h1) (by rw [c.N]; exact h2) h3 (by rw [c.nm]; exact h4) (by rw [c.nm]; exact h5) (chkPs_ok [a, b] c h11).1 (par_stores c h1 h2 h3 h4 h5 h6 h7 h8 h9 h10)).wk hf
  | .setix i k e, ΓL, Γ, st, r, h, Γ1, hf => by
    obtain ⟨hg, er⟩ := gd_inv (show gd (decide (ty Γ i = .o) && kSet st (nameB S i) (fun x => chk G S Γ .b k x) (fun x => chk G S Γ (.j .p) e x)) (some Γ) = some r from h)
    clear h
    subst er
    have h := hg
    clear hg
    obtain ⟨h0, h⟩ := and_t h
    obtain ⟨a, b, p, e', pos, rfl, h1, h2, h3, h4, h5⟩ := kSet_inv h
    refine (js_setix h1 (name_ok c h3) (of_decide_eq_true h0) (chk_ok e c h5 : PE _ _ _) (chk_ok k c h4 : PE _ _ _) (sole_false c (noComp_sole S _ h2) _) ?_).wk hf
    exact stores_none c (by unfold noStB; cases e' <;> rfl)
  | .app i e, ΓL, Γ, st, r, h, Γ1, hf => by
    obtain ⟨hg, er⟩ := gd_inv (show gd (decide (ty Γ i = .o) && kMeth st "append" (nameB S i) (fun x => chk G S Γ (.j .p) e x)) (some Γ) = some r from h)
    clear h
    subst er
    have h := hg
    clear hg
    obtain ⟨h0, h⟩ := and_t h
    obtain ⟨a, ap, b, cp, p, rfl, h1, h2, h3, h4, h5⟩ := kMeth_inv h
    exact (js_app (name_ok c h4) h1 (of_decide_eq_true h0) (chk_ok e c h5 : PE _ _ _) h2 h3).wk hf
  | .ext i e, ΓL, Γ, st, r, h, Γ1, hf => by
    obtain ⟨hg, er⟩ := gd_inv (show gd (decide (ty Γ i = .o) && kMeth st "extend" (nameB S i) (fun x => chk G S Γ (.j .p) e x)) (some Γ) = some r from h)
    clear h
    subst er
    have h := hg
    clear hg
    obtain ⟨h0, h⟩ := and_t h
    obtain ⟨a, ap, b, cp, p, rfl, h1, h2, h3, h4, h5⟩ := kMeth_inv h
    exact (js_ext (name_ok c h4) h1 (of_decide_eq_true h0) (chk_ok e c h5 : PE _ _ _) h2 h3).wk hf
  | .ex e, ΓL, Γ, st, r, h, Γ1, hf => by
    obtain ⟨hg, er⟩ := gd_inv (show gd (kEx st fun x => chk G S Γ (.j .p) e x) (some Γ) = some r from h)
    clear h
    subst er
    have h := hg
    clear hg
    obtain ⟨e', p, rfl, h1, h2⟩ := kEx_inv h
    exact (js_ex (chk_ok e c h2 : PE _ _ _) (by cases e' <;> first | rfl | cases h1)).wk hf
  | .ret e, ΓL, Γ, st, r, h, Γ1, hf => by
    obtain ⟨hg, er⟩ := gd_inv (show gd (kRet st fun x => chk G S Γ (.j res) e x) none = some r from h)
    clear h
    subst er
    have h := hg
    clear hg
    obtain ⟨e', p, rfl, h1⟩ := kRet_inv h
    exact js_ret (chk_ok e c h1 : PE _ _ _)
  | .retN, ΓL, Γ, st, r, h, Γ1, hf => by
    obtain ⟨hg, er⟩ := gd_inv (show gd (kRetN st && decide (res = .p)) none = some r from h)
    clear h
    subst er
    have h := hg
    clear hg
    obtain ⟨h1, h2⟩ := and_t h
    obtain ⟨p, rfl⟩ := kRetN_inv h1
    exact js_retN (of_decide_eq_true h2)
  | .ite d a b, ΓL, Γ, st, r, h, Γ1, hf => by
    have h : kIf st (fun x => chk G S Γ .t d x) (fun l => chkSs G S res ΓL Γ a l) (fun l => chkSs G S res ΓL Γ b l) = some r := h
    obtain ⟨d', a', b', p, rfl, hd, h⟩ := kIf_inv h
    · · obtain ⟨ra, rb, h1, h2, f1, f2⟩ := meet_fits (q := none) h hf
        have gdt : Good (callF G.P n) Γ X .t d d' := chk_ok d c hd
        exact js_ite gdt.1 (chkSs_ok c a h1 Γ1 f1) (chkSs_ok c b h2 Γ1 f2)
  | .for tg k args body ks Gl, ΓL, Γ, st, r, h, Γ1, hf => by
    obtain ⟨hg, er⟩ := gd_inv (show gd (weak Γ Gl && killB ks Gl && kFor st (fun t' e' => chkTg S tg t' && chkI G S Γ true k args t' e') (fun l => fitsB (chkSs G S res Gl (setT tg Gl) body l) Gl)) (some Gl) = some r from h)
    clear h
    subst er
    have h := hg
    clear hg
    obtain ⟨h0, h⟩ := and_t h
    obtain ⟨h0, hk⟩ := and_t h0
    obtain ⟨t', e', b', p, rfl, h1, h2, h3⟩ := kFor_inv h
    obtain ⟨h4, h5⟩ := and_t h2
    obtain ⟨x, e1, f1⟩ := fitsB_ok h3
    exact (js_for c.xe c.calm h0 ((chkI_ok args c h5).1 rfl) (tg_ok c tg t' h4) (chkSs_ok c body e1 Gl f1) (weak_refl Gl) (fun i m => by unfold killB at hk; rw [List.all_eq_true] at hk; exact of_decide_eq_true (hk i m)) (fun x => folded_ok h1 _ x)).wk hf
  | .whl d body ks Gl, ΓL, Γ, st, r, h, Γ1, hf => by
    obtain ⟨hg, er⟩ := gd_inv (show gd (weak Γ Gl && killB ks Gl && kWhl st (fun x => chk G S Gl .t d x) (fun l => fitsB (chkSs G S res Gl Gl body l) Gl)) (some Gl) = some r from h)
    clear h
    subst er
    have h := hg
    clear hg
    obtain ⟨h0, h⟩ := and_t h
    obtain ⟨h0, hk⟩ := and_t h0
    obtain ⟨d', b', p, rfl, h2, h3⟩ := kWhl_inv h
    obtain ⟨x, e1, f1⟩ := fitsB_ok h3
    have gdt : Good (callF G.P n) Gl X .t d d' := chk_ok d c h2
    exact (js_whl c.xe h0 gdt.1 (chkSs_ok c body e1 Gl f1) (weak_refl Gl) (fun i m => by unfold killB at hk; rw [List.all_eq_true] at hk; exact of_decide_eq_true (hk i m))).wk hf
  | .brk, ΓL, Γ, st, r, h, Γ1, hf => by
    obtain ⟨hg, er⟩ := gd_inv (show gd (kBrk st && weak Γ ΓL) none = some r from h)
    clear h
    subst er
    have h := hg
    clear hg
    obtain ⟨h1, h2⟩ := and_t h
    obtain ⟨p, rfl⟩ := kBrk_inv h1
    exact js_brk h2
  | .cont, ΓL, Γ, st, r, h, Γ1, hf => by
    obtain ⟨hg, er⟩ := gd_inv (show gd (kCont st && weak Γ ΓL) none = some r from h)
    clear h
    subst er
    have h := hg
    clear hg
    obtain ⟨h1, h2⟩ := and_t h
    obtain ⟨p, rfl⟩ := kCont_inv h1
    exact js_cont h2
  | .setix2 _ _ _ _, ΓL, Γ, st, r, h, Γ1, hf => nomatch (show (none : Fl) = some r from h)
  | .setd t i k e, ΓL, Γ, st, r, h, Γ1, hf => by
    obtain ⟨hg, er⟩ := gd_inv (show gd (decide (ty Γ i = if t then .dT else .dK) && kSet st (nameB S i) (fun x => chk G S Γ .b k x) (fun x => chk G S Γ (.j .p) e x)) (some Γ) = some r from h)
    clear h
    subst er
    have h := hg
    clear hg
    obtain ⟨h0, h⟩ := and_t h
    obtain ⟨a, b, p, e', pos, rfl, h1, h2, h3, h4, h5⟩ := kSet_inv h
    exact (js_setd c.hu (name_ok c h3) (of_decide_eq_true h0) (chk_ok e c h5 : PE _ _ _) (chk_ok k c h4 : PE _ _ _) (show swapsWithSole [.Subscript a b p] e' pos.line X.env = pure false from sole_false c (noComp_sole S _ h2) _)).wk hf
  | .pop _ _, ΓL, Γ, st, r, h, Γ1, hf => nomatch (show (none : Fl) = some r from h)
  | .frz _, ΓL, Γ, st, r, h, Γ1, hf => nomatch (show (none : Fl) = some r from h)
  | .cget j i k, ΓL, Γ, st, r, h, Γ1, hf => by
    obtain ⟨hg, er⟩ := gd_inv (show gd (decide (j < Γ.length) && decide (ty Γ i = .st) && kAsg st fun t' e' => chkTg S (.n j) t' && kStx e' (nameB S i) k) (some (Γ.set j .cl)) = some r from h)
    clear h
    subst er
    have h := hg
    clear hg
    obtain ⟨h0, h⟩ := and_t h
    obtain ⟨hj, ht⟩ := and_t h0
    obtain ⟨t', e', p, rfl, h⟩ := kAsg_inv h
    obtain ⟨h1, h2⟩ := and_t h
    obtain ⟨a, kk, p1, p2, rfl, h3⟩ := kStx_inv h2
    have hu : unstar t' = true := by
      cases t' <;> first | rfl | exact nomatch (show false = true from h1)
    have hw : noStB S t' (.Subscript a (.Constant (.int (k : Nat)) kk p1) p2) = true := by
      cases t' <;> first | rfl | exact nomatch (show false = true from h1)
    exact (js_cget hu (of_decide_eq_true hj) (name_ok c h3) (of_decide_eq_true ht) (tgn_name c h1) (sole_false c (noComp_sole S _ rfl) _) (stores_none c hw)).wk hf
  | .cset i k e, ΓL, Γ, st, r, h, Γ1, hf => by
    obtain ⟨hg, er⟩ := gd_inv (show gd (decide (ty Γ i = .cl) && kSet st (nameB S i) (fun x => chk G S Γ .b k x) (fun x => chk G S Γ (.j .p) e x)) (some Γ) = some r from h)
    clear h
    subst er
    have h := hg
    clear hg
    obtain ⟨h0, h⟩ := and_t h
    obtain ⟨a, b, p, e', pos, rfl, h1, h2, h3, h4, h5⟩ := kSet_inv h
    refine (js_cset h1 (name_ok c h3) (of_decide_eq_true h0) (chk_ok e c h5 : PE _ _ _) (chk_ok k c h4 : PE _ _ _) (sole_false c (noComp_sole S _ h2) _) ?_).wk hf
    exact stores_none c (by unfold noStB; cases e' <;> rfl)
  | .sset i k e, ΓL, Γ, st, r, h, Γ1, hf => by
    obtain ⟨hg, er⟩ := gd_inv (show gd (decide (ty Γ i = .st) && kSSet st (nameB S i) k (fun x => chk G S Γ (.j .p) e x)) (some Γ) = some r from h)
    clear h
    subst er
    have h := hg
    clear hg
    obtain ⟨h0, h⟩ := and_t h
    obtain ⟨a, kk, p1, p2, e', pos, rfl, h1, h2, h3⟩ := kSSet_inv h
    refine (js_sset (name_ok c h2) (of_decide_eq_true h0) (chk_ok e c h3 : PE _ _ _) (sole_false c (noComp_sole S _ h1) _) ?_).wk hf
    exact stores_none c (by unfold noStB; cases e' <;> rfl)
  | .retSt i tm, ΓL, Γ, st, r, h, Γ1, hf => by
    obtain ⟨hg, er⟩ := gd_inv (show gd (decide (res = .st) && decide (ty Γ i = .o) && decide (tm.length ≤ 1000) && kRetL st (fun es => tmB S i es tm)) none = some r from h)
    clear h
    subst er
    have h := hg
    clear hg
    obtain ⟨h0, h⟩ := and_t h
    obtain ⟨h0, hl⟩ := and_t h0
    obtain ⟨hr, ht⟩ := and_t h0
    obtain ⟨es, p, pos, rfl, h1⟩ := kRetL_inv h
    exact js_retSt (of_decide_eq_true hr) (of_decide_eq_true ht) (of_decide_eq_true hl) (tm_ok c h1)
theorem chkSs_ok (c : CO G n X S) : ∀ (iss : List IS) {ΓL Γ : List Ty} {sts : List Stmt} {r : Option (List Ty)}, chkSs G S res ΓL Γ iss sts = some r → ∀ Γ1, Fits r Γ1 → PSs X sts (tSs (callF G.P n) res ΓL Γ iss Γ1)
  | [], ΓL, Γ, sts, r, h, Γ1, hf => by
    cases sts with
    | nil =>
      cases (show some (some Γ) = some r from h)
      exact jss_weak jss_nil hf
    | cons s ss => exact nomatch (show (none : Fl) = some r from h)
  | i :: is, ΓL, Γ, sts, r, h, Γ1, hf => by
    by_cases hz : ∃ k, i = .frz k
    · obtain ⟨k, rfl⟩ := hz
      have h : (match frzT (ty Γ k) with | some t => chkSs G S res ΓL (Γ.set k t) is sts | none => none) = some r := h
      cases ht : frzT (ty Γ k) with
      | none => rw [ht] at h; cases h
      | some t =>
        rw [ht] at h
        exact jss_frz ht (chkSs_ok c is h Γ1 hf)
    · have hnf : chkSs.isFrz i = none := by
        cases i <;> first | rfl | exact absurd ⟨_, rfl⟩ hz
      have h : (match (generalizing := false) chkSs.isFrz i with
        | some k => (match frzT (ty Γ k) with | some t => chkSs G S res ΓL (Γ.set k t) is sts | none => none)
        | none => (match (generalizing := false) sts with
          | [] => none
          | s :: ss => (match chkS G S res ΓL Γ i s with
            | none => none
            | some none => if is.isEmpty && ss.isEmpty then some none else none
            | some (some Γ1) => chkSs G S res ΓL Γ1 is ss) : Fl)) = some r := h
      rw [hnf] at h
      cases sts with
      | nil => cases h
      | cons s ss =>
        have h : (match (generalizing := false) chkS G S res ΓL Γ i s with
            | none => none
            | some none => if is.isEmpty && ss.isEmpty then some none else none
            | some (some Γ1) => chkSs G S res ΓL Γ1 is ss : Fl) = some r := h
        cases hs : chkS G S res ΓL Γ i s with
        | none => rw [hs] at h; cases h
        | some q =>
          rw [hs] at h
          cases q with
          | none =>
            have h : (if (is.isEmpty && ss.isEmpty) = true then some none else none : Fl) = some r := h
            split at h
            · rename_i hq
              obtain ⟨h1, h2⟩ := and_t hq
              have e1 := List.isEmpty_iff.mp h1
              have e2 := List.isEmpty_iff.mp h2
              subst e1 e2
              exact jss_cons (chkS_ok c i hs Γ1 trivial) jss_nil
            · cases h
          | some Γ2 => exact jss_cons (chkS_ok c i hs Γ2 (weak_refl Γ2)) (chkSs_ok c is h Γ1 hf)
end
end
end Ev
set_option Elab.async false
set_option linter.all false
set_option maxRecDepth 100000
set_option autoImplicit false
/-! Ev19: defs. -/
namespace Ev
open PySem PySem.Spec PyProof.Rows L2
def okEnd (res : Ty) : Fl → Bool
  | some none => true
  | some (some _) => decide (res = .p)
  | none => false
def parTy (t : Ty) : Bool := decide (t = .p) || decide (t = .pK) || decide (t = .pT) || decide (t = .st)
def chkD (G : PG0) (N ps : List Str) (pty : List Ty) (res : Ty) (b : List IS) (st : Stmt) : Bool :=
  decide N.Nodup && decide ((defScope st).kind = .function) && !(defScope st).isCoroutine && !(defScope st).isGenerator && decide (N.take ps.length = ps) && ps.all (fun x => decide ((defScope st).names.lookup x = some .local) || decide ((defScope st).names.lookup x = some .cell))
  && (defScope st).names.all (fun y => decide (y.2 ≠ .free)) && decide (pty.length = ps.length) && pty.all parTy && okEnd res (chkSs G ⟨N, (defScope st).names, none, false⟩ res [] (pty ++ List.replicate (N.length - pty.length) .u) b (defBody st))
theorem getD_append_lt {α : Type} {l r : List α} {i : Nat} {d : α} (h : i < l.length) : (l ++ r).getD i d = l.getD i d := by
  rw [List.getD_eq_getElem?_getD, List.getD_eq_getElem?_getD, List.getElem?_append_left h]
theorem getD_rep {α : Type} {l : List α} {n i : Nat} {d : α} (h : ¬ i < l.length) : (l ++ List.replicate n d).getD i d = d := by
  rw [List.getD_eq_getElem?_getD, List.getElem?_append_right (by omega)]
  by_cases c : i - l.length < n
  · rw [List.getElem?_replicate, if_pos c]; rfl
  · rw [List.getElem?_replicate, if_neg c]; rfl
theorem JvA.get {W : Wd} : ∀ {ts : List Ty} {vs : List V} {ds : List D}, JvA W ts vs ds → ∀ i, i < ts.length → ∃ t v d, ts[i]? = some t ∧ vs[i]? = some v ∧ ds[i]? = some d ∧ Jv W t v d
  | [], [], [], _, i, hi => absurd hi (by simp)
  | t :: ts, v :: vs, d :: ds, h, 0, _ => ⟨t, v, d, rfl, rfl, rfl, h.1⟩
  | t :: ts, v :: vs, d :: ds, h, i + 1, hi => by
    obtain ⟨t', v', d', h1, h2, h3, h4⟩ := JvA.get h.2 i (by simpa using hi)
    exact ⟨t', v', d', by simpa using h1, by simpa using h2, by simpa using h3, h4⟩
theorem jv_slot {W : Wd} {H : Hp} {t : Ty} {v : V} {d : D} (h : Jv W t v d) (ht : parTy t = true) : Slot W H t (some d) (some v) [] := by
  cases t with
  | p => exact ⟨rfl, d, v, rfl, rfl, h⟩
  | pK => exact ⟨rfl, d, v, rfl, rfl, h⟩
  | pT => exact ⟨rfl, d, v, rfl, rfl, h⟩
  | st =>
    obtain ⟨rfl, a, c, rfl, e⟩ := h
    exact ⟨rfl, rfl, a, c, rfl, e⟩
  | _ => cases ht
theorem sl_start {W : Wd} {H : Hp} {ts : List Ty} {vs : List V} {ds : List D} {N : List Str} (h : JvA W ts vs ds) (hp : ts.all parTy = true) : SL W (fun _ => []) (ts ++ List.replicate (N.length - ts.length) .u) (ds.map some ++ List.replicate (N.length - ds.length) none) (L2.start N vs) H := by
  obtain ⟨l1, l2⟩ := h.len
  refine ⟨fun i => ?_, fun _ => List.nodup_nil, fun i j _ a m => (List.not_mem_nil m).elim, ?_, ?_⟩
  · by_cases hi : i < ts.length
    · obtain ⟨t, v, d, h1, h2, h3, h4⟩ := h.get i hi
      have ht : parTy t = true := by
        rw [List.all_eq_true] at hp
        exact hp t (List.mem_iff_getElem?.mpr ⟨i, h1⟩)
      unfold ty rd L2.start
      rw [getD_append_lt hi, getD_append_lt (by rw [List.length_map]; omega), getD_append_lt (by rw [List.length_map]; omega), List.getD_eq_getElem?_getD, h1, List.getD_eq_getElem?_getD, List.getElem?_map, h3, List.getD_eq_getElem?_getD, List.getElem?_map, h2]
      exact jv_slot h4 ht
    · have : ty (ts ++ List.replicate (N.length - ts.length) .u) i = .u := getD_rep hi
      rw [this]
      rfl
  · unfold L2.start
    simp only [List.length_append, List.length_map, List.length_replicate]
    omega
  · unfold L2.start
    simp only [List.length_append, List.length_map, List.length_replicate]
    omega
theorem runB_some {cf : CF} {nv : Nat} {b : List IS} {ds : List D} {τ τ' : Tape} {d : D} (h : runB cf nv b ds τ = some (d, τ')) :
    ∃ o, execSs cf b (ds.map some ++ List.replicate (nv - ds.length) none) τ = some o ∧ ((∃ γ, o = .nx γ τ' ∧ d = .none) ∨ o = .rt d τ') := by
  unfold runB at h
  obtain ⟨o, e1, e2⟩ := Option.bind_eq_some_iff.mp h
  refine ⟨o, e1, ?_⟩
  cases o with
  | nx γ t => cases e2; exact .inl ⟨γ, rfl, rfl⟩
  | bk γ t => cases e2
  | ct γ t => cases e2
  | rt d t => cases e2; exact .inr rfl
/-- a def of the text behind the top -/
abbrev FnP (K : PySem.W.Frag) (x : Str) (st : Stmt) (f : Addr) (fd : FuncData) : Prop := FunD K x x (defArgs st) (defBody st) (defScope st) [] [] f fd
theorem fnP_ok {P : Program} {w : World} {K : PySem.W.Frag} {mg : Str → Option Value} {base : Heap} {x : Str} {st : Stmt} {f : Addr} {fd : FuncData} {N ps : List Str} {k : Nat} {sp : Sp} (F : FnP K x st f fd) (S : FnScope N ps (defScope st)) (len : ∀ vs H Q E, sp vs H Q E → vs.length = ps.length)
    (hbody : ∀ (cdv : Value) (A : Around) (outer : List PySem.Env) (s : Shared) (H : Hp) (vs : List V) (Q : VK) (E : XK), Room k (A.deeper (envOfC x (defScope st) s.heap.objs.size f cdv)) → sp vs H Q E →
      ∃ t, PSs (cxOf CX0 P w K mg base N x (defScope st) f cdv A outer s H E).nox (defBody st) t ∧ t { nx := fun _ H' => Q .non H', rt := Q } (L2.start N vs) H) : FnOk P w K mg base CX0 (k + 1) f fd ps sp :=
  F.ok S len fun cdv A outer s H vs Q E hr h => let ⟨t, h1, h2⟩ := hbody cdv A outer s H vs Q E hr h; ⟨t, h1.nox, h2⟩
section
variable {P : Program} {w : World} {K : PySem.W.Frag} {mg : Str → Option Value} {base : Heap} {G : PG0}
/-- what the defs' facts give at a depth -/
def Calls (P : Program) (w : World) (K : PySem.W.Frag) (mg : Str → Option Value) (base : Heap) (G : PG0) (n : Nat) : Prop :=
  ∀ f fd x, G.P[f]? = some fd → G.fn[f]? = some x → ∃ fa fdt ps, FnOk P w K mg base CX0 n fa fdt ps (spC (callF G.P n) fd.pty fd.res f) ∧ mg x = some (.ref fa) ∧ PySem.W.keepIn K (.ref fa) = true ∧ Binds K fdt ps []
theorem body_ok {n f : Nat} (hbl : ∀ x ∈ G.bl, mg x = none) (hc : Calls P w K mg base G n) {x : Str} {st : Stmt} {fa : Addr} {fdt : FuncData} {N ps : List Str} {pty : List Ty} {res : Ty} {b : List IS} (F : FnP K x st fa fdt) (hf : G.P[f]? = some (.body pty res N.length b)) (h : chkD G N ps pty res b st = true) :
    FnOk P w K mg base CX0 (n + 1) fa fdt ps (spC (callF G.P (n + 1)) pty res f) := by
  unfold chkD at h
  obtain ⟨h, h10⟩ := and_t h
  obtain ⟨h, h9⟩ := and_t h
  obtain ⟨h, h8⟩ := and_t h
  obtain ⟨h, h7⟩ := and_t h
  obtain ⟨h, h6⟩ := and_t h
  obtain ⟨h, h5⟩ := and_t h
  obtain ⟨h, h4⟩ := and_t h
  obtain ⟨h, h3⟩ := and_t h
  obtain ⟨h1, h2⟩ := and_t h
  have h8 : pty.length = ps.length := of_decide_eq_true h8
  have hnd : N.Nodup := of_decide_eq_true h1
  refine fnP_ok F ⟨of_decide_eq_true h2, by simpa using h3, by simpa using h4, hnd, of_decide_eq_true h5, fun y hy => ?_, fun y hy => ?_⟩ (fun vs H Q E s => s.1.trans h8) fun cdv A outer s H vs Q E hr sp => ?_
  · rw [List.all_eq_true] at h6
    have := h6 y hy
    simpa using this
  · rw [List.all_eq_true] at h7
    exact of_decide_eq_true (h7 y hy)
  · obtain ⟨hl, W, τ, ds, d, τ', w', r, e, q⟩ := sp
    have e : (match G.P[f]? with | some (.body _ _ nv b) => runB (callF G.P n) nv b ds τ | some (.prim _ _ g) => g ds τ | none => none : R) = some (d, τ') := e
    rw [hf] at e
    have e : runB (callF G.P n) N.length b ds τ = some (d, τ') := e
    obtain ⟨o, e1, e2⟩ := runB_some e
    have co : CO G n (cxOf CX0 P w K mg base N x (defScope st) fa cdv A outer s H E).nox ⟨N, (defScope st).names, none, false⟩ := ⟨rfl, hnd, rfl, of_decide_eq_true h2, rfl, rfl, hr, fun _ _ => rfl, hbl, hc, fun h => nomatch h⟩
    have fin : ∀ v W' H', FrE W H W' H' → WI W' τ' H' → Jv W' res v d → Q v H' := q
    cases hr' : chkSs G ⟨N, (defScope st).names, none, false⟩ res [] (pty ++ List.replicate (N.length - pty.length) .u) b (defBody st) with
    | none => rw [hr'] at h10; cases h10
    | some rr =>
      rw [hr'] at h10
      have key : ∀ Γ1, Fits rr Γ1 → (rr = none ∨ res = .p) → (rr = none → ∀ γ t, o ≠ .nx γ t) → ∃ t, PSs (cxOf CX0 P w K mg base N x (defScope st) fa cdv A outer s H E).nox (defBody st) t ∧ t { nx := fun _ H' => Q .non H', rt := Q } (L2.start N vs) H := fun Γ1 hfit hres hno => by
        refine ⟨_, chkSs_ok co b hr' Γ1 hfit, W, H, W.B, _, τ, o, ⟨W, fun _ => [], FrE.refl W H, Same.refl _, w', sl_start r h9, fun i a m => (List.not_mem_nil m).elim⟩, e1, ?_⟩
        rcases e2 with ⟨γ, rfl, rfl⟩ | rfl
        · intro σ1 H1 ⟨W1, fp, f1, b1, w1, sl1, n1⟩
          rcases hres with hres | hres
          · exact absurd rfl (hno hres _ _)
          · exact fin .non W1 H1 f1 w1 (by rw [hres]; exact .non)
        · intro v H1 ⟨W1, f1, w1, r1⟩
          exact fin v W1 H1 f1 w1 r1
      cases rr with
      | none =>
        by_cases hnx : ∃ γ t, o = .nx γ t
        · -- a block that never ends by itself does not: any claim of its end may be asked
          obtain ⟨γ, t, rfl⟩ := hnx
          refine ⟨_, chkSs_ok co b hr' (List.replicate (γ.length + 1) .u) trivial, W, H, W.B, _, τ, _, ⟨W, fun _ => [], FrE.refl W H, Same.refl _, w', sl_start r h9, fun i a m => (List.not_mem_nil m).elim⟩, e1, ?_⟩
          intro σ1 H1 ⟨W1, fp, f1, b1, w1, sl1, n1⟩
          have l1 := sl1.lenG
          have l2 := sl1.len
          rw [List.length_replicate] at l1
          omega
        · exact key [] trivial (.inl rfl) fun _ γ t z => hnx ⟨γ, t, z⟩
      | some Γ' => exact key Γ' (weak_refl Γ') (.inr (of_decide_eq_true h10)) (fun z => nomatch z)
end
end Ev
set_option Elab.async false
set_option linter.all false
set_option maxRecDepth 100000
set_option autoImplicit false
/-! Ev20: the script and the drawing state that is made of it. -/
namespace Ev
open PySem PySem.Spec PyProof.Rows L2
def W00 : Wd := ⟨fun _ => none, none⟩
theorem wi00 (H : Hp) : WI W00 none H := ⟨fun _ _ e => (nomatch e), .off rfl⟩
def absI (i : Int) : Int := if i < 0 then -i else i
def cellsOf (ns : List Int) : List Int := if ns.length = 0 then [0] else ns.map absI
def tape0 (ns : List Int) : List D := [.int 0, .list ((cellsOf ns).map .int)]
/-- the promise of _law_state -/
def spS (K : PySem.W.Frag) : Sp := fun vs H Q _ => ∃ (a : Addr) (ns : List Int), vs = [.ref a] ∧ SqL K H a (ns.map V.int) ∧ ns.length ≤ 63 ∧ ∀ v W' H', FrE W00 H W' H' → WI W' (some (tape0 ns)) H' → Jv W' .st v .none → Q v H'
/-- the head's script, cut -/
def tiS (K : PySem.W.Frag) : TI := fun σ H R => ∃ (a : Addr) (xs : List V), σ[0]? = some (some (.ref a)) ∧ SqL K H a xs ∧ ∀ p, H p = none → R (Itl K p) (upd H p (.lst (cutV xs none (some 63))))
theorem pi_scr {X : Cx} {tg e : Expr} {kk : Nat} {p1 p2 p3 : Pos} (he : PE X e (tVar 0)) : PI X tg (.Subscript e (.Slice none (some (.Constant (.int 63) kk p1)) none p2) p3) (tiS X.K) :=
  PIw (pi_seq (pe_slice sl_list he po_none (po_some pe_int))) fun σ H R ⟨a, xs, e1, q1, q2⟩ => ⟨.ref a, e1, _, rfl, a, xs, rfl, q1, fun p hp => ⟨p, rfl, .inl ⟨⟨_, SqL.of upd_same⟩, q2 p hp⟩⟩⟩
theorem cut63 {ns : List Int} (h : ns.length ≤ 63) : cutV (ns.map V.int) none (some 63) = ns.map V.int := by
  unfold cutV
  rw [HT.sIx_none, show (some (63 : Int)) = some ((63 : Nat) : Int) from rfl, HT.sIx_nat, List.drop_zero, List.length_map]
  rw [show min 63 ns.length - 0 = ns.length by omega]
  rw [List.take_of_length_le (by rw [List.length_map]; omega)]
def kScr (S : SC) (s : Stmt) (w : Scope → Expr → Bool) (f : Scope → Bool) (g : Scope → Expr → Bool) : Bool := match s with
  | .Assign [t] (.ListComp elt [⟨tg, .Subscript e (.Slice none (some (.Constant (.int 63) kk p1)) none p2) p3, [], 0⟩] sc p) pos =>
    chkTg S (.n 1) t && swapB S t (.ListComp elt [⟨tg, .Subscript e (.Slice none (some (.Constant (.int 63) kk p1)) none p2) p3, [], 0⟩] sc p) && nameB S 0 e && f sc && g sc tg && w sc elt
  | _ => false
theorem kScr_inv {S : SC} {s : Stmt} {w : Scope → Expr → Bool} {f : Scope → Bool} {g : Scope → Expr → Bool} (h : kScr S s w f g = true) : ∃ t elt tg e kk p1 p2 p3 sc p pos, s = .Assign [t] (.ListComp elt [⟨tg, .Subscript e (.Slice none (some (.Constant (.int 63) kk p1)) none p2) p3, [], 0⟩] sc p) pos ∧
    chkTg S (.n 1) t = true ∧ swapB S t (.ListComp elt [⟨tg, .Subscript e (.Slice none (some (.Constant (.int 63) kk p1)) none p2) p3, [], 0⟩] sc p) = true ∧ nameB S 0 e = true ∧ f sc = true ∧ g sc tg = true ∧ w sc elt = true := by
  unfold kScr at h
  split at h
  · obtain ⟨h, k6⟩ := and_t h
    obtain ⟨h, k5⟩ := and_t h
    obtain ⟨h, k4⟩ := and_t h
    obtain ⟨h, k3⟩ := and_t h
    obtain ⟨k1, k2⟩ := and_t h
    exact ⟨_, _, _, _, _, _, _, _, _, _, _, rfl, k1, k2, k3, k4, k5, k6⟩
  · cases h
def irS : List IS := [.ite (.cmp .eq (.b1 .len (.v 1)) (.c (.int 0))) [.own 1 .o (.lst [.c (.int 0)])] [], .retSt 1 [some 0, none]]
def GS (bl : List Str) : PG0 := ⟨[], [], bl⟩
def chkScr (bl : List Str) (N : List Str) (st : Stmt) : Bool := match defBody st with
  | s :: ss => decide (N.length = 3) && kScr ⟨N, (defScope st).names, none, false⟩ s (fun sc x => chk (GS bl) ((⟨N, (defScope st).names, none, false⟩ : SC).blk sc) (setT (.n 2) (unk [.u, .u, .u] [2])) (.j .p) (.b1 .abs (.v 2)) x)
      (fun sc => blkB ⟨N, (defScope st).names, none, false⟩ sc [2]) (fun sc t => chkTg ((⟨N, (defScope st).names, none, false⟩ : SC).blk sc) (.n 2) t)
      && decide (chkSs (GS bl) ⟨N, (defScope st).names, none, false⟩ .st [] [.u, .o, .u] irS ss = some none)
  | [] => false
def chkSc (N ps : List Str) (st : Stmt) : Bool := decide N.Nodup && decide ((defScope st).kind = .function) && !(defScope st).isCoroutine && !(defScope st).isGenerator && decide (N.take ps.length = ps) && ps.all (fun x => decide ((defScope st).names.lookup x = some .local) || decide ((defScope st).names.lookup x = some .cell))
  && (defScope st).names.all (fun y => decide (y.2 ≠ .free))
theorem fnScope_ok {N ps : List Str} {st : Stmt} (h : chkSc N ps st = true) : FnScope N ps (defScope st) ∧ N.Nodup ∧ (defScope st).kind = .function := by
  unfold chkSc at h
  obtain ⟨h, h7⟩ := and_t h
  obtain ⟨h, h6⟩ := and_t h
  obtain ⟨h, h5⟩ := and_t h
  obtain ⟨h, h4⟩ := and_t h
  obtain ⟨h, h3⟩ := and_t h
  obtain ⟨h1, h2⟩ := and_t h
  refine ⟨⟨of_decide_eq_true h2, by simpa using h3, by simpa using h4, of_decide_eq_true h1, of_decide_eq_true h5, fun y hy => ?_, fun y hy => ?_⟩, of_decide_eq_true h1, of_decide_eq_true h2⟩
  · rw [List.all_eq_true] at h6
    have := h6 y hy
    simpa using this
  · rw [List.all_eq_true] at h7
    exact of_decide_eq_true (h7 y hy)
theorem compL_abs (cf : CF) (g0 g1 g2 : Option D) : ∀ ns : List Int, compL (lcF cf (.n 2) .yes (.b1 .abs (.v 2)) [g0, g1, g2]) (ns.map .int) none = some ((ns.map absI).map .int, none)
  | [] => rfl
  | i :: r => by
    have e : lcF cf (.n 2) .yes (.b1 .abs (.v 2)) [g0, g1, g2] (.int i) none = some (some (.int (absI i)), none) := by
      simp [lcF, bindT, tst, evalE, truth, rd, opB1, bAbs, absI]
    rw [List.map_cons, compL, e, Option.bind_some]
    show (compL _ _ none).map _ = _
    rw [compL_abs cf g0 g1 g2 r]
    rfl
theorem eqv_int (i j : Int) : PyData.eqv (.int i) (.int j) = (i == j) := by simp only [PyData.eqv]
theorem rpa_ints (B : Hp) : ∀ ns : List Int, RpA B (ns.map V.int) (ns.map PyData.int)
  | [] => .nil
  | i :: r => .cons (.int i) (rpa_ints B r)
section
variable {P : Program} {w : World} {K : PySem.W.Frag} {mg : Str → Option Value} {base : Heap}
theorem state_ok {bl : List Str} {n : Nat} (hbl : ∀ x ∈ bl, mg x = none) {x p : Str} {st : Stmt} {fa : Addr} {fdt : FuncData} {N : List Str} (F : FnP K x st fa fdt) (h1 : chkSc N [p] st = true) (h2 : chkScr bl N st = true) :
    FnOk P w K mg base CX0 (n + 1) fa fdt [p] (spS K) := by
  obtain ⟨hS, hnd, hkd⟩ := fnScope_ok h1
  refine fnP_ok F hS (fun vs H Q E ⟨a, ns, e, _⟩ => by rw [e]; rfl) fun cdv A outer s H vs Q E hr sp => ?_
  obtain ⟨a, ns, rfl, hq, hl, q⟩ := sp
  unfold chkScr at h2
  split at h2
  · rename_i s0 ss eb
    obtain ⟨h2, h5⟩ := and_t h2
    obtain ⟨h2, h4⟩ := and_t h2
    have hN3 : N.length = 3 := of_decide_eq_true h2
    have co : CO (GS bl) n (cxOf CX0 P w K mg base N x (defScope st) fa cdv A outer s H E).nox ⟨N, (defScope st).names, none, false⟩ := ⟨rfl, hnd, rfl, hkd, rfl, rfl, hr, fun _ _ => rfl, hbl, fun f fd x hf => (nomatch (show (none : Option Fd) = some fd from hf)), fun h => nomatch h⟩
    rw [eb]
    obtain ⟨t, elt, tg, e, kk, p1, p2, p3, sc, pp, pos, rfl, k1, k2, k3, k4, k5, k6⟩ := kScr_inv h4
    · clear h4
      have hrest := chkSs_ok co irS (of_decide_eq_true h5) [] trivial
      cases t with
      | Name y py =>
        obtain ⟨hNy, hloc⟩ := and_t (show (decide (N[1]? = some y) && locB ⟨N, (defScope st).names, none, false⟩ y) = true from k1)
        have hyl : (defScope st).names.lookup y = some .local := by
          have hs : (decide ((defScope st).names.lookup y = some .local) && decide (py.line = pp.line) && !(sc.names.any fun (n, k) => n == y && (k == .local || k == .cell))) = true := k2
          exact of_decide_eq_true (and_t (and_t hs).1).1
        have hsw := swap_bool co (x := y) (p := py) (pos := pp) (elt := elt) (gens := [⟨tg, .Subscript e (.Slice none (some (.Constant (.int 63) kk p1)) none p2) p3, [], 0⟩]) (sc := sc) pos.line
        rw [k2] at hsw
        have q1 := ps_setLc (py := py) (spos := pos) (pos := pp) co.calm hnd (of_decide_eq_true hNy) hyl hsw (pi_scr (name_ok co k3)) (blk_ok co k4) (fun s H C cl fp => tg_ok (blk_co co k4 s H C cl fp) (.n 2) tg k5)
          (fun s H C cl fp => PTsw pts_nil fun σ H Q q => tt_yes (cf := callF (GS bl).P n) (Γ := setT (.n 2) (unk [.u, .u, .u] [2])) (own := []) q) (fun s H C cl fp => (chk_ok (.b1 .abs (.v 2)) (blk_co co k4 s H C cl fp) k6 : PE _ _ _)) (fun x => rfl)
        rw [ownOf_snd] at q1
        refine ⟨_, pss_cons q1 hrest, ?_⟩
        refine ⟨a, ns.map V.int, by unfold L2.start; rfl, hq, fun p hp => ?_⟩
        rw [cut63 hl]
        obtain ⟨f1, w1⟩ := new_obj (wi00 H) (.lst (ns.map V.int)) hp
        have hst : L2.start N [V.ref a] = [some (.ref a), none, none] := by
          unfold L2.start
          rw [hN3]
          rfl
        rw [hst]
        have sl1 : SL (W00.add p (.lst (ns.map V.int))) (fun _ => []) [.u, .u, .u] [none, none, none] [some (.ref a), none, none] (upd H p (.lst (ns.map V.int))) := by
          refine ⟨fun i => ?_, fun _ => List.nodup_nil, fun i j _ a m => (List.not_mem_nil m).elim, rfl, rfl⟩
          have : ty [.u, .u, .u] i = .u := by
            match i with
            | 0 => rfl
            | 1 => rfl
            | 2 => rfl
            | i + 3 => rfl
          rw [this]
          rfl
        refine lc_turn (own := [2]) (tg := .n 2) (cond := .yes) (elt := .b1 .abs (.v 2)) (cf := callF (GS bl).P n) (xs := ns.map .int) (out := (ns.map absI).map .int) (J := Itl K p) (Q := fun x H1 => gName 1 x [some (.ref a), none, none] H1 (tSs (callF (GS bl).P n) .st [] [.u, .o, .u] irS [] { nx := fun _ H' => Q .non H', rt := Q })) (fun i m => m) w1 sl1 (itl_ok (vs := ns.map V.int) fun W2 τ2 H2 w2 f2 => ⟨w2.sub _ _ (f2.B _ _ upd_same), rpa_ints _ _⟩) (by rw [List.length_map, sizeLine_eq]; omega) (compL_abs _ none none none ns) fun p' vs W' H' f' w' g1 g2 g3 g4 g5 g6 => ?_
        have f02 := f1.trans f'
        have hp' : H p' = none := f1.free g4
        refine ⟨W00, H, W00.B, [none, some (.list ((ns.map absI).map .int)), none], none, .rt .none (some (tape0 ns)), ⟨W', _, f02, f02.B, w', ((sl1.mono f').forgetB 1).reslot (t := .o) (g := some (.list ((ns.map absI).map .int))) (F := [p']) (by decide) ⟨p', vs, _, rfl, rfl, rfl, g1, g2, g3, g5, g6⟩ (by simp) (fun j _ b hb => by simp), fun j b m => ?_⟩, ?_, fun v H1 ⟨W1, f3, w3, r3⟩ => q v W1 H1 f3 w3 r3⟩
        · have m : b ∈ (if j = 1 then [p'] else []) := m
          split at m
          · cases List.mem_singleton.mp m
            exact hp'
          · cases m
        · by_cases hz : ns.length = 0
          · have : ns = [] := List.length_eq_zero_iff.mp hz
            subst this
            rfl
          · have hne : ((ns.map absI).map PyData.int).length ≠ 0 := by simpa using hz
            obtain ⟨is, hi⟩ : ∃ is, intsOf ((ns.map absI).map PyData.int) = some is := by
              have : ∀ l : List Int, intsOf (l.map .int) = some l := fun l => by
                induction l with
                | nil => rfl
                | cons a r ih => rw [List.map_cons, intsOf, ih]; rfl
              exact ⟨_, this _⟩
            have hb : (PyData.eqv (.int (((ns.map absI).map PyData.int).length : Nat)) (.int 0)) = false := by
              rw [eqv_int]
              simpa using hz
            have e1 : evalE (callF (GS bl).P n) (.cmp .eq (.b1 .len (.v 1)) (.c (.int 0))) [none, some (.list ((ns.map absI).map .int)), none] none = some (.bool false, none) := by
              simp only [evalE, rd, List.getD_cons_succ, List.getD_cons_zero, Option.map_some, Option.bind_some, opB1, bLen, opCmp, cEq]
              rw [if_pos (by simp [shallow, PyData.depth]), hb]
              rfl
            simp only [irS, execSs, execS, tst, e1, Option.bind_some, truth, Option.map_some]
            rw [if_neg Bool.false_ne_true]
            simp only [Option.bind_some, rd, List.getD_cons_succ, List.getD_cons_zero, listOf, hi, Option.map_some]
            unfold tape0 cellsOf
            rw [if_neg hz]
            rfl
      | _ => exact nomatch (show false = true from k2)
  · cases h2
end
end Ev
set_option Elab.async false
set_option linter.all false
set_option maxRecDepth 100000
set_option autoImplicit false
/-! Ev21: all defs of a text; the law's def; what the head asks. -/
namespace Ev
open PySem PySem.Spec PyProof.Rows L2
section
variable {P : Program} {w : World} {K : PySem.W.Frag} {mg : Str → Option Value} {base : Heap} {G : PG0}
def DefOk (P : Program) (w : World) (K : PySem.W.Frag) (mg : Str → Option Value) (base : Heap) (G : PG0) (f : Nat) (fd : Fd) (x : Str) : Prop :=
  ∃ fa fdt ps, mg x = some (.ref fa) ∧ PySem.W.keepIn K (.ref fa) = true ∧ Binds K fdt ps [] ∧ ps.length = fd.pty.length ∧ ∀ n, Calls P w K mg base G n → FnOk P w K mg base CX0 (n + 1) fa fdt ps (spC (callF G.P (n + 1)) fd.pty fd.res f)
theorem calls_all (hd : ∀ f fd x, G.P[f]? = some fd → G.fn[f]? = some x → DefOk P w K mg base G f fd x) : ∀ n, Calls P w K mg base G n
  | 0 => fun f fd x h1 h2 => by
    obtain ⟨fa, fdt, ps, a1, a2, a3, a4, _⟩ := hd f fd x h1 h2
    refine ⟨fa, fdt, ps, ⟨fun vs H Q E s => s.1.trans a4.symm, fun A outer s H args us vs Q E hr e0 hb hv sp => ?_⟩, a1, a2, a3⟩
    obtain ⟨_, W, τ, ds, d, τ', _, _, e, _⟩ := sp
    cases (show (none : R) = some (d, τ') from e)
  | n + 1 => fun f fd x h1 h2 => by
    obtain ⟨fa, fdt, ps, a1, a2, a3, _, a5⟩ := hd f fd x h1 h2
    exact ⟨fa, fdt, ps, a5 n (calls_all hd n), a1, a2, a3⟩
def BindsOk (x : Str) (st : Stmt) (ps : List Str) : Prop := ∀ (kV doc pm : Value) (an : Option Addr) (cdv ct : Value) (us : List Value), us.length = ps.length → bindArgs (PySem.W.fnOf x x (defArgs st) (defBody st) (defScope st) .none kV doc pm an cdv ct) ⟨us, []⟩ = pure (ps.zip us)
def toD (x : Str) (st : Stmt) : He.DefD := ⟨(x, none), x, x, defArgs st, defBody st, defScope st, [], []⟩
theorem def_at {fa : List He.Fa} {fn : List He.DefD} (c : He.SaysD fa fn K) (i : Nat) {x : Str} {st : Stmt} (h : fn[i]? = some (toD x st)) : ∃ fdt, FnP K x st (He.ga K x) fdt := by
  obtain ⟨fdt, F⟩ := c.def_ i h
  exact ⟨fdt, F⟩
theorem defOk_mk {fa : List He.Fa} {fn : List He.DefD} {h : Heap} (c : He.SaysD fa fn K) (KX : K.In h) (hG : h.Ns mainGlobals mg) (hbl : ∀ x ∈ G.bl, mg x = none) {f i j : Nat} {x : Str} {st : Stmt} {N ps : List Str} {pty : List Ty} {res : Ty} {b : List IS} {fd : Fd} (hfn : fn[i]? = some (toD x st)) (hfa : fa[j]? = some (.glo x))
    (hP : G.P[f]? = some fd) (hfd : fd = .body pty res N.length b) (hb : BindsOk x st ps) (hc : chkD G N ps pty res b st = true) : DefOk P w K mg base G f fd x := by
  obtain ⟨fdt, F⟩ := def_at c i hfn
  subst hfd
  have hps : pty.length = ps.length := by
    unfold chkD at hc
    obtain ⟨hc, _⟩ := and_t hc
    obtain ⟨hc, _⟩ := and_t hc
    exact of_decide_eq_true (and_t hc).2
  exact ⟨_, fdt, ps, He.glo_ok KX hG (c.fact j hfa), F.kp, F.bindsN hb, hps.symm, fun n hcalls => body_ok hbl hcalls F hP hc⟩
/-! ### the law's def -/
def spL (K : PySem.W.Frag) : Sp := fun vs H Q _ => ∃ (a : Addr) (ns : List Int), vs = [.ref a] ∧ SqL K H a (ns.map V.int) ∧ ns.length ≤ 63 ∧ ∀ H', Q (.bl true) H'
def GaL (N : List Str) : List Ty := (List.replicate N.length .u).set 1 .st
def gaL (N : List Str) : En := (List.replicate N.length none).set 1 (some .none)
def kLaw (S : SC) (y : Str) (s : Stmt) : Bool := match s with
  | .Assign [t] (.Call (.Name x p1) [e] [] p2) pos => chkTg S (.n 1) t && decide (x = y) && glB S x && noMagic x && nameB S 0 e
  | _ => false
theorem kLaw_inv {S : SC} {y : Str} {s : Stmt} (h : kLaw S y s = true) : ∃ t p1 e p2 pos, s = .Assign [t] (.Call (.Name y p1) [e] [] p2) pos ∧ chkTg S (.n 1) t = true ∧ glB S y = true ∧ noMagic y = true ∧ nameB S 0 e = true := by
  unfold kLaw at h
  split at h
  · obtain ⟨h, h5⟩ := and_t h
    obtain ⟨h, h4⟩ := and_t h
    obtain ⟨h, h3⟩ := and_t h
    obtain ⟨h1, h2⟩ := and_t h
    cases of_decide_eq_true h2
    exact ⟨_, _, _, _, _, rfl, h1, h3, h4, h5⟩
  · cases h
def chkLaw (G : PG0) (N : List Str) (y : Str) (b : List IS) (st : Stmt) : Bool := match defBody st with
  | s :: ss => decide (2 ≤ N.length) && kLaw ⟨N, (defScope st).names, none, true⟩ y s && okEnd .p (chkSs G ⟨N, (defScope st).names, none, true⟩ .p [] (GaL N) b ss)
  | [] => false
theorem law_body {n : Nat} (hbl : ∀ x ∈ G.bl, mg x = none) (hc : Calls P w K mg base G n) {x y p : Str} {st : Stmt} {fa faS : Addr} {fdt fdS : FuncData} {N : List Str} {b : List IS} {q : Str} (F : FnP K x st fa fdt) (hS : FnOk P w K mg base CX0 n faS fdS [q] (spS K)) (mS : mg y = some (.ref faS)) (kS : PySem.W.keepIn K (.ref faS) = true) (bS : Binds K fdS [q] [])
    (h1 : chkSc N [p] st = true) (h2 : chkLaw G N y b st = true) (run : ∀ ns : List Int, ns.length ≤ 63 → ∃ τ', execSs (callF G.P n) b (gaL N) (some (tape0 ns)) = some (.rt (.bool true) τ')) {cdv : Value} {A : Around} {outer : List PySem.Env} {s : Shared} {H : Hp} {vs : List V} {Q : VK} {E : XK}
    (hA : A.guards = some []) (hr : Room n (A.deeper (envOfC x (defScope st) s.heap.objs.size fa cdv))) (sp : spL K vs H Q E) :
    ∃ t, PSs (cxOf CX0 P w K mg base N x (defScope st) fa cdv A outer s H E).nox (defBody st) t ∧ t { nx := fun _ H' => Q .non H', rt := Q } (L2.start N vs) H := by
  obtain ⟨hSc, hnd, hkd⟩ := fnScope_ok h1
  obtain ⟨a, ns, rfl, hq, hl, qq⟩ := sp
  unfold chkLaw at h2
  split at h2
  · rename_i s0 ss eb
    obtain ⟨h2, h5⟩ := and_t h2
    obtain ⟨h2, h4⟩ := and_t h2
    have hN2 : 2 ≤ N.length := of_decide_eq_true h2
    have co : CO G n (cxOf CX0 P w K mg base N x (defScope st) fa cdv A outer s H E).nox ⟨N, (defScope st).names, none, true⟩ := ⟨rfl, hnd, rfl, hkd, rfl, rfl, hr, fun _ _ => rfl, hbl, hc, fun _ => hA⟩
    rw [eb]
    obtain ⟨t, p1, e, p2, pos, rfl, k1, k2, k3, k4⟩ := kLaw_inv h4
    have hu : unstar t = true := by
      cases t <;> first | rfl | exact nomatch (show false = true from k1)
    have hue : unstar e = true := by
      cases e <;> first | rfl | exact nomatch (show false = true from k4)
    have hw : noStB ⟨N, (defScope st).names, none, true⟩ t (.Call (.Name y p1) [e] [] p2) = true := by
      cases t <;> first | rfl | exact nomatch (show false = true from k1)
    have hcall := pe_call (dvs := []) (p := p1) (pos := p2) hS hr (co.gl k2) mS kS bS .nil pass0 (pa_cons (name_ok co k4) pa_nil (star_cons hue [] _)) (magic_of k3).1 (star_cons hue [] _) rfl
    have q1 := asg_plain (pos := pos) co hu (noComp_sole _ _ rfl) hw hcall (tgn_name co k1)
    obtain ⟨τ', er⟩ := run ns hl
    have key : ∀ Γ1, PSs (cxOf CX0 P w K mg base N x (defScope st) fa cdv A outer s H E).nox ss (tSs (callF G.P n) .p [] (GaL N) b Γ1) → ∃ t_1, PSs (cxOf CX0 P w K mg base N x (defScope st) fa cdv A outer s H E).nox (.Assign [t] (.Call (.Name y p1) [e] [] p2) pos :: ss) t_1 ∧ t_1 { nx := fun _ H' => Q .non H', rt := Q } (L2.start N [.ref a]) H := fun Γ1 hss => by
      refine ⟨_, pss_cons q1 hss, .ref a, by unfold L2.start; rfl, a, ns, rfl, hq, hl, fun v W' H' f' w' r' => ?_⟩
      obtain ⟨_, a', c', rfl, hst⟩ := r'
      refine ⟨W00, H, W00.B, gaL N, some (tape0 ns), _, ⟨W', _, f', f'.B, w', ((?_ : SL W' (off (fun _ => []) 1) ((List.replicate N.length Ty.u).set 1 .u) (List.replicate N.length none) (L2.start N [.ref a]) H').reslot (t := .st) (g := some .none) (F := []) (by rw [List.length_replicate]; omega) ⟨rfl, rfl, a', c', rfl, hst⟩ List.nodup_nil (fun j _ b hb => (List.not_mem_nil hb).elim)), fun j b m => ?_⟩, er, fun v H1 ⟨W1, f3, w3, r3⟩ => ?_⟩
      · have lst : (L2.start N [V.ref a]).length = N.length := by
          unfold L2.start
          simp only [List.length_append, List.length_map, List.length_replicate, List.length_cons, List.length_nil]
          omega
        refine ⟨fun i => ?_, fun i => ?_, fun i j _ b m => ?_, ?_, ?_⟩
        · have e0 : ty ((List.replicate N.length Ty.u).set 1 .u) i = .u := by
            unfold ty
            rw [List.getD_eq_getElem?_getD, List.getElem?_set]
            split
            · split <;> rfl
            · rw [List.getElem?_replicate]; split <;> rfl
          rw [e0]
          show off (fun _ => []) 1 i = []
          unfold off
          split <;> rfl
        · unfold off; split <;> exact List.nodup_nil
        · unfold off at m
          split at m <;> exact (List.not_mem_nil m).elim
        · rw [lst, List.length_replicate]
        · rw [lst, List.length_set, List.length_replicate]
      · have m : b ∈ (if j = 1 then [] else []) := m
        split at m <;> exact (List.not_mem_nil m).elim
      · cases (show Rp W1.B v (.bool true) from r3)
        exact qq H1
    cases hr' : chkSs G ⟨N, (defScope st).names, none, true⟩ .p [] (GaL N) b ss with
    | none => rw [hr'] at h5; cases h5
    | some rr =>
      cases rr with
      | none => exact key [] (chkSs_ok co b hr' [] trivial)
      | some Γ' => exact key Γ' (chkSs_ok co b hr' Γ' (weak_refl Γ'))
  · cases h2
/-- the law's call where the claim stands -/
def LawRun (P : Program) (w : World) (K : PySem.W.Frag) (mg : Str → Option Value) (base : Heap) (fa : Addr) : Prop :=
  ∀ (s : Shared) (H : Hp) (a : Addr) (ns : List Int), Env0 P w K mg base callerA [] s H → SqL K H a (ns.map V.int) → ns.length ≤ 63 →
    codeAny (model P w) callerA (.call (.ref fa) ⟨[.ref a], []⟩) (CR CX0 [] P w H s (fun v _ => v = .bl true) fun _ _ _ => False) s
theorem law_run {n : Nat} {x p : Str} {st : Stmt} {fa : Addr} {fd : FuncData} {N : List Str} (F : FnP K x st fa fd) (S : FnScope N [p] (defScope st)) (hr : Room (n + 1) callerA) (hb : ∀ (s : Shared) (v : Value), BindsTo s fd ⟨[v], []⟩ [(p, v)])
    (body : ∀ (cdv : Value) (s : Shared) (H : Hp) (vs : List V) (Q : VK) (E : XK), Room n (callerA.deeper (envOfC x (defScope st) s.heap.objs.size fa cdv)) → spL K vs H Q E →
      ∃ t, PSs (cxOf CX0 P w K mg base N x (defScope st) fa cdv callerA [] s H E).nox (defBody st) t ∧ t { nx := fun _ H' => Q .non H', rt := Q } (L2.start N vs) H) : LawRun P w K mg base fa := by
  intro s H a ns e0 hs hl
  obtain ⟨oc, od, dV, kV, doc, pm, an, cdv, ct, osl, rfl, lk, hcd, _, _⟩ := F.ex
  have kin : K.In s.heap := e0.mod.kin.keeps fun c o q => (e0.bs c o q).1
  have nol : s.heap.NoLimit := e0.mod.nolimit.keeps fun c o q => (e0.bs c o q).1
  have par : ∀ z ∈ [(p, Value.ref a)], (defScope st).names.lookup z.1 = some .local ∨ ((defScope st).names.lookup z.1 = some .cell ∧ ((cellsFrom (s.heap.objs.size + 1) (defScope st).names []).lookup z.1).isSome = true) := by
    intro z hz
    obtain rfl := List.mem_singleton.mp hz
    exact (S.par p (List.mem_singleton.mpr rfl)).imp id fun q => ⟨q, PySem.W.cellsFrom_some _ _ _ (.inl q)⟩
  have rv : Vals [V.ref a] [Value.ref a] := .cons rfl .nil
  refine codeAny_call_function hr.depth (kin _ _ lk) rfl S.co S.gen rfl (PySem.W.codeRec_of kin hcd) (hb s (.ref a) _ _ _ _ (wpAny_newFunctionEnv_cells S.kind par ?_))
  intro env ee s1 z
  subst ee
  obtain ⟨t, ht, hq⟩ := body cdv s H [.ref a] (fun v _ => v = .bl true) (fun _ _ _ => False) (hr.deeper _) ⟨a, ns, rfl, hs, hl, fun _ => rfl⟩
  refine ⟨nol.keeps z.toInCall.keep, codeAny_func (wpAny_mono (ht.nox.run [] s1 (L2.start N [.ref a]) H _ (inv_start S hr.hd e0 rfl rv z) hq) ?_ fun e s' h => h)⟩
  intro fl s' h
  cases fl with
  | ret u => obtain ⟨v, _, H', I, r, q⟩ := h; exact ⟨v, H', I.os, I.bare, I.base, I.hok, r, q⟩
  | next => obtain ⟨_, H', I, q⟩ := h; exact ⟨.non, H', I.os, I.bare, I.base, I.hok, rfl, q⟩
  | brk => obtain ⟨_, _, _, q⟩ := h; exact q.elim
  | cont => obtain ⟨_, _, _, q⟩ := h; exact q.elim
end
section
variable {P : Program} {w : World} {K : PySem.W.Frag} {mg mb : Str → Option Value} {fa a : Addr} {s : Shared} {vs : List Value} {ns : List Int}
/-- over an abstract heap that tracks at most the script -/
theorem claim_over {H : Hp} (kin : K.In s.heap) (hn : s.heap.Ns mainGlobals mg) (hm : s.heap.Ns builtinsNs mb) (hmb : ∀ x : Str, x ≠ "__name__" → mb x = bootBuiltins x) (nol : s.heap.NoLimit) (hgen : s.gens = #[])
    (obj : s.heap.get? a = some { cls := .type "list", data := .seq vs.toArray }) (len : ns.length ≤ 63) (F : ∀ base : Heap, K.In base → base.Ns mainGlobals mg → LawRun P w K mg base fa)
    (only : Only H) (sq : SqL K H a (ns.map V.int)) (ok : HOk P w H s.heap) (one : ∀ b, H b ≠ none → b = a) (kno : H a ≠ none → K.lookup a = none) :
    codeAny (model P w) callerA (.call (.ref fa) ⟨[.ref a], []⟩) (fun r s' => r = .ok (.ret (.bool true)) ∧ OldK s.heap s'.heap ∧ s'.os = s.os ∧ AllBare s'.gens) s := by
  have at_a : ∀ {b : Addr}, H b ≠ none → b = a := fun h => one _ h
  have free : ∀ {b : Addr} {o : Obj}, s.heap.get? b = some o → (∀ l n, o.data ≠ .seq l n) → H b = none := fun {b o} e d => by
    by_cases q : H b = none
    · exact q
    · obtain rfl := at_a q
      rw [obj] at e
      cases e
      exact absurd rfl (d _ _)
  have ns' : ∀ {b : Addr} {m : Str → Option Value}, s.heap.Ns b m → (hidT s.heap H).Ns b m := fun h => by
    obtain ⟨o, es, ep, e, d, r⟩ := h
    exact ⟨o, es, ep, hidT_get e (free e fun l n z => by rw [d] at z; cases z), d, r⟩
  have kin' : K.In (hidT s.heap H) := fun b o e => hidT_get (kin b o e) (by
    by_cases q : H b = none
    · exact q
    · obtain rfl := at_a q
      rw [kno q] at e
      cases e)
  have env : Env0 P w K mg (hidT s.heap H) callerA [] s H := by
    obtain ⟨mc, l1, l2⟩ := nol
    exact ⟨rfl, ⟨kin', ns' hn, ⟨mb, ns' hm, hmb⟩, ⟨mc, ns' l1, l2⟩⟩, fun b o e => of_hidT e, Nat.le_of_eq (hidT_size _ _), trivial, fun b hb => (List.not_mem_nil (show b ∈ ([] : List Addr) from hb)).elim, ok, .of_eq hgen⟩
  refine codeAny_mono (F _ kin' (ns' hn) s H a ns env sq len) fun r s' h => ?_
  match r, h with
  | .error e, h => exact (show False from h).elim
  | .ok (.ret u), h =>
    obtain ⟨v, H', h1, h2, un, ok', rv, q⟩ := h
    have q : v = .bl true := q
    subst q
    have rv : u = Value.bool true := rv
    subst rv
    refine ⟨rfl, OldK.of_keep fun b o e => ?_, h1, h2⟩
    rcases only b with z | ⟨ob, xs, z⟩
    · exact un.keep b o e z (fun m => (List.not_mem_nil (show b ∈ ([] : List Addr) from m)).elim) (fun m => (List.not_mem_nil m).elim)
    · have e1 := (ok b _ z).1
      have e2 := (ok' b _ (un.frzs b ob _ z)).1
      rw [e] at e1
      cases e1
      exact e2
theorem claim_run (kin : K.In s.heap) (hn : s.heap.Ns mainGlobals mg) (hm : s.heap.Ns builtinsNs mb) (hmb : ∀ x : Str, x ≠ "__name__" → mb x = bootBuiltins x) (nol : s.heap.NoLimit) (hgen : s.gens = #[])
    (obj : s.heap.get? a = some { cls := .type "list", data := .seq vs.toArray }) (hint : IntsAre vs ns) (len : ns.length ≤ 63) (F : ∀ base : Heap, K.In base → base.Ns mainGlobals mg → LawRun P w K mg base fa) :
    codeAny (model P w) callerA (.call (.ref fa) ⟨[.ref a], []⟩) (fun r s' => r = .ok (.ret (.bool true)) ∧ OldK s.heap s'.heap ∧ s'.os = s.os ∧ AllBare s'.gens) s := by
  have small : ns.length ≤ sizeLine := Nat.le_trans len (by decide)
  cases q : K.lookup a with
  | some o =>
    have e := kin a o q
    rw [obj] at e
    cases e
    refine claim_over (H := fun _ => none) kin hn hm hmb nol hgen obj len F (fun _ => .inl rfl) (.inr ⟨_, vs.toArray, _, q, rfl, rfl, rfl, ?_, ?_⟩) (fun b u z => nomatch (show (none : Option HO) = some u from z)) (fun b z => absurd rfl z) (fun z => absurd rfl z)
    · rw [List.size_toArray, hint.length]; exact small
    · simpa using vals_ints hint
  | none =>
    let o : Obj := { cls := .type "list", data := .seq vs.toArray }
    have pick : ∀ b : Addr, (if b = a then some (HO.frz o (.lst (ns.map V.int))) else none) ≠ none → b = a := fun b z => by
      by_cases e : b = a
      · exact e
      · exact absurd (if_neg e) z
    refine claim_over (H := fun b => if b = a then some (.frz o (.lst (ns.map V.int))) else none) kin hn hm hmb nol hgen obj len F (fun b => ?_) (.inl (.inr ⟨o, if_pos rfl⟩)) (fun b u z => ?_) pick (fun _ => q)
    · by_cases e : b = a
      · exact .inr ⟨o, _, if_pos e⟩
      · exact .inl (if_neg e)
    · have z : (if b = a then some (HO.frz o (.lst (ns.map V.int))) else none) = some u := z
      have e := pick b (fun y => by rw [y] at z; cases z)
      subst e
      rw [if_pos rfl] at z
      cases z
      exact ⟨obj, by rw [List.length_map]; exact small, vs, _, vals_ints hint, obj⟩
end
theorem walk_law {l : PySem.W.OpenLaw} {q : Program} {loose : List Str} {XP : (Str → Option Value) → Heap → Prop} {YP : World → Heap → Prop} {d : DefRec} (hn : l.most = some 63) (hd : d.params.defaults = [])
    (F : ∀ (w : World) (mg : Str → Option Value) (fa : Addr) (h : Heap), YP w h → h.Ns mainGlobals mg → mg d.name = some (.ref fa) → ∃ K : PySem.W.Frag, K.In h ∧ ∀ base : Heap, K.In base → base.Ns mainGlobals mg → LawRun l.prog w K mg base fa) :
    PySem.W.WalkO q loose XP YP l.row.toRowW d [] (fun f vs => PySem.call f vs) :=
  Att.attach_call hn hd fun w s₀ s₁ mg mb fa o pm cd doc a vs ns G Y ho h1 h2 h3 h4 h5 h6 h7 => by
    obtain ⟨K, kin, hF⟩ := F w mg fa _ Y G.T.g h3
    exact claim_run kin G.T.g G.T.b G.T.builtins G.T.nolimit h7 h4 h5 h6 hF
end Ev
set_option Elab.async false
set_option linter.all false
set_option maxRecDepth 100000
set_option autoImplicit false
/-! Ev30: plain laws of the small language's runs. -/
namespace Ev
open PySem
/-- the head first -/
theorem bind_head {α β : Type} {x x' : Option α} {f : α → Option β} (h : x = x') : Option.bind x f = Option.bind x' f := by rw [h]
theorem map_head {α β : Type} {x x' : Option α} {f : α → β} (h : x = x') : Option.map f x = Option.map f x' := by rw [h]
theorem callF_body {P : Prg} {f : Nat} {p : List Ty} {r : Ty} {nv : Nat} {b : List IS} (h : P[f]? = some (.body p r nv b)) (n : Nat) (ds : List D) (τ : Tape) : callF P (n + 1) f ds τ = runB (callF P n) nv b ds τ := by
  show (match P[f]? with | some (.body _ _ nv b) => runB (callF P n) nv b ds τ | some (.prim _ _ g) => g ds τ | none => none : R) = _
  rw [h]
/-- a whole number from zero on -/
def nI (x : Nat) : D := .int (x : Int)
theorem nI_eq (i j : Nat) : PyData.eqv (nI i) (nI j) = decide (i = j) := by
  simp only [nI, PyData.eqv]
  by_cases h : i = j
  · subst h; simp
  · simp [h]; omega
theorem add_n (a b : Nat) : opBin .add (nI a) (nI b) = some (nI (a + b)) := by
  simp only [opBin, opAdd, nI]; push_cast; rfl
theorem mul_n (a b : Nat) (h : b ≤ 1000) : opBin .mul (nI a) (nI b) = some (nI (a * b)) := by
  simp only [opBin, opMul, opMulI, nI]
  rw [if_pos (.inr (by omega))]
  push_cast
  rfl
theorem eq_n (a b : Nat) : opCmp .eq (nI a) (nI b) = some (decide (a = b)) := by
  simp only [opCmp, cEq]
  rw [if_pos (by simp [shallow, nI, PyData.depth]), nI_eq]
theorem ne_n (a b : Nat) : opCmp .ne (nI a) (nI b) = some (!decide (a = b)) := by
  simp only [opCmp, cEq]
  rw [if_pos (by simp [shallow, nI, PyData.depth]), nI_eq]
  rfl
theorem eq_s (a b : Str) : opCmp .eq (.str a) (.str b) = some (a == b) := by
  simp only [opCmp, cEq]
  rw [if_pos (by simp [shallow, PyData.depth])]
  simp only [PyData.eqv]
theorem range_n (n : Nat) (h : n ≤ 1000000) : items .r1 [nI n] = some ((List.range n).map nI) := by
  simp only [items, itR1, nI]
  rw [if_pos (by omega)]
  unfold rangeD
  simp only [Int.zero_add, Int.toNat_natCast]
  rfl
theorem lenOk_n (n : Nat) (h : n ≤ 1000000) : lenOk .r1 ((List.range n).map nI) = true := by
  unfold lenOk
  simp only [List.length_map, List.length_range]
  have : sizeLine = 16777216 := rfl
  rw [this]
  exact decide_eq_true (by omega)
/-! ### comprehensions -/
theorem compL_pure {α : Type} {f : D → Tape → Option (Option D × Tape)} {enc : α → D} {g : α → Option D} {τ : Tape} : ∀ {xs : List α}, (∀ x ∈ xs, f (enc x) τ = some (g x, τ)) → compL f (xs.map enc) τ = some (xs.filterMap g, τ)
  | [], _ => rfl
  | x :: xs, h => by
    rw [List.map_cons, compL, h x List.mem_cons_self, Option.bind_some]
    show (compL f (xs.map enc) τ).map _ = _
    rw [compL_pure fun y hy => h y (List.mem_cons_of_mem _ hy), List.filterMap_cons]
    cases g x <;> rfl
theorem compLs_pure {α : Type} {f : D → Tape → Option (List D × Tape)} {enc : α → D} {g : α → List D} {τ : Tape} : ∀ {xs : List α}, (∀ x ∈ xs, f (enc x) τ = some (g x, τ)) → compLs f (xs.map enc) τ = some (xs.flatMap g, τ)
  | [], _ => rfl
  | x :: xs, h => by
    rw [List.map_cons, compLs, h x List.mem_cons_self, Option.bind_some]
    show (compLs f (xs.map enc) τ).map _ = _
    rw [compLs_pure fun y hy => h y (List.mem_cons_of_mem _ hy), List.flatMap_cons]
    rfl
theorem filterMap_if {α β : Type} (c : α → Bool) (y : α → β) : ∀ xs : List α, xs.filterMap (fun x => if c x = true then some (y x) else none) = (xs.filter c).map y
  | [] => rfl
  | x :: r => by
    rw [List.filterMap_cons, List.filter_cons]
    by_cases q : c x = true
    · rw [if_pos q, if_pos q, List.map_cons, ← filterMap_if c y r]
    · rw [if_neg q, if_neg q, ← filterMap_if c y r]
/-- [elt for x in args if cond], no side effects -/
theorem ev_c1 {cf : CF} {own : List Nat} {tg : Tg} {k : IK} {args : List IE} {cond elt : IE} {γ : En} {τ : Tape} {α : Type} (xs : List α) (enc : α → D) (c : α → Bool) (y : α → D) {ds : List D}
    (h1 : evalEs cf args γ τ = some (ds, τ)) (h2 : items k ds = some (xs.map enc)) (h3 : lenOk k (xs.map enc) = true)
    (h4 : ∀ x ∈ xs, ∃ g, bindT tg (enc x) γ = some g ∧ tst (evalE cf cond g τ) = some (c x, τ) ∧ (c x = true → evalE cf elt g τ = some (y x, τ))) :
    evalE cf (.comp own tg k args cond elt) γ τ = some (.list ((xs.filter c).map y), τ) := by
  simp only [evalE, h1, Option.bind_some, h2, h3, if_true]
  rw [compL_pure (enc := enc) (g := fun x => if c x = true then some (y x) else none)]
  · simp only [Option.map_some]
    congr 2
    rw [filterMap_if]
  · intro x hx
    obtain ⟨g, e1, e2, e3⟩ := h4 x hx
    simp only [e1, Option.bind_some, e2]
    by_cases q : c x = true
    · rw [if_pos q, if_pos q, e3 q]; rfl
    · rw [if_neg q, if_neg q]
/-! ### loops -/
/-- a loop that goes out at the first hit and changes nothing before -/
theorem forL_find {α : Type} {f : D → En → Tape → Option Out} {ks : List Nat} {enc : α → D} {p : α → Bool} {r : α → D} {γ : En} {τ : Tape} : ∀ {xs : List α},
    (∀ x ∈ xs, if p x = true then f (enc x) γ τ = some (.rt (r x) τ) else ∃ γ', f (enc x) γ τ = some (.nx γ' τ) ∧ kill γ' ks = γ) →
    forL f ks (xs.map enc) γ τ = some (match xs.find? p with | some x => .rt (r x) τ | none => .nx γ τ)
  | [], _ => rfl
  | x :: xs, h => by
    have hx := h x List.mem_cons_self
    rw [List.map_cons, forL, List.find?_cons]
    by_cases q : p x = true
    · rw [if_pos q] at hx
      rw [hx, q]
      rfl
    · rw [if_neg q] at hx
      obtain ⟨γ', e1, e2⟩ := hx
      rw [e1, Option.bind_some]
      rw [Bool.not_eq_true] at q
      rw [q]
      show forL f ks (xs.map enc) (kill γ' ks) τ = _
      rw [e2]
      exact forL_find fun y hy => h y (List.mem_cons_of_mem _ hy)
/-- a loop that folds -/
theorem forL_fold {α β : Type} {f : D → En → Tape → Option Out} {ks : List Nat} {enc : α → D} {env : β → En} {tp : β → Tape} {step : β → α → β} : ∀ {xs : List α} {b : β} (I : β → Prop), I b →
    (∀ b x, x ∈ xs → I b → I (step b x) ∧ ∃ γ', f (enc x) (env b) (tp b) = some (.nx γ' (tp (step b x))) ∧ kill γ' ks = env (step b x)) →
    forL f ks (xs.map enc) (env b) (tp b) = some (.nx (env (xs.foldl step b)) (tp (xs.foldl step b))) ∧ I (xs.foldl step b)
  | [], b, I, hb, _ => ⟨rfl, hb⟩
  | x :: xs, b, I, hb, h => by
    obtain ⟨hi, γ', e1, e2⟩ := h b x List.mem_cons_self hb
    obtain ⟨q1, q2⟩ := forL_fold (xs := xs) (b := step b x) I hi fun b y hy hb => h b y (List.mem_cons_of_mem _ hy) hb
    refine ⟨?_, q2⟩
    rw [List.map_cons, forL, e1, Option.bind_some]
    show forL f ks (xs.map enc) (kill γ' ks) (tp (step b x)) = _
    rw [e2, q1]
    rfl
/-- .. whose steps are told by a relation alone -/
theorem forL_rel {α : Type} {f : D → En → Tape → Option Out} {ks : List Nat} {enc : α → D} (I : List α → En → Tape → Prop) : ∀ {xs pre : List α} {γ : En} {τ : Tape}, I pre γ τ →
    (∀ pre x γ τ, x ∈ xs → I pre γ τ → ∃ γ' τ', f (enc x) γ τ = some (.nx γ' τ') ∧ I (pre ++ [x]) (kill γ' ks) τ') →
    ∃ γ' τ', forL f ks (xs.map enc) γ τ = some (.nx γ' τ') ∧ I (pre ++ xs) γ' τ'
  | [], pre, γ, τ, hb, _ => ⟨γ, τ, rfl, by rw [List.append_nil]; exact hb⟩
  | x :: xs, pre, γ, τ, hb, h => by
    obtain ⟨γ1, τ1, e1, h1⟩ := h pre x γ τ List.mem_cons_self hb
    obtain ⟨γ2, τ2, e2, h2⟩ := forL_rel I (xs := xs) (pre := pre ++ [x]) h1 fun p y g t hy hi => h p y g t (List.mem_cons_of_mem _ hy) hi
    refine ⟨γ2, τ2, ?_, by rw [List.append_assoc] at h2; exact h2⟩
    rw [List.map_cons, forL, e1, Option.bind_some]
    exact e2
/-! ### equality -/
mutual
theorem eqv_refl : ∀ d : D, (∀ kvs, d ≠ .dict kvs) → PyData.canLay0 d = true → PyData.eqv d d = true
  | .none, _, _ => by simp only [PyData.eqv]
  | .bool b, _, _ => by simp [PyData.eqv]
  | .int i, _, _ => by simp [PyData.eqv]
  | .str x, _, _ => by simp [PyData.eqv]
  | .list xs, _, h => by
    simp only [PyData.eqv]
    exact eqvAll_refl xs (by simpa only [PyData.canLay0] using h)
  | .tuple xs, _, h => by
    simp only [PyData.eqv]
    exact eqvAll_refl xs (by simpa only [PyData.canLay0] using h)
  | .dict kvs, h, _ => absurd rfl (h kvs)
theorem eqvAll_refl : ∀ ds : List D, PyData.canLayAll0 ds = true → PyData.eqvAll ds ds = true
  | [], _ => by simp only [PyData.eqvAll]
  | d :: ds, h => by
    simp only [PyData.canLayAll0, Bool.and_eq_true] at h
    simp only [PyData.eqvAll, Bool.and_eq_true]
    refine ⟨eqv_refl d (fun kvs e => ?_) h.1, eqvAll_refl ds h.2⟩
    rw [e] at h
    have := h.1
    simp [PyData.canLay0] at this
end
end Ev
set_option Elab.async false
set_option linter.all false
set_option maxRecDepth 100000
set_option autoImplicit false
/-! Ev31: runs, the head first (nothing behind a name is looked at before its turn). -/
namespace Ev
open PySem
def lft (r : Option D) (τ : Tape) : R := r.map fun d => (d, τ)
theorem lft_some (d : D) (τ : Tape) : lft (some d) τ = some (d, τ) := rfl
def un1 (r : R) (f : D → Option D) : R := r.bind fun p => lft (f p.1) p.2
theorem un1_some (x : D) (τ : Tape) (f : D → Option D) : un1 (some (x, τ)) f = lft (f x) τ := rfl
def bi2 (r : R) (k : Tape → R) (f : D → D → Option D) : R := r.bind fun p => un1 (k p.2) (f p.1)
theorem bi2_some (x : D) (τ : Tape) (k : Tape → R) (f : D → D → Option D) : bi2 (some (x, τ)) k f = un1 (k τ) (f x) := rfl
def cB (o : COp) (x y : D) : Option D := (opCmp o x y).map .bool
def tB1 (r : R) : Option (Bool × Tape) := tst r
theorem tB1_some (b : Bool) (τ : Tape) : tB1 (some (.bool b, τ)) = some (b, τ) := rfl
def pk {α : Type} (r : Option (Bool × Tape)) (f g : Tape → Option α) : Option α := r.bind fun p => if p.1 then f p.2 else g p.2
theorem pk_t {α : Type} (τ : Tape) (f g : Tape → Option α) : pk (some (true, τ)) f g = f τ := rfl
theorem pk_f {α : Type} (τ : Tape) (f g : Tape → Option α) : pk (some (false, τ)) f g = g τ := rfl
def anK (r : R) (k : Tape → R) : R := r.bind fun p => (truth p.1).bind fun b => if b then k p.2 else some p
theorem anK_t (τ : Tape) (k : Tape → R) : anK (some (.bool true, τ)) k = k τ := rfl
theorem anK_f (τ : Tape) (k : Tape → R) : anK (some (.bool false, τ)) k = some (.bool false, τ) := rfl
def orK (r : R) (k : Tape → R) : R := r.bind fun p => (truth p.1).bind fun b => if b then some p else k p.2
theorem orK_t (τ : Tape) (k : Tape → R) : orK (some (.bool true, τ)) k = some (.bool true, τ) := rfl
theorem orK_f (τ : Tape) (k : Tape → R) : orK (some (.bool false, τ)) k = k τ := rfl
def notK (r : Option (Bool × Tape)) : R := r.map fun p => (.bool (!p.1), p.2)
theorem notK_some (b : Bool) (τ : Tape) : notK (some (b, τ)) = some (.bool (!b), τ) := rfl
def csK (r : R) (k : Tape → Option (List D × Tape)) : Option (List D × Tape) := r.bind fun p => (k p.2).map fun q => (p.1 :: q.1, q.2)
def csM (x : D) (r : Option (List D × Tape)) : Option (List D × Tape) := r.map fun q => (x :: q.1, q.2)
theorem csK_some (x : D) (τ : Tape) (k : Tape → Option (List D × Tape)) : csK (some (x, τ)) k = csM x (k τ) := rfl
theorem csM_some (x : D) (xs : List D) (τ : Tape) : csM x (some (xs, τ)) = some (x :: xs, τ) := rfl
def mk1 (r : Option (List D × Tape)) (f : List D → D) : R := r.map fun p => (f p.1, p.2)
theorem mk1_some (xs : List D) (τ : Tape) (f : List D → D) : mk1 (some (xs, τ)) f = some (f xs, τ) := rfl
def clK (r : Option (List D × Tape)) (f : List D → Tape → R) : R := r.bind fun p => f p.1 p.2
theorem clK_some (xs : List D) (τ : Tape) (f : List D → Tape → R) : clK (some (xs, τ)) f = f xs τ := rfl
section
variable (cf : CF) (γ : En) (τ : Tape)
theorem e_v (i : Nat) : evalE cf (.v i) γ τ = lft (rd γ i) τ := by simp only [evalE]; rfl
theorem e_c (d : D) : evalE cf (.c d) γ τ = some (d, τ) := by simp only [evalE]
theorem e_yes : evalE cf .yes γ τ = some (.bool true, τ) := by simp only [evalE]
theorem e_tup (es : List IE) : evalE cf (.tup es) γ τ = mk1 (evalEs cf es γ τ) .tuple := by simp only [evalE]; rfl
theorem e_lst (es : List IE) : evalE cf (.lst es) γ τ = mk1 (evalEs cf es γ τ) .list := by simp only [evalE]; rfl
theorem e_bin (o : BOp) (a b : IE) : evalE cf (.bin o a b) γ τ = bi2 (evalE cf a γ τ) (evalE cf b γ) (opBin o) := by simp only [evalE]; rfl
theorem e_cmp (o : COp) (a b : IE) : evalE cf (.cmp o a b) γ τ = bi2 (evalE cf a γ τ) (evalE cf b γ) (cB o) := by
  simp only [evalE, bi2, un1, cB, lft, Option.map_map]
  rfl
theorem e_isN (a : IE) : evalE cf (.isN a) γ τ = un1 (evalE cf a γ τ) (fun d => some (.bool (isNoneD d))) := by
  simp only [evalE, un1, lft]
  cases evalE cf a γ τ <;> rfl
theorem e_notN (a : IE) : evalE cf (.notN a) γ τ = un1 (evalE cf a γ τ) (fun d => some (.bool (!isNoneD d))) := by
  simp only [evalE, un1, lft]
  cases evalE cf a γ τ <;> rfl
theorem e_and (a b : IE) : evalE cf (.and a b) γ τ = anK (evalE cf a γ τ) (evalE cf b γ) := by simp only [evalE]; rfl
theorem e_or (a b : IE) : evalE cf (.or a b) γ τ = orK (evalE cf a γ τ) (evalE cf b γ) := by simp only [evalE]; rfl
theorem e_not (a : IE) : evalE cf (.not a) γ τ = notK (tB1 (evalE cf a γ τ)) := by simp only [evalE]; rfl
theorem e_ite (c a b : IE) : evalE cf (.ite c a b) γ τ = pk (tB1 (evalE cf c γ τ)) (evalE cf a γ) (evalE cf b γ) := by simp only [evalE]; rfl
theorem e_ix (a b : IE) : evalE cf (.ix a b) γ τ = bi2 (evalE cf a γ τ) (evalE cf b γ) opIx := by simp only [evalE]; rfl
theorem e_slT (a b : IE) : evalE cf (.slT a b) γ τ = bi2 (evalE cf a γ τ) (evalE cf b γ) (fun x y => (intOf y).bind fun i => opSl x none (some i)) := by
  simp only [evalE, bi2, un1, lft]
  cases evalE cf a γ τ with
  | none => rfl
  | some p =>
    simp only [Option.bind_some]
    cases evalE cf b γ p.2 with
    | none => rfl
    | some q =>
      simp only [Option.bind_some]
      cases intOf q.1 <;> rfl
theorem e_b1 (f : B1) (a : IE) : evalE cf (.b1 f a) γ τ = un1 (evalE cf a γ τ) (opB1 f) := by simp only [evalE]; rfl
theorem e_b2 (f : B2) (a b : IE) : evalE cf (.b2 f a b) γ τ = bi2 (evalE cf a γ τ) (evalE cf b γ) (opB2 f) := by simp only [evalE]; rfl
theorem e_call (f : Nat) (es : List IE) : evalE cf (.call f es) γ τ = clK (evalEs cf es γ τ) (cf f) := by simp only [evalE]; rfl
theorem e_nil : evalEs cf [] γ τ = some ([], τ) := by simp only [evalEs]
theorem e_cons (e : IE) (es : List IE) : evalEs cf (e :: es) γ τ = csK (evalE cf e γ τ) (evalEs cf es γ) := by simp only [evalEs]; rfl
/-! statements -/
def thS (o : Option Out) (k : En → Tape → Option Out) : Option Out := o.bind fun o => match o with
  | .nx g t => k g t
  | o => some o
end
theorem thS_nx (γ : En) (τ : Tape) (k : En → Tape → Option Out) : thS (some (.nx γ τ)) k = k γ τ := rfl
theorem thS_rt (d : D) (τ : Tape) (k : En → Tape → Option Out) : thS (some (.rt d τ)) k = some (.rt d τ) := rfl
def stG (r : R) (f : D → Option En) : Option Out := r.bind fun p => (f p.1).map fun g => .nx g p.2
def nxT (r : Option En) (τ : Tape) : Option Out := r.map fun g => .nx g τ
theorem stG_some (d : D) (τ : Tape) (f : D → Option En) : stG (some (d, τ)) f = nxT (f d) τ := rfl
theorem nxT_some (γ : En) (τ : Tape) : nxT (some γ) τ = some (.nx γ τ) := rfl
def rtG (r : R) : Option Out := r.map fun p => .rt p.1 p.2
theorem rtG_some (d : D) (τ : Tape) : rtG (some (d, τ)) = some (.rt d τ) := rfl
def bG (tg : Tg) (γ : En) (d : D) : Option En := bindT tg d γ
theorem bG_n (i : Nat) (γ : En) (d : D) : bG (.n i) γ d = some (γ.set i (some d)) := by simp only [bG, bindT]
theorem bG_t (ts : List Tg) (γ : En) (xs : List D) : bG (.t ts) γ (.tuple xs) = bindTs ts xs γ := by simp only [bG, bindT]
theorem bG_l (ts : List Tg) (γ : En) (xs : List D) : bG (.l ts) γ (.list xs) = bindTs ts xs γ := by simp only [bG, bindT]
def bsG (r : Option En) (k : En → Option En) : Option En := r.bind k
theorem bsG_some (γ : En) (k : En → Option En) : bsG (some γ) k = k γ := rfl
theorem bs_nil (γ : En) : bindTs [] [] γ = some γ := by simp only [bindTs]
theorem bs_cons (t : Tg) (ts : List Tg) (x : D) (xs : List D) (γ : En) : bindTs (t :: ts) (x :: xs) γ = bsG (bG t γ x) (bindTs ts xs) := by simp only [bindTs]; rfl
def pr2 (r : R) (k : Tape → R) (f : D → D → En) : Option Out := r.bind fun p => (k p.2).map fun q => .nx (f p.1 q.1) q.2
def pr1 (r : R) (f : D → En) : Option Out := r.map fun q => .nx (f q.1) q.2
theorem pr2_some (d : D) (τ : Tape) (k : Tape → R) (f : D → D → En) : pr2 (some (d, τ)) k f = pr1 (k τ) (f d) := rfl
theorem pr1_some (d : D) (τ : Tape) (f : D → En) : pr1 (some (d, τ)) f = some (.nx (f d) τ) := rfl
section
variable (cf : CF) (γ : En) (τ : Tape)
theorem x_nil : execSs cf [] γ τ = some (.nx γ τ) := by simp only [execSs]
theorem x_cons (s : IS) (ss : List IS) : execSs cf (s :: ss) γ τ = thS (execS cf s γ τ) (execSs cf ss) := by
  simp only [execSs, thS]
  all_goals (cases execS cf s γ τ with
    | none => rfl
    | some o => cases o <;> rfl)
theorem x_set (tg : Tg) (e : IE) : execS cf (.set tg e) γ τ = stG (evalE cf e γ τ) (bG tg γ) := by simp only [execS]; rfl
theorem x_own (i : Nat) (t : Ty) (e : IE) : execS cf (.own i t e) γ τ = pr1 (evalE cf e γ τ) (fun d => γ.set i (some d)) := by simp only [execS]; rfl
theorem x_par (i j : Nat) (a b : IE) : execS cf (.par i j a b) γ τ = pr2 (evalE cf a γ τ) (evalE cf b γ) (fun x y => (γ.set i (some x)).set j (some y)) := by simp only [execS]; rfl
theorem x_ret (e : IE) : execS cf (.ret e) γ τ = rtG (evalE cf e γ τ) := by simp only [execS]; rfl
theorem x_ite (c : IE) (a b : List IS) : execS cf (.ite c a b) γ τ = pk (tB1 (evalE cf c γ τ)) (execSs cf a γ) (execSs cf b γ) := by simp only [execS]; rfl
theorem x_frz (i : Nat) : execS cf (.frz i) γ τ = some (.nx γ τ) := by simp only [execS]
end
def enR (o : Option Out) : R := o.bind fun o => match o with
  | .nx _ t => some (.none, t)
  | .rt d t => some (d, t)
  | _ => none
theorem enR_rt (d : D) (τ : Tape) : enR (some (.rt d τ)) = some (d, τ) := rfl
theorem enR_nx (γ : En) (τ : Tape) : enR (some (.nx γ τ)) = some (.none, τ) := rfl
theorem runB_eq (cf : CF) (nv : Nat) (b : List IS) (ds : List D) (τ : Tape) : runB cf nv b ds τ = enR (execSs cf b (ds.map some ++ List.replicate (nv - ds.length) none) τ) := rfl
theorem cB_eq_n (a b : Nat) : cB .eq (nI a) (nI b) = some (.bool (decide (a = b))) := by rw [cB, eq_n]; rfl
theorem cB_ne_n (a b : Nat) : cB .ne (nI a) (nI b) = some (.bool (!decide (a = b))) := by rw [cB, ne_n]; rfl
theorem cB_eq_s (a b : Str) : cB .eq (.str a) (.str b) = some (.bool (a == b)) := by rw [cB, eq_s]; rfl
theorem e_cmp2 {cf : CF} {γ : En} {τ : Tape} {a b c : IE} {x y z : Nat} (h1 : evalE cf a γ τ = some (nI x, τ)) (h2 : evalE cf b γ τ = some (nI y, τ)) (h3 : evalE cf c γ τ = some (nI z, τ)) :
    evalE cf (.cmp2 .eq .eq a b c) γ τ = some (.bool (decide (x = y) && decide (y = z)), τ) := by
  simp only [evalE, h1, h2, h3, Option.bind_some, eq_n]
  by_cases q : x = y
  · simp [q]
  · simp [q]
end Ev
namespace Ev
open PySem
def anB (p : Bool) (r : R) (τ : Tape) : R := if p then r else some (.bool false, τ)
theorem anK_b (p : Bool) (τ : Tape) (k : Tape → R) : anK (some (.bool p, τ)) k = anB p (k τ) τ := by cases p <;> rfl
theorem anB_some (p q : Bool) (τ : Tape) : anB p (some (.bool q, τ)) τ = some (.bool (p && q), τ) := by cases p <;> rfl
def orB (p : Bool) (r : R) (τ : Tape) : R := if p then some (.bool true, τ) else r
theorem orK_b (p : Bool) (τ : Tape) (k : Tape → R) : orK (some (.bool p, τ)) k = orB p (k τ) τ := by cases p <;> rfl
theorem orB_some (p q : Bool) (τ : Tape) : orB p (some (.bool q, τ)) τ = some (.bool (p || q), τ) := by cases p <;> rfl
theorem filt_true {α : Type} : ∀ xs : List α, xs.filter (fun _ => true) = xs
  | [] => rfl
  | x :: r => by rw [List.filter_cons, if_pos rfl, filt_true r]
theorem bools_map {α : Type} (f : α → Bool) : ∀ xs : List α, boolsOf (xs.map fun x => PyData.bool (f x)) = some (xs.map f)
  | [] => rfl
  | x :: r => by rw [List.map_cons, boolsOf, bools_map f r]; rfl
section
variable {cf : CF} {γ : En} {τ : Tape} {i n : Nat} {a elt cond : IE} {p : Nat → Bool}
theorem comp_r {c : Nat → Bool} {y : Nat → D} (hn : n ≤ 1000000) (ha : evalE cf a γ τ = some (nI n, τ)) (h : ∀ x, x < n → tst (evalE cf cond (γ.set i (some (nI x))) τ) = some (c x, τ) ∧ (c x = true → evalE cf elt (γ.set i (some (nI x))) τ = some (y x, τ))) :
    evalE cf (.comp [i] (.n i) .r1 [a] cond elt) γ τ = some (.list (((List.range n).filter c).map y), τ) :=
  ev_c1 (List.range n) nI c y (by simp only [evalEs, ha, Option.bind_some, Option.map_some]) (range_n n hn) (lenOk_n n hn) fun x hx => ⟨γ.set i (some (nI x)), by simp only [bindT], h x (List.mem_range.mp hx)⟩
theorem any_r (hn : n ≤ 1000000) (ha : evalE cf a γ τ = some (nI n, τ)) (h : ∀ x, x < n → evalE cf elt (γ.set i (some (nI x))) τ = some (.bool (p x), τ)) :
    evalE cf (.b1 .any (.comp [i] (.n i) .r1 [a] .yes elt)) γ τ = some (.bool ((List.range n).any p), τ) := by
  rw [e_b1, comp_r (c := fun _ => true) (y := fun x => .bool (p x)) hn ha fun x hx => ⟨by simp only [tst, evalE, Option.bind_some, truth, Option.map_some], fun _ => h x hx⟩, un1_some]
  rw [filt_true]
  simp only [opB1, bAny, listOf, Option.bind_some, bools_map, Option.map_some, lft_some, List.any_map]
  rfl
theorem all_r (hn : n ≤ 1000000) (ha : evalE cf a γ τ = some (nI n, τ)) (h : ∀ x, x < n → evalE cf elt (γ.set i (some (nI x))) τ = some (.bool (p x), τ)) :
    evalE cf (.b1 .all (.comp [i] (.n i) .r1 [a] .yes elt)) γ τ = some (.bool ((List.range n).all p), τ) := by
  rw [e_b1, comp_r (c := fun _ => true) (y := fun x => .bool (p x)) hn ha fun x hx => ⟨by simp only [tst, evalE, Option.bind_some, truth, Option.map_some], fun _ => h x hx⟩, un1_some]
  rw [filt_true]
  simp only [opB1, bAll, listOf, Option.bind_some, bools_map, Option.map_some, lft_some, List.all_map]
  rfl
theorem fil_r (hn : n ≤ 1000000) (hi : i < γ.length) (ha : evalE cf a γ τ = some (nI n, τ)) (h : ∀ x, x < n → evalE cf cond (γ.set i (some (nI x))) τ = some (.bool (p x), τ)) :
    evalE cf (.comp [i] (.n i) .r1 [a] cond (.v i)) γ τ = some (.list (((List.range n).filter p).map nI), τ) :=
  comp_r hn ha fun x hx => ⟨by rw [h x hx]; rfl, fun _ => by
    simp only [evalE, rd]
    rw [List.getD_eq_getElem?_getD, List.getElem?_set_self hi]
    rfl⟩
theorem len_l (xs : List D) : opB1 .len (.list xs) = some (nI xs.length) := rfl
theorem flen_r (hn : n ≤ 1000000) (hi : i < γ.length) (ha : evalE cf a γ τ = some (nI n, τ)) (h : ∀ x, x < n → evalE cf cond (γ.set i (some (nI x))) τ = some (.bool (p x), τ)) :
    evalE cf (.b1 .len (.comp [i] (.n i) .r1 [a] cond (.v i))) γ τ = some (nI ((List.range n).filter p).length, τ) := by
  rw [e_b1, fil_r hn hi ha h, un1_some, len_l, lft_some, List.length_map]
theorem for_find {ks : List Nat} {G : List Ty} {b : List IS} {r : Nat → D} (hn : n ≤ 1000000) (ha : evalE cf a γ τ = some (nI n, τ))
    (h : ∀ x, x < n → if p x = true then execSs cf b (γ.set i (some (nI x))) τ = some (.rt (r x) τ) else ∃ γ', execSs cf b (γ.set i (some (nI x))) τ = some (.nx γ' τ) ∧ kill γ' ks = γ) :
    execS cf (.for (.n i) .r1 [a] b ks G) γ τ = some (match (List.range n).find? p with | some x => .rt (r x) τ | none => .nx γ τ) := by
  simp only [execS, evalEs, ha, Option.bind_some, Option.map_some, range_n n hn]
  have e := forL_find (f := fun x g t => (bindT (.n i) x g).bind fun g' => execSs cf b g' t) (ks := ks) (enc := nI) (p := p) (r := r) (γ := γ) (τ := τ) (xs := List.range n) (fun x hx => by
    have q := h x (List.mem_range.mp hx)
    simpa only [bindT, Option.bind_some] using q)
  rw [e]
  all_goals (cases (List.range n).find? p <;> rfl)
end
end Ev
namespace Ev
open PySem
theorem forL_pre {α : Type} {f : D → En → Tape → Option Out} {ks : List Nat} {enc : α → D} {env : List α → En} {τ : Tape} : ∀ {xs pre : List α}, (∀ p x q, pre ++ xs = p ++ x :: q → pre.length ≤ p.length → ∃ γ', f (enc x) (env p) τ = some (.nx γ' τ) ∧ kill γ' ks = env (p ++ [x])) →
    forL f ks (xs.map enc) (env pre) τ = some (.nx (env (pre ++ xs)) τ)
  | [], pre, _ => by rw [List.append_nil]; rfl
  | x :: xs, pre, h => by
    obtain ⟨γ', e1, e2⟩ := h pre x xs rfl (Nat.le_refl _)
    rw [List.map_cons, forL, e1, Option.bind_some]
    show forL f ks (xs.map enc) (kill γ' ks) τ = _
    rw [e2, forL_pre (xs := xs) (pre := pre ++ [x]) fun p y q e l => h p y q (by rw [← e, List.append_assoc]; rfl) (by rw [List.length_append] at l; simp at l; omega)]
    rw [List.append_assoc]
    rfl
theorem seq_l (xs : List D) : items .seq [.list xs] = some xs := rfl
theorem seq_t (xs : List D) : items .seq [.tuple xs] = some xs := rfl
section
variable {cf : CF} {γ : En} {τ : Tape}
theorem for_pre {α : Type} {tg : Tg} {k : IK} {args : List IE} {b : List IS} {ks : List Nat} {G : List Ty} {ds : List D} (xs : List α) (enc : α → D) (env : List α → En) (h1 : evalEs cf args (env []) τ = some (ds, τ)) (h2 : items k ds = some (xs.map enc))
    (h : ∀ p x q, xs = p ++ x :: q → ∃ g γ', bindT tg (enc x) (env p) = some g ∧ execSs cf b g τ = some (.nx γ' τ) ∧ kill γ' ks = env (p ++ [x])) :
    execS cf (.for tg k args b ks G) (env []) τ = some (.nx (env xs) τ) := by
  simp only [execS, h1, Option.bind_some, h2]
  have e := forL_pre (f := fun x g t => (bindT tg x g).bind fun g' => execSs cf b g' t) (ks := ks) (enc := enc) (env := env) (τ := τ) (xs := xs) (pre := []) (fun p x q e _ => by
    obtain ⟨g, γ', e1, e2, e3⟩ := h p x q e
    exact ⟨γ', by show (bindT tg (enc x) (env p)).bind _ = _; rw [e1, Option.bind_some, e2], e3⟩)
  rw [e]
  rfl
theorem for_hit {α : Type} {tg : Tg} {k : IK} {args : List IE} {b : List IS} {ks : List Nat} {G : List Ty} {ds : List D} (xs : List α) (enc : α → D) (p : α → Bool) (r : α → D) (h1 : evalEs cf args γ τ = some (ds, τ)) (h2 : items k ds = some (xs.map enc))
    (h : ∀ x ∈ xs, ∃ g, bindT tg (enc x) γ = some g ∧ if p x = true then execSs cf b g τ = some (.rt (r x) τ) else ∃ γ', execSs cf b g τ = some (.nx γ' τ) ∧ kill γ' ks = γ) :
    execS cf (.for tg k args b ks G) γ τ = some (match xs.find? p with | some x => .rt (r x) τ | none => .nx γ τ) := by
  simp only [execS, h1, Option.bind_some, h2]
  have e := forL_find (f := fun x g t => (bindT tg x g).bind fun g' => execSs cf b g' t) (ks := ks) (enc := enc) (p := p) (r := r) (γ := γ) (τ := τ) (xs := xs) (fun x hx => by
    obtain ⟨g, e1, e2⟩ := h x hx
    simpa only [e1, Option.bind_some] using e2)
  rw [e]
  all_goals (cases xs.find? p <;> rfl)
theorem ev_c2 {α : Type} {own : List Nat} {tg tg2 : Tg} {k : IK} {args args2 : List IE} {elt : IE} {ds : List D} {n : Nat} (xs : List α) (enc : α → D) (y : α → Nat → D) (hn : n ≤ 1000000) (h1 : evalEs cf args γ τ = some (ds, τ)) (h2 : items k ds = some (xs.map enc))
    (h : ∀ x ∈ xs, ∃ g, bindT tg (enc x) γ = some g ∧ evalEs cf args2 g τ = some ([nI n], τ) ∧ ∀ v, v < n → ∃ g2, bindT tg2 (nI v) g = some g2 ∧ evalE cf elt g2 τ = some (y x v, τ)) (hl : (xs.flatMap fun x => (List.range n).map (y x)).length ≤ sizeLine) :
    evalE cf (.comp2 own tg k args .yes tg2 .r1 args2 .yes elt) γ τ = some (.list (xs.flatMap fun x => (List.range n).map (y x)), τ) := by
  simp only [evalE, h1, Option.bind_some, h2]
  rw [compLs_pure (enc := enc) (g := fun x => (List.range n).map (y x))]
  · simp only [Option.bind_some]
    rw [if_pos hl]
  · intro x hx
    obtain ⟨g, e1, e2, e3⟩ := h x hx
    simp only [e1, Option.bind_some, tst, evalE, truth, Option.map_some, if_true, e2, range_n n hn]
    rw [compL_pure (enc := nI) (g := fun v => some (y x v))]
    · rw [show (List.range n).filterMap (fun v => some (y x v)) = (List.range n).map (y x) from congrFun List.filterMap_eq_map _]
    · intro v hv
      obtain ⟨g2, q1, q2⟩ := e3 v (List.mem_range.mp hv)
      simp only [q1, Option.bind_some, q2, if_true, Option.map_some]
theorem e_dcst (kvs : List (Str × D)) (e : IE) : evalE cf (.dcst kvs e) γ τ = un1 (evalE cf e γ τ) (fun d => (strOf d).bind (lastK kvs)) := by
  simp only [evalE, un1, lft]
  cases evalE cf e γ τ with
  | none => rfl
  | some p =>
    simp only [Option.bind_some]
    cases strOf p.1 <;> rfl
end
end Ev
namespace Ev
open PySem
theorem x_ext {cf : CF} {γ : En} {τ : Tape} {i : Nat} {e : IE} {xs ys : List D} (h1 : evalE cf e γ τ = some (.list ys, τ)) (h2 : rd γ i = some (.list xs)) (hl : xs.length + ys.length ≤ sizeLine) : execS cf (.ext i e) γ τ = some (.nx (γ.set i (some (.list (xs ++ ys)))) τ) := by
  simp only [execS, h1, h2, Option.bind_some]
  rw [if_pos hl]
theorem x_app {cf : CF} {γ : En} {τ τ' : Tape} {i : Nat} {e : IE} {xs : List D} {y : D} (h1 : evalE cf e γ τ = some (y, τ')) (h2 : rd γ i = some (.list xs)) (hl : xs.length < sizeLine) : execS cf (.app i e) γ τ = some (.nx (γ.set i (some (.list (xs ++ [y])))) τ') := by
  simp only [execS, h1, h2, Option.bind_some]
  rw [if_pos hl]
end Ev
set_option Elab.async false
set_option linter.all false
set_option maxRecDepth 100000
set_option autoImplicit false
/-! Ev40: a monad for mirrors; kinds of data; the judgements of expressions. -/
namespace Ev
open PySem
/-! ### the monad -/
def M (α : Type) : Type := Tape → Option (α × Tape)
instance : Monad M where
  pure x := fun τ => some (x, τ)
  bind m f := fun τ => (m τ).bind fun p => f p.1 p.2
theorem M.ext {α : Type} {m n : M α} (h : ∀ τ, m τ = n τ) : m = n := funext h
theorem bind_app {α β : Type} (m : M α) (f : α → M β) (τ : Tape) : (m >>= f) τ = (m τ).bind fun p => f p.1 p.2 := rfl
theorem pure_app {α : Type} (x : α) (τ : Tape) : (pure x : M α) τ = some (x, τ) := rfl
theorem bindM_some {α β : Type} {m : M α} {f : α → M β} {τ τ' : Tape} {y : β} (h : (m >>= f) τ = some (y, τ')) : ∃ x τ1, m τ = some (x, τ1) ∧ f x τ1 = some (y, τ') := by
  rw [bind_app, Option.bind_eq_some_iff] at h
  obtain ⟨⟨x, τ1⟩, h1, h2⟩ := h
  exact ⟨x, τ1, h1, h2⟩
theorem pureM_some {α : Type} {x y : α} {τ τ' : Tape} (h : (pure x : M α) τ = some (y, τ')) : x = y ∧ τ = τ' := by
  rw [pure_app] at h
  cases h
  exact ⟨rfl, rfl⟩
@[simp] theorem pb {α β : Type} (x : α) (f : α → M β) : ((pure x : M α) >>= f) = f x := rfl
theorem bp {α : Type} (m : M α) : (m >>= fun x => (pure x : M α)) = m := by
  funext τ
  show (m τ).bind _ = _
  cases m τ <;> rfl
@[simp] theorem ba {α β γ : Type} (m : M α) (f : α → M β) (g : β → M γ) : ((m >>= f) >>= g) = (m >>= fun x => f x >>= g) := by
  funext τ
  show ((m τ).bind _).bind _ = (m τ).bind _
  cases m τ <;> rfl
def failM {α : Type} : M α := fun _ => none
@[simp] theorem failM_bind {α β : Type} (f : α → M β) : ((failM : M α) >>= f) = failM := rfl
def grd {α : Type} (p : Prop) [Decidable p] (x : α) : M α := if p then pure x else failM
theorem grd_ok {α : Type} {p : Prop} [Decidable p] (h : p) (x : α) : grd p x = pure x := if_pos h
theorem grd_some {α : Type} {p : Prop} [Decidable p] {x y : α} {τ τ' : Tape} (h : grd p x τ = some (y, τ')) : p ∧ x = y ∧ τ = τ' := by
  unfold grd at h
  split at h
  · rename_i q; exact ⟨q, pureM_some h⟩
  · cases h
def ofO {α : Type} : Option α → M α
  | some x => pure x
  | none => failM
@[simp] theorem ofO_none {α : Type} : ofO (none : Option α) = failM := rfl
@[simp] theorem ofO_some' {α : Type} (x : α) : ofO (some x) = pure x := rfl
theorem ofO_some {α : Type} {o : Option α} {y : α} {τ τ' : Tape} (h : ofO o τ = some (y, τ')) : o = some y ∧ τ = τ' := by
  cases o with
  | none => cases h
  | some x => obtain ⟨rfl, rfl⟩ := pureM_some h; exact ⟨rfl, rfl⟩
/-! ### kinds of data -/
class Enc (α : Type) where
  enc : α → D
open Enc (enc)
instance : Enc D := ⟨id⟩
instance : Enc Nat := ⟨nI⟩
instance : Enc Int := ⟨PyData.int⟩
instance : Enc Bool := ⟨PyData.bool⟩
instance : Enc Str := ⟨PyData.str⟩
instance : Enc Unit := ⟨fun _ => .none⟩
instance {α : Type} [Enc α] : Enc (List α) := ⟨fun l => .list (l.map enc)⟩
/-- a tuple of any length -/
structure Tu (α : Type) where
  l : List α
  deriving DecidableEq
instance {α : Type} [Enc α] : Enc (Tu α) := ⟨fun t => .tuple (t.l.map enc)⟩
instance {α β : Type} [Enc α] [Enc β] : Enc (α × β) := ⟨fun p => .tuple [enc p.1, enc p.2]⟩
structure P3 (α β γ : Type) where
  a : α
  b : β
  c : γ
  deriving DecidableEq
instance {α β γ : Type} [Enc α] [Enc β] [Enc γ] : Enc (P3 α β γ) := ⟨fun p => .tuple [enc p.a, enc p.b, enc p.c]⟩
structure P4 (α β γ δ : Type) where
  a : α
  b : β
  c : γ
  d : δ
  deriving DecidableEq
instance {α β γ δ : Type} [Enc α] [Enc β] [Enc γ] [Enc δ] : Enc (P4 α β γ δ) := ⟨fun p => .tuple [enc p.a, enc p.b, enc p.c, enc p.d]⟩
instance {α : Type} [Enc α] : Enc (Option α) := ⟨fun o => match o with | some x => enc x | none => .none⟩
theorem enc_D (d : D) : enc d = d := rfl
theorem enc_N (n : Nat) : enc n = nI n := rfl
theorem enc_L {α : Type} [Enc α] (l : List α) : enc l = .list (l.map enc) := rfl
theorem enc_T {α : Type} [Enc α] (l : Tu α) : enc l = .tuple (l.l.map enc) := rfl
/-! ### from data to kinds -/
class Dec (α : Type) extends Enc α where
  dec : D → Option α
  dec_ok : ∀ d x, dec d = some x → d = toEnc.enc x
open Dec (dec)
def natD : D → Option Nat
  | .int (.ofNat n) => some n
  | _ => none
instance : Dec Nat where
  dec := natD
  dec_ok d x h := by
    unfold natD at h
    split at h
    · cases h; rfl
    · cases h
instance : Dec Int where
  dec := intOf
  dec_ok d x h := by
    unfold intOf at h
    split at h
    · cases h; rfl
    · cases h
def boolD : D → Option Bool
  | .bool b => some b
  | _ => none
instance : Dec Bool where
  dec := boolD
  dec_ok d x h := by
    unfold boolD at h
    split at h
    · cases h; rfl
    · cases h
instance : Dec Str where
  dec := strOf
  dec_ok d x h := by
    unfold strOf at h
    split at h
    · cases h; rfl
    · cases h
instance : Dec D where
  dec := some
  dec_ok d x h := by cases h; rfl
def allD {α : Type} (f : D → Option α) : List D → Option (List α)
  | [] => some []
  | d :: ds => (f d).bind fun x => (allD f ds).map (x :: ·)
theorem allD_ok {α : Type} [Dec α] : ∀ (ds : List D) (xs : List α), allD dec ds = some xs → ds = xs.map enc
  | [], xs, h => by cases h; rfl
  | d :: ds, xs, h => by
    simp only [allD, Option.bind_eq_some_iff, Option.map_eq_some_iff] at h
    obtain ⟨x, h1, ys, h2, rfl⟩ := h
    rw [List.map_cons, ← allD_ok ds ys h2, Dec.dec_ok d x h1]
instance {α : Type} [Dec α] : Dec (List α) where
  dec d := (listOf d).bind (allD dec)
  dec_ok d x h := by
    obtain ⟨ds, h1, h2⟩ := Option.bind_eq_some_iff.mp h
    unfold listOf at h1
    split at h1
    · cases h1
      rw [allD_ok _ _ h2]; rfl
    · cases h1
def tupOf : D → Option (List D)
  | .tuple xs => some xs
  | _ => none
instance {α : Type} [Dec α] : Dec (Tu α) where
  dec d := (tupOf d).bind fun ds => (allD dec ds).map Tu.mk
  dec_ok d x h := by
    obtain ⟨ds, h1, h2⟩ := Option.bind_eq_some_iff.mp h
    obtain ⟨xs, h3, rfl⟩ := Option.map_eq_some_iff.mp h2
    unfold tupOf at h1
    split at h1
    · cases h1
      rw [allD_ok _ _ h3]; rfl
    · cases h1
instance {α β : Type} [Dec α] [Dec β] : Dec (α × β) where
  dec d := match d with
    | .tuple [x, y] => (dec x).bind fun a => (dec y).map fun b => (a, b)
    | _ => none
  dec_ok d x h := by
    split at h
    · obtain ⟨a, h1, h2⟩ := Option.bind_eq_some_iff.mp h
      obtain ⟨b, h3, rfl⟩ := Option.map_eq_some_iff.mp h2
      show _ = PyData.tuple [enc a, enc b]
      rw [Dec.dec_ok _ _ h1, Dec.dec_ok _ _ h3]
    · cases h
@[simp] theorem dec_N (n : Nat) : (dec (nI n) : Option Nat) = some n := rfl
@[simp] theorem dec_N' (n : Nat) : (dec (enc n) : Option Nat) = some n := rfl
@[simp] theorem dec_Z (n : Int) : (dec (PyData.int n) : Option Int) = some n := rfl
@[simp] theorem dec_S (n : Str) : (dec (PyData.str n) : Option Str) = some n := rfl
@[simp] theorem dec_B (n : Bool) : (dec (PyData.bool n) : Option Bool) = some n := rfl
@[simp] theorem dec_D (n : D) : (dec n : Option D) = some n := rfl
theorem allD_map {α β : Type} {f : D → Option α} {g : β → D} {k : β → α} (h : ∀ x, f (g x) = some (k x)) : ∀ xs : List β, allD f (xs.map g) = some (xs.map k)
  | [] => rfl
  | x :: xs => by simp only [List.map_cons, allD, h, allD_map h xs, Option.bind_some, Option.map_some]
@[simp] theorem dec_LD (ds : List D) : (dec (PyData.list ds) : Option (List D)) = some ds := by
  show allD dec ds = _
  have := allD_map (f := (dec : D → Option D)) (g := id) (k := id) (fun x => rfl) ds
  simpa using this
@[simp] theorem dec_TD (ds : List D) : (dec (PyData.tuple ds) : Option (Tu D)) = some ⟨ds⟩ := by
  show (allD dec ds).map Tu.mk = _
  have := allD_map (f := (dec : D → Option D)) (g := id) (k := id) (fun x => rfl) ds
  rw [List.map_id] at this
  rw [this]
  simp
@[simp] theorem dec_LN (ds : List Nat) : (dec (enc ds) : Option (List Nat)) = some ds := by
  show allD dec (ds.map enc) = _
  have := allD_map (f := (dec : D → Option Nat)) (g := enc) (k := id) (fun x => rfl) ds
  simpa using this
@[simp] theorem dec_TN (ds : Tu Nat) : (dec (enc ds) : Option (Tu Nat)) = some ds := by
  show (allD dec (ds.l.map enc)).map Tu.mk = _
  have := allD_map (f := (dec : D → Option Nat)) (g := enc) (k := id) (fun x => rfl) ds.l
  rw [this]
  simp
/-! ### equality -/
class EqE (α : Type) [Enc α] [DecidableEq α] where
  dp : Nat
  hd : ∀ a : α, (enc a).depth ≤ dp
  eq : ∀ a b : α, PyData.eqv (enc a) (enc b) = decide (a = b)
instance : EqE Nat := ⟨0, fun a => by show (PyData.int _).depth ≤ 0; simp [PyData.depth], fun a b => nI_eq a b⟩
instance : EqE Int := ⟨0, fun a => by show (PyData.int _).depth ≤ 0; simp [PyData.depth], fun a b => by
  show PyData.eqv (.int a) (.int b) = _
  simp only [PyData.eqv]
  by_cases h : a = b <;> simp [h]⟩
instance : EqE Bool := ⟨0, fun a => by show (PyData.bool _).depth ≤ 0; simp [PyData.depth], fun a b => by
  show PyData.eqv (.bool a) (.bool b) = _
  cases a <;> cases b <;> rfl⟩
instance : EqE Str := ⟨0, fun a => by show (PyData.str _).depth ≤ 0; simp [PyData.depth], fun a b => by
  show PyData.eqv (.str a) (.str b) = _
  simp only [PyData.eqv]
  by_cases h : a = b <;> simp [h]⟩
theorem depthAll_le {α : Type} [Enc α] {n : Nat} (h : ∀ a : α, (enc a).depth ≤ n) : ∀ l : List α, PyData.depthAll (l.map enc) ≤ n
  | [] => by simp [PyData.depthAll]
  | x :: r => by
    simp only [List.map_cons, PyData.depthAll]
    exact Nat.max_le.mpr ⟨h x, depthAll_le h r⟩
theorem eqvAll_enc {α : Type} [Enc α] [DecidableEq α] [EqE α] : ∀ l m : List α, PyData.eqvAll (l.map enc) (m.map enc) = decide (l = m)
  | [], [] => by simp [PyData.eqvAll]
  | [], _ :: _ => by simp [PyData.eqvAll]
  | _ :: _, [] => by simp [PyData.eqvAll]
  | x :: r, y :: s => by
    simp only [List.map_cons, PyData.eqvAll, EqE.eq, eqvAll_enc r s, List.cons.injEq]
    by_cases h : x = y <;> by_cases h2 : r = s <;> simp [h, h2]
instance {α : Type} [Enc α] [DecidableEq α] [EqE α] : EqE (List α) := ⟨EqE.dp α + 1, fun a => by
    show (PyData.list _).depth ≤ _
    simp only [PyData.depth]
    have := depthAll_le (α := α) EqE.hd a
    omega, fun a b => by
    show PyData.eqv (.list _) (.list _) = _
    simp only [PyData.eqv]
    exact eqvAll_enc a b⟩
instance {α : Type} [Enc α] [DecidableEq α] [EqE α] : EqE (Tu α) := ⟨EqE.dp α + 1, fun a => by
    show (PyData.tuple _).depth ≤ _
    simp only [PyData.depth]
    have := depthAll_le (α := α) EqE.hd a.l
    omega, fun a b => by
    show PyData.eqv (.tuple _) (.tuple _) = _
    simp only [PyData.eqv]
    rw [eqvAll_enc a.l b.l]
    obtain ⟨l⟩ := a
    obtain ⟨m⟩ := b
    by_cases h : l = m <;> simp [h]⟩
instance {α β : Type} [Enc α] [Enc β] [DecidableEq α] [DecidableEq β] [EqE α] [EqE β] : EqE (α × β) := ⟨max (EqE.dp α) (EqE.dp β) + 1, fun a => by
    show (PyData.tuple _).depth ≤ _
    simp only [PyData.depth, PyData.depthAll]
    have h1 := EqE.hd a.1
    have h2 := EqE.hd a.2
    omega, fun a b => by
    show PyData.eqv (.tuple _) (.tuple _) = _
    simp only [PyData.eqv, PyData.eqvAll, EqE.eq, Bool.and_true]
    obtain ⟨x, y⟩ := a
    obtain ⟨z, w⟩ := b
    by_cases h : x = z <;> by_cases h2 : y = w <;> simp [h, h2]⟩
instance {α β γ : Type} [Enc α] [Enc β] [Enc γ] [DecidableEq α] [DecidableEq β] [DecidableEq γ] [EqE α] [EqE β] [EqE γ] : EqE (P3 α β γ) := ⟨max (EqE.dp α) (max (EqE.dp β) (EqE.dp γ)) + 1, fun a => by
    show (PyData.tuple _).depth ≤ _
    simp only [PyData.depth, PyData.depthAll]
    have h1 := EqE.hd a.a
    have h2 := EqE.hd a.b
    have h3 := EqE.hd a.c
    omega, fun a b => by
    show PyData.eqv (.tuple _) (.tuple _) = _
    simp only [PyData.eqv, PyData.eqvAll, EqE.eq, Bool.and_true]
    obtain ⟨x, y, u⟩ := a
    obtain ⟨z, w, v⟩ := b
    by_cases h : x = z <;> by_cases h2 : y = w <;> by_cases h3 : u = v <;> simp [h, h2, h3]⟩
instance {α β γ δ : Type} [Enc α] [Enc β] [Enc γ] [Enc δ] [DecidableEq α] [DecidableEq β] [DecidableEq γ] [DecidableEq δ] [EqE α] [EqE β] [EqE γ] [EqE δ] : EqE (P4 α β γ δ) := ⟨max (max (EqE.dp α) (EqE.dp β)) (max (EqE.dp γ) (EqE.dp δ)) + 1, fun a => by
    show (PyData.tuple _).depth ≤ _
    simp only [PyData.depth, PyData.depthAll]
    have h1 := EqE.hd a.a
    have h2 := EqE.hd a.b
    have h3 := EqE.hd a.c
    have h4 := EqE.hd a.d
    omega, fun a b => by
    show PyData.eqv (.tuple _) (.tuple _) = _
    simp only [PyData.eqv, PyData.eqvAll, EqE.eq, Bool.and_true]
    obtain ⟨x, y, u, s⟩ := a
    obtain ⟨z, w, v, t⟩ := b
    by_cases h : x = z <;> by_cases h2 : y = w <;> by_cases h3 : u = v <;> by_cases h4 : s = t <;> simp [h, h2, h3, h4]⟩
theorem cEq_enc {α : Type} [Enc α] [DecidableEq α] [EqE α] (h : EqE.dp α ≤ 100) (a b : α) : cEq (enc a) (enc b) = some (decide (a = b)) := by
  unfold cEq
  rw [if_pos (by unfold shallow; rw [decide_eq_true (Nat.le_trans (EqE.hd a) h)]; rfl), EqE.eq]
theorem any_enc {α : Type} [Enc α] [DecidableEq α] [EqE α] (a : α) : ∀ l : List α, (l.map enc).any (fun z => PyData.eqv z (enc a)) = decide (a ∈ l)
  | [] => by simp
  | x :: r => by
    simp only [List.map_cons, List.any_cons, EqE.eq, any_enc a r, List.mem_cons]
    by_cases h : x = a
    · simp [h]
    · have : ¬ a = x := fun e => h e.symm
      simp [h, this]
theorem ofString_inj (a b : String) : (Str.ofString a = Str.ofString b) ↔ a = b := by
  constructor
  · intro h
    have h1 : cpsOfBytes 0 0 a.toByteArray.data.toList = cpsOfBytes 0 0 b.toByteArray.data.toList := by
      unfold Str.ofString at h
      injection h with h
      have := congrArg Array.toList h
      simpa using this
    rw [cpsOfBytes_string, cpsOfBytes_string] at h1
    have h2 : a.toList = b.toList := by
      have inj : ∀ (l m : List Char), l.map Char.toNat = m.map Char.toNat → l = m := by
        intro l
        induction l with
        | nil => intro m h; cases m with
          | nil => rfl
          | cons _ _ => simp at h
        | cons c l ih => intro m h; cases m with
          | nil => simp at h
          | cons d m =>
            simp only [List.map_cons, List.cons.injEq] at h
            rw [ih m h.2, Char.toNat_inj.mp h.1]
      exact inj _ _ h1
    exact String.toList_inj.mp h2
  · intro h; rw [h]
/-! ### judgements -/
section
variable (cf : CF) (γ : En)
def EM {α : Type} [Enc α] (e : IE) (m : M α) : Prop := ∀ τ x τ', m τ = some (x, τ') → evalE cf e γ τ = some (enc x, τ')
/-- a test -/
def EC (e : IE) (m : M Bool) : Prop := ∀ τ x τ', m τ = some (x, τ') → tst (evalE cf e γ τ) = some (x, τ')
/-- many -/
def EAs (es : List IE) (m : M (List D)) : Prop := ∀ τ x τ', m τ = some (x, τ') → evalEs cf es γ τ = some (x, τ')
/-- what is walked -/
def ES {α : Type} [Enc α] (k : IK) (args : List IE) (m : M (List α)) : Prop := ∀ τ xs τ', m τ = some (xs, τ') → ∃ ds, evalEs cf args γ τ = some (ds, τ') ∧ items k ds = some (xs.map enc) ∧ lenOk k (xs.map enc) = true
end
end Ev
set_option Elab.async false
set_option linter.all false
set_option maxRecDepth 100000
set_option autoImplicit false
/-! Ev41: rules of expressions. -/
namespace Ev
open PySem
open Enc (enc)
open Dec (dec)
def Op1 {α ρ : Type} [Enc α] [Enc ρ] (g : D → Option D) (r : α → M ρ) : Prop := ∀ x τ z τ', r x τ = some (z, τ') → g (enc x) = some (enc z) ∧ τ = τ'
def Op2 {α β ρ : Type} [Enc α] [Enc β] [Enc ρ] (g : D → D → Option D) (r : α → β → M ρ) : Prop := ∀ x y τ z τ', r x y τ = some (z, τ') → g (enc x) (enc y) = some (enc z) ∧ τ = τ'
def Op3 {α β δ ρ : Type} [Enc α] [Enc β] [Enc δ] [Enc ρ] (g : D → D → D → Option D) (r : α → β → δ → M ρ) : Prop := ∀ x y w τ z τ', r x y w τ = some (z, τ') → g (enc x) (enc y) (enc w) = some (enc z) ∧ τ = τ'
section
variable {α β δ ρ : Type} [Enc α] [Enc β] [Enc δ] [Enc ρ]
theorem Op1.p {g : D → Option D} {f : α → ρ} (h : ∀ x, g (enc x) = some (enc (f x))) : Op1 g (fun x => (pure (f x) : M ρ)) := fun x τ z τ' e => by
  obtain ⟨rfl, rfl⟩ := pureM_some e
  exact ⟨h x, rfl⟩
theorem Op2.p {g : D → D → Option D} {f : α → β → ρ} (h : ∀ x y, g (enc x) (enc y) = some (enc (f x y))) : Op2 g (fun x y => (pure (f x y) : M ρ)) := fun x y τ z τ' e => by
  obtain ⟨rfl, rfl⟩ := pureM_some e
  exact ⟨h x y, rfl⟩
theorem Op3.p {g : D → D → D → Option D} {f : α → β → δ → ρ} (h : ∀ x y w, g (enc x) (enc y) (enc w) = some (enc (f x y w))) : Op3 g (fun x y w => (pure (f x y w) : M ρ)) := fun x y w τ z τ' e => by
  obtain ⟨rfl, rfl⟩ := pureM_some e
  exact ⟨h x y w, rfl⟩
theorem Op1.g {g : D → Option D} {p : α → Prop} [∀ x, Decidable (p x)] {f : α → ρ} (h : ∀ x, p x → g (enc x) = some (enc (f x))) : Op1 g (fun x => grd (p x) (f x)) := fun x τ z τ' e => by
  obtain ⟨h1, rfl, rfl⟩ := grd_some e
  exact ⟨h x h1, rfl⟩
theorem Op2.g {g : D → D → Option D} {p : α → β → Prop} [∀ x y, Decidable (p x y)] {f : α → β → ρ} (h : ∀ x y, p x y → g (enc x) (enc y) = some (enc (f x y))) : Op2 g (fun x y => grd (p x y) (f x y)) := fun x y τ z τ' e => by
  obtain ⟨h1, rfl, rfl⟩ := grd_some e
  exact ⟨h x y h1, rfl⟩
theorem Op1.o {g : D → Option D} {f : α → Option ρ} (h : ∀ x z, f x = some z → g (enc x) = some (enc z)) : Op1 g (fun x => ofO (f x)) := fun x τ z τ' e => by
  obtain ⟨h1, rfl⟩ := ofO_some e
  exact ⟨h x z h1, rfl⟩
theorem Op2.o {g : D → D → Option D} {f : α → β → Option ρ} (h : ∀ x y z, f x y = some z → g (enc x) (enc y) = some (enc z)) : Op2 g (fun x y => ofO (f x y)) := fun x y τ z τ' e => by
  obtain ⟨h1, rfl⟩ := ofO_some e
  exact ⟨h x y z h1, rfl⟩
theorem Op3.o {g : D → D → D → Option D} {f : α → β → δ → Option ρ} (h : ∀ x y w z, f x y w = some z → g (enc x) (enc y) (enc w) = some (enc z)) : Op3 g (fun x y w => ofO (f x y w)) := fun x y w τ z τ' e => by
  obtain ⟨h1, rfl⟩ := ofO_some e
  exact ⟨h x y w z h1, rfl⟩
end
section
variable {cf : CF} {γ : En} {α β δ ρ : Type} [Enc α] [Enc β] [Enc δ] [Enc ρ] {a b c : IE} {ma : M α} {mb : M β} {mc : M δ}
theorem E_v {i : Nat} {x : α} (h : rd γ i = some (enc x)) : EM cf γ (.v i) (pure x) := fun τ y τ' e => by
  obtain ⟨rfl, rfl⟩ := pureM_some e
  simp only [evalE, h, Option.map_some]
theorem E_c {x : α} {d : D} (h : d = enc x) : EM cf γ (.c d) (pure x) := fun τ y τ' e => by
  obtain ⟨rfl, rfl⟩ := pureM_some e
  simp only [evalE, h]
theorem E_yes : EM cf γ .yes (pure true) := fun τ y τ' e => by
  obtain ⟨rfl, rfl⟩ := pureM_some e
  simp only [evalE]; rfl
/-- another kind for the same datum -/
theorem E_up {f : α → β} (h : ∀ x, enc (f x) = enc x) (ha : EM cf γ a ma) : EM cf γ a (ma >>= fun x => pure (f x)) := fun τ y τ' e => by
  obtain ⟨x, τ1, e1, e2⟩ := bindM_some e
  obtain ⟨rfl, rfl⟩ := pureM_some e2
  rw [h]; exact ha _ _ _ e1
theorem E_dn {ε : Type} [Dec ε] {ma : M D} (ha : EM cf γ a ma) : EM cf γ a (ma >>= fun x => ofO (dec x : Option ε)) := fun τ y τ' e => by
  obtain ⟨x, τ1, e1, e2⟩ := bindM_some e
  obtain ⟨h, rfl⟩ := ofO_some e2
  rw [ha _ _ _ e1, show enc x = x from rfl, Dec.dec_ok _ _ h]
/-- None or a datum, taken for a datum -/
theorem E_sm {ma : M (Option α)} (ha : EM cf γ a ma) : EM cf γ a (ma >>= fun x => ofO x) := fun τ y τ' e => by
  obtain ⟨x, τ1, e1, e2⟩ := bindM_some e
  obtain ⟨h, rfl⟩ := ofO_some e2
  rw [ha _ _ _ e1, h]; rfl
theorem E_bin {o : BOp} {r : α → β → M ρ} (h : Op2 (opBin o) r) (ha : EM cf γ a ma) (hb : EM cf γ b mb) : EM cf γ (.bin o a b) (ma >>= fun x => mb >>= fun y => r x y) := fun τ y τ' e => by
  obtain ⟨x, τ1, e1, e⟩ := bindM_some e
  obtain ⟨z, τ2, e2, e⟩ := bindM_some e
  obtain ⟨h1, rfl⟩ := h _ _ _ _ _ e
  simp only [evalE, ha _ _ _ e1, hb _ _ _ e2, Option.bind_some, h1, Option.map_some]
theorem E_cmp {o : COp} {r : α → β → M Bool} (h : Op2 (fun x y => (opCmp o x y).map PyData.bool) r) (ha : EM cf γ a ma) (hb : EM cf γ b mb) : EM cf γ (.cmp o a b) (ma >>= fun x => mb >>= fun y => r x y) := fun τ y τ' e => by
  obtain ⟨x, τ1, e1, e⟩ := bindM_some e
  obtain ⟨z, τ2, e2, e⟩ := bindM_some e
  obtain ⟨h1, rfl⟩ := h _ _ _ _ _ e
  obtain ⟨q, h2, h3⟩ := Option.map_eq_some_iff.mp h1
  simp only [evalE, ha _ _ _ e1, hb _ _ _ e2, Option.bind_some, h2, Option.map_some, h3]
theorem E_cmp2 {o o' : COp} {r : α → β → M Bool} {s : β → δ → M Bool} (h : Op2 (fun x y => (opCmp o x y).map PyData.bool) r) (h' : Op2 (fun x y => (opCmp o' x y).map PyData.bool) s) (ha : EM cf γ a ma) (hb : EM cf γ b mb) (hc : EM cf γ c mc) :
    EM cf γ (.cmp2 o o' a b c) (ma >>= fun x => mb >>= fun y => r x y >>= fun q => if q = true then mc >>= fun z => s y z else pure false) := fun τ w τ' e => by
  obtain ⟨x, τ1, e1, e⟩ := bindM_some e
  obtain ⟨y, τ2, e2, e⟩ := bindM_some e
  obtain ⟨q, τ3, e3, e⟩ := bindM_some e
  obtain ⟨h1, rfl⟩ := h _ _ _ _ _ e3
  obtain ⟨k, h2, h3⟩ := Option.map_eq_some_iff.mp h1
  cases h3
  cases q with
  | false =>
    rw [if_neg Bool.false_ne_true] at e
    obtain ⟨rfl, rfl⟩ := pureM_some e
    simp only [evalE, ha _ _ _ e1, hb _ _ _ e2, Option.bind_some, h2, Bool.false_eq_true, if_false]; rfl
  | true =>
    rw [if_pos rfl] at e
    obtain ⟨z, τ4, e4, e⟩ := bindM_some e
    obtain ⟨h4, rfl⟩ := h' _ _ _ _ _ e
    obtain ⟨k, h5, h6⟩ := Option.map_eq_some_iff.mp h4
    cases h6
    simp only [evalE, ha _ _ _ e1, hb _ _ _ e2, Option.bind_some, h2, if_true, hc _ _ _ e4, h5, Option.map_some]; rfl
theorem E_isN {ma : M (Option α)} (hn : ∀ x : α, isNoneD (enc x) = false) (ha : EM cf γ a ma) : EM cf γ (.isN a) (ma >>= fun x => pure x.isNone) := fun τ y τ' e => by
  obtain ⟨x, τ1, e1, e⟩ := bindM_some e
  obtain ⟨rfl, rfl⟩ := pureM_some e
  cases x with
  | none => simp only [evalE, ha _ _ _ e1, Option.map_some]; rfl
  | some x => simp only [evalE, ha _ _ _ e1, Option.map_some]; show some (PyData.bool (isNoneD (enc x)), τ1) = _; rw [hn]; rfl
theorem E_notN {ma : M (Option α)} (hn : ∀ x : α, isNoneD (enc x) = false) (ha : EM cf γ a ma) : EM cf γ (.notN a) (ma >>= fun x => pure x.isSome) := fun τ y τ' e => by
  obtain ⟨x, τ1, e1, e⟩ := bindM_some e
  obtain ⟨rfl, rfl⟩ := pureM_some e
  cases x with
  | none => simp only [evalE, ha _ _ _ e1, Option.map_some]; rfl
  | some x => simp only [evalE, ha _ _ _ e1, Option.map_some]; show some (PyData.bool (!isNoneD (enc x)), τ1) = _; rw [hn]; rfl
theorem E_isND {ma : M D} (ha : EM cf γ a ma) : EM cf γ (.isN a) (ma >>= fun x => pure (isNoneD x)) := fun τ y τ' e => by
  obtain ⟨x, τ1, e1, e⟩ := bindM_some e
  obtain ⟨rfl, rfl⟩ := pureM_some e
  simp only [evalE, ha _ _ _ e1, Option.map_some]; rfl
theorem E_notND {ma : M D} (ha : EM cf γ a ma) : EM cf γ (.notN a) (ma >>= fun x => pure (!isNoneD x)) := fun τ y τ' e => by
  obtain ⟨x, τ1, e1, e⟩ := bindM_some e
  obtain ⟨rfl, rfl⟩ := pureM_some e
  simp only [evalE, ha _ _ _ e1, Option.map_some]; rfl
theorem E_and {ma mb : M Bool} (ha : EM cf γ a ma) (hb : EM cf γ b mb) : EM cf γ (.and a b) (ma >>= fun x => if x = true then mb else pure false) := fun τ y τ' e => by
  obtain ⟨x, τ1, e1, e⟩ := bindM_some e
  have h := ha _ _ _ e1
  cases x with
  | true =>
    rw [if_pos rfl] at e
    simp only [evalE, h, Option.bind_some]
    exact hb _ _ _ e
  | false =>
    rw [if_neg Bool.false_ne_true] at e
    obtain ⟨rfl, rfl⟩ := pureM_some e
    simp only [evalE, h, Option.bind_some]; rfl
theorem E_or {ma mb : M Bool} (ha : EM cf γ a ma) (hb : EM cf γ b mb) : EM cf γ (.or a b) (ma >>= fun x => if x = true then pure true else mb) := fun τ y τ' e => by
  obtain ⟨x, τ1, e1, e⟩ := bindM_some e
  have h := ha _ _ _ e1
  cases x with
  | true =>
    rw [if_pos rfl] at e
    obtain ⟨rfl, rfl⟩ := pureM_some e
    simp only [evalE, h, Option.bind_some]; rfl
  | false =>
    rw [if_neg Bool.false_ne_true] at e
    simp only [evalE, h, Option.bind_some]
    exact hb _ _ _ e
/-! tests -/
theorem C_b {ma : M Bool} (ha : EM cf γ a ma) : EC cf γ a ma := fun τ x τ' e => by
  unfold tst
  rw [ha _ _ _ e]; rfl
theorem C_L {ma : M (List α)} (ha : EM cf γ a ma) : EC cf γ a (ma >>= fun x => pure (!x.isEmpty)) := fun τ y τ' e => by
  obtain ⟨x, τ1, e1, e⟩ := bindM_some e
  obtain ⟨rfl, rfl⟩ := pureM_some e
  unfold tst
  rw [ha _ _ _ e1]
  show some (!(x.map enc).isEmpty, τ1) = _
  cases x <;> rfl
theorem C_and {ma mb : M Bool} (ha : EC cf γ a ma) (hb : EC cf γ b mb) : EC cf γ (.and a b) (ma >>= fun x => if x = true then mb else pure false) := fun τ y τ' e => by
  obtain ⟨x, τ1, e1, e⟩ := bindM_some e
  have h := ha _ _ _ e1
  unfold tst at h
  obtain ⟨⟨d, τ2⟩, h1, h2⟩ := Option.bind_eq_some_iff.mp h
  obtain ⟨k, h3, h4⟩ := Option.map_eq_some_iff.mp h2
  cases h4
  cases x with
  | true =>
    rw [if_pos rfl] at e
    have := hb _ _ _ e
    simp only [tst, evalE, h1, Option.bind_some, h3, if_true]
    exact this
  | false =>
    rw [if_neg Bool.false_ne_true] at e
    obtain ⟨rfl, rfl⟩ := pureM_some e
    simp only [tst, evalE, h1, Option.bind_some, h3, Bool.false_eq_true, if_false, Option.map_some]
theorem C_or {ma mb : M Bool} (ha : EC cf γ a ma) (hb : EC cf γ b mb) : EC cf γ (.or a b) (ma >>= fun x => if x = true then pure true else mb) := fun τ y τ' e => by
  obtain ⟨x, τ1, e1, e⟩ := bindM_some e
  have h := ha _ _ _ e1
  unfold tst at h
  obtain ⟨⟨d, τ2⟩, h1, h2⟩ := Option.bind_eq_some_iff.mp h
  obtain ⟨k, h3, h4⟩ := Option.map_eq_some_iff.mp h2
  cases h4
  cases x with
  | true =>
    rw [if_pos rfl] at e
    obtain ⟨rfl, rfl⟩ := pureM_some e
    simp only [tst, evalE, h1, Option.bind_some, h3, if_true, Option.map_some]
  | false =>
    rw [if_neg Bool.false_ne_true] at e
    have := hb _ _ _ e
    simp only [tst, evalE, h1, Option.bind_some, h3, Bool.false_eq_true, if_false]
    exact this
theorem E_not {ma : M Bool} (ha : EC cf γ a ma) : EM cf γ (.not a) (ma >>= fun x => pure (!x)) := fun τ y τ' e => by
  obtain ⟨x, τ1, e1, e⟩ := bindM_some e
  obtain ⟨rfl, rfl⟩ := pureM_some e
  simp only [evalE, ha _ _ _ e1, Option.map_some]; rfl
theorem E_ite {ma : M Bool} {m1 m2 : M ρ} (ha : EC cf γ a ma) (hb : EM cf γ b m1) (hc : EM cf γ c m2) : EM cf γ (.ite a b c) (ma >>= fun x => if x = true then m1 else m2) := fun τ y τ' e => by
  obtain ⟨x, τ1, e1, e⟩ := bindM_some e
  have h := ha _ _ _ e1
  cases x with
  | true =>
    rw [if_pos rfl] at e
    simp only [evalE, h, Option.bind_some, if_true]
    exact hb _ _ _ e
  | false =>
    rw [if_neg Bool.false_ne_true] at e
    simp only [evalE, h, Option.bind_some, Bool.false_eq_true, if_false]
    exact hc _ _ _ e
theorem E_ix {r : α → β → M ρ} (h : Op2 opIx r) (ha : EM cf γ a ma) (hb : EM cf γ b mb) : EM cf γ (.ix a b) (ma >>= fun x => mb >>= fun y => r x y) := fun τ y τ' e => by
  obtain ⟨x, τ1, e1, e⟩ := bindM_some e
  obtain ⟨z, τ2, e2, e⟩ := bindM_some e
  obtain ⟨h1, rfl⟩ := h _ _ _ _ _ e
  simp only [evalE, ha _ _ _ e1, hb _ _ _ e2, Option.bind_some, h1, Option.map_some]
/-- a part of a tuple of known length -/
theorem E_ixc {d : D} {f : α → ρ} (h : ∀ x, opIx (enc x) d = some (enc (f x))) (ha : EM cf γ a ma) : EM cf γ (.ix a (.c d)) (ma >>= fun x => pure (f x)) := fun τ y τ' e => by
  obtain ⟨x, τ1, e1, e⟩ := bindM_some e
  obtain ⟨rfl, rfl⟩ := pureM_some e
  simp only [evalE, ha _ _ _ e1, Option.bind_some, h, Option.map_some]
theorem E_ixo {d : D} {f : α → Option ρ} (h : ∀ x y, f x = some y → opIx (enc x) d = some (enc y)) (ha : EM cf γ a ma) : EM cf γ (.ix a (.c d)) (ma >>= fun x => ofO (f x)) := fun τ y τ' e => by
  obtain ⟨x, τ1, e1, e⟩ := bindM_some e
  obtain ⟨h1, rfl⟩ := ofO_some e
  simp only [evalE, ha _ _ _ e1, Option.bind_some, h _ _ h1, Option.map_some]
theorem E_slF {r : α → Nat → M ρ} {mb : M Nat} (h : Op2 (fun x y => (intOf y).bind fun i => opSl x (some i) none) r) (ha : EM cf γ a ma) (hb : EM cf γ b mb) : EM cf γ (.slF a b) (ma >>= fun x => mb >>= fun y => r x y) := fun τ y τ' e => by
  obtain ⟨x, τ1, e1, e⟩ := bindM_some e
  obtain ⟨z, τ2, e2, e⟩ := bindM_some e
  obtain ⟨h1, rfl⟩ := h _ _ _ _ _ e
  have h2 : opSl (enc x) (some (z : Int)) none = some (enc y) := h1
  simp only [evalE, ha _ _ _ e1, hb _ _ _ e2, Option.bind_some]
  show ((opSl (enc x) (some (z : Int)) none).map _ : R) = _
  rw [h2]; rfl
theorem E_slT {r : α → Nat → M ρ} {mb : M Nat} (h : Op2 (fun x y => (intOf y).bind fun i => opSl x none (some i)) r) (ha : EM cf γ a ma) (hb : EM cf γ b mb) : EM cf γ (.slT a b) (ma >>= fun x => mb >>= fun y => r x y) := fun τ y τ' e => by
  obtain ⟨x, τ1, e1, e⟩ := bindM_some e
  obtain ⟨z, τ2, e2, e⟩ := bindM_some e
  obtain ⟨h1, rfl⟩ := h _ _ _ _ _ e
  have h2 : opSl (enc x) none (some (z : Int)) = some (enc y) := h1
  simp only [evalE, ha _ _ _ e1, hb _ _ _ e2, Option.bind_some]
  show ((opSl (enc x) none (some (z : Int))).map _ : R) = _
  rw [h2]; rfl
theorem E_slB {r : α → Nat → Nat → M ρ} {mb mc : M Nat} (h : Op3 (fun x y z => (intOf y).bind fun i => (intOf z).bind fun j => opSl x (some i) (some j)) r) (ha : EM cf γ a ma) (hb : EM cf γ b mb) (hc : EM cf γ c mc) : EM cf γ (.slB a b c) (ma >>= fun x => mb >>= fun y => mc >>= fun z => r x y z) := fun τ y τ' e => by
  obtain ⟨x, τ1, e1, e⟩ := bindM_some e
  obtain ⟨z, τ2, e2, e⟩ := bindM_some e
  obtain ⟨w, τ3, e3, e⟩ := bindM_some e
  obtain ⟨h1, rfl⟩ := h _ _ _ _ _ _ e
  have h2 : opSl (enc x) (some (z : Int)) (some (w : Int)) = some (enc y) := h1
  simp only [evalE, ha _ _ _ e1, hb _ _ _ e2, hc _ _ _ e3, Option.bind_some]
  show ((opSl (enc x) (some (z : Int)) (some (w : Int))).map _ : R) = _
  rw [h2]; rfl
theorem E_rev {ma : M (List α)} (ha : EM cf γ a ma) : EM cf γ (.rev a) (ma >>= fun x => pure x.reverse) := fun τ y τ' e => by
  obtain ⟨x, τ1, e1, e⟩ := bindM_some e
  obtain ⟨rfl, rfl⟩ := pureM_some e
  simp only [evalE, ha _ _ _ e1, Option.bind_some]
  show some (PyData.list (x.map enc).reverse, τ1) = _
  rw [← List.map_reverse]; rfl
theorem E_b1 {f : B1} {r : α → M ρ} (h : Op1 (opB1 f) r) (ha : EM cf γ a ma) : EM cf γ (.b1 f a) (ma >>= fun x => r x) := fun τ y τ' e => by
  obtain ⟨x, τ1, e1, e⟩ := bindM_some e
  obtain ⟨h1, rfl⟩ := h _ _ _ _ e
  simp only [evalE, ha _ _ _ e1, Option.bind_some, h1, Option.map_some]
theorem E_b2 {f : B2} {r : α → β → M ρ} (h : Op2 (opB2 f) r) (ha : EM cf γ a ma) (hb : EM cf γ b mb) : EM cf γ (.b2 f a b) (ma >>= fun x => mb >>= fun y => r x y) := fun τ y τ' e => by
  obtain ⟨x, τ1, e1, e⟩ := bindM_some e
  obtain ⟨z, τ2, e2, e⟩ := bindM_some e
  obtain ⟨h1, rfl⟩ := h _ _ _ _ _ e
  simp only [evalE, ha _ _ _ e1, hb _ _ _ e2, Option.bind_some, h1, Option.map_some]
theorem E_index {r : α → β → M ρ} (h : Op2 (fun x y => mIndex x [y]) r) (ha : EM cf γ a ma) (hb : EM cf γ b mb) : EM cf γ (.mth .index a [b]) (ma >>= fun x => mb >>= fun y => r x y) := fun τ y τ' e => by
  obtain ⟨x, τ1, e1, e⟩ := bindM_some e
  obtain ⟨z, τ2, e2, e⟩ := bindM_some e
  obtain ⟨h1, rfl⟩ := h _ _ _ _ _ e
  simp only [evalE, evalEs, ha _ _ _ e1, hb _ _ _ e2, Option.bind_some, Option.map_some, opMth, h1]
/-! many -/
theorem A_nil : EAs cf γ [] (pure []) := fun τ y τ' e => by
  obtain ⟨rfl, rfl⟩ := pureM_some e
  simp only [evalEs]
theorem A_cons {es : List IE} {ms : M (List D)} (ha : EM cf γ a ma) (hs : EAs cf γ es ms) : EAs cf γ (a :: es) (ma >>= fun x => ms >>= fun l => pure (enc x :: l)) := fun τ y τ' e => by
  obtain ⟨x, τ1, e1, e⟩ := bindM_some e
  obtain ⟨l, τ2, e2, e⟩ := bindM_some e
  obtain ⟨rfl, rfl⟩ := pureM_some e
  simp only [evalEs, ha _ _ _ e1, hs _ _ _ e2, Option.bind_some, Option.map_some]
theorem E_tupD {es : List IE} {ms : M (List D)} (hs : EAs cf γ es ms) : EM cf γ (.tup es) (ms >>= fun l => pure (PyData.tuple l)) := fun τ y τ' e => by
  obtain ⟨l, τ2, e2, e⟩ := bindM_some e
  obtain ⟨rfl, rfl⟩ := pureM_some e
  simp only [evalE, hs _ _ _ e2, Option.map_some]; rfl
theorem E_lstD {es : List IE} {ms : M (List D)} (hs : EAs cf γ es ms) : EM cf γ (.lst es) (ms >>= fun l => pure (PyData.list l)) := fun τ y τ' e => by
  obtain ⟨l, τ2, e2, e⟩ := bindM_some e
  obtain ⟨rfl, rfl⟩ := pureM_some e
  simp only [evalE, hs _ _ _ e2, Option.map_some]; rfl
/-- items of one kind -/
def EAl (cf : CF) (γ : En) (es : List IE) (m : M (List α)) : Prop := ∀ τ x τ', m τ = some (x, τ') → evalEs cf es γ τ = some (x.map enc, τ')
theorem Al_nil : EAl cf γ [] (pure ([] : List α)) := fun τ y τ' e => by
  obtain ⟨rfl, rfl⟩ := pureM_some e
  simp only [evalEs]; rfl
theorem Al_cons {es : List IE} {ms : M (List α)} (ha : EM cf γ a ma) (hs : EAl cf γ es ms) : EAl cf γ (a :: es) (ma >>= fun x => ms >>= fun l => pure (x :: l)) := fun τ y τ' e => by
  obtain ⟨x, τ1, e1, e⟩ := bindM_some e
  obtain ⟨l, τ2, e2, e⟩ := bindM_some e
  obtain ⟨rfl, rfl⟩ := pureM_some e
  simp only [evalEs, ha _ _ _ e1, hs _ _ _ e2, Option.bind_some, Option.map_some]; rfl
theorem E_lst {es : List IE} {ms : M (List α)} (hs : EAl cf γ es ms) : EM cf γ (.lst es) ms := fun τ y τ' e => by
  simp only [evalE, hs _ _ _ e, Option.map_some]; rfl
theorem E_tu {es : List IE} {ms : M (List α)} (hs : EAl cf γ es ms) : EM cf γ (.tup es) (ms >>= fun l => pure (Tu.mk l)) := fun τ y τ' e => by
  obtain ⟨l, τ2, e2, e⟩ := bindM_some e
  obtain ⟨rfl, rfl⟩ := pureM_some e
  simp only [evalE, hs _ _ _ e2, Option.map_some]; rfl
theorem E_p2 (ha : EM cf γ a ma) (hb : EM cf γ b mb) : EM cf γ (.tup [a, b]) (ma >>= fun x => mb >>= fun y => pure (x, y)) := fun τ y τ' e => by
  obtain ⟨x, τ1, e1, e⟩ := bindM_some e
  obtain ⟨z, τ2, e2, e⟩ := bindM_some e
  obtain ⟨rfl, rfl⟩ := pureM_some e
  simp only [evalE, evalEs, ha _ _ _ e1, hb _ _ _ e2, Option.bind_some, Option.map_some]; rfl
theorem E_p3 (ha : EM cf γ a ma) (hb : EM cf γ b mb) (hc : EM cf γ c mc) : EM cf γ (.tup [a, b, c]) (ma >>= fun x => mb >>= fun y => mc >>= fun z => pure (P3.mk x y z)) := fun τ y τ' e => by
  obtain ⟨x, τ1, e1, e⟩ := bindM_some e
  obtain ⟨z, τ2, e2, e⟩ := bindM_some e
  obtain ⟨w, τ3, e3, e⟩ := bindM_some e
  obtain ⟨rfl, rfl⟩ := pureM_some e
  simp only [evalE, evalEs, ha _ _ _ e1, hb _ _ _ e2, hc _ _ _ e3, Option.bind_some, Option.map_some]; rfl
theorem E_p4 {d : IE} {md : M ρ} (ha : EM cf γ a ma) (hb : EM cf γ b mb) (hc : EM cf γ c mc) (hd : EM cf γ d md) : EM cf γ (.tup [a, b, c, d]) (ma >>= fun x => mb >>= fun y => mc >>= fun z => md >>= fun w => pure (P4.mk x y z w)) := fun τ y τ' e => by
  obtain ⟨x, τ1, e1, e⟩ := bindM_some e
  obtain ⟨z, τ2, e2, e⟩ := bindM_some e
  obtain ⟨w, τ3, e3, e⟩ := bindM_some e
  obtain ⟨v, τ4, e4, e⟩ := bindM_some e
  obtain ⟨rfl, rfl⟩ := pureM_some e
  simp only [evalE, evalEs, ha _ _ _ e1, hb _ _ _ e2, hc _ _ _ e3, hd _ _ _ e4, Option.bind_some, Option.map_some]; rfl
end
/-! ### walks -/
def grdL {α : Type} (l : List α) : M (List α) := grd (l.length ≤ 1000000) l
section
variable {cf : CF} {γ : En} {α β δ ρ : Type} [Enc α] [Enc β] [Enc δ] [Enc ρ] {a b c : IE}
theorem W_L {ma : M (List α)} (ha : EM cf γ a ma) : ES cf γ .seq [a] ma := fun τ xs τ' e => ⟨_, by simp only [evalEs, ha _ _ _ e, Option.bind_some, Option.map_some]; rfl, rfl, rfl⟩
theorem W_T {ma : M (Tu α)} (ha : EM cf γ a ma) : ES cf γ .seq [a] (ma >>= fun t => pure t.l) := fun τ xs τ' e => by
  obtain ⟨x, τ1, e1, e⟩ := bindM_some e
  obtain ⟨rfl, rfl⟩ := pureM_some e
  exact ⟨_, by simp only [evalEs, ha _ _ _ e1, Option.bind_some, Option.map_some]; rfl, rfl, rfl⟩
theorem W_D {ma : M D} (ha : EM cf γ a ma) : ES cf γ .seq [a] (ma >>= fun d => ofO (seqOf d)) := fun τ xs τ' e => by
  obtain ⟨x, τ1, e1, e⟩ := bindM_some e
  obtain ⟨h, rfl⟩ := ofO_some e
  refine ⟨_, by simp only [evalEs, ha _ _ _ e1, Option.bind_some, Option.map_some]; rfl, ?_, rfl⟩
  show seqOf x = some (xs.map enc)
  rw [h]
  congr 1
  exact (List.map_id' xs).symm
def rangeM (n : Nat) : M (List Nat) := grd (n ≤ 1000000) (List.range n)
theorem rangeM_ok {n : Nat} (h : n ≤ 1000000) : rangeM n = pure (List.range n) := grd_ok h _
theorem W_r1 {ma : M Nat} (ha : EM cf γ a ma) : ES cf γ .r1 [a] (ma >>= fun n => rangeM n) := fun τ xs τ' e => by
  obtain ⟨x, τ1, e1, e⟩ := bindM_some e
  obtain ⟨h, rfl, rfl⟩ := grd_some e
  exact ⟨_, by simp only [evalEs, ha _ _ _ e1, Option.bind_some, Option.map_some]; rfl, range_n x h, lenOk_n x h⟩
def range2M (a b : Nat) : M (List Nat) := grd (b ≤ 1000000 ∧ a ≤ 1000000) (List.range' a (b - a))
theorem W_r2 {ma mb : M Nat} (ha : EM cf γ a ma) (hb : EM cf γ b mb) : ES cf γ .r2 [a, b] (ma >>= fun x => mb >>= fun y => range2M x y) := fun τ xs τ' e => by
  obtain ⟨x, τ1, e1, e⟩ := bindM_some e
  obtain ⟨y, τ2, e2, e⟩ := bindM_some e
  obtain ⟨⟨h1, h2⟩, rfl, rfl⟩ := grd_some e
  have sz : sizeLine = 16777216 := rfl
  refine ⟨[nI x, nI y], by simp only [evalEs, ha _ _ _ e1, hb _ _ _ e2, Option.bind_some, Option.map_some]; rfl, ?_, ?_⟩
  · show itR2 [PyData.int x, PyData.int y] = _
    simp only [itR2]
    rw [if_pos ⟨by omega, by omega⟩]
    congr 1
    unfold rangeD
    rw [List.range'_eq_map_range, List.map_map, show ((y : Int) - (x : Int)).toNat = y - x by omega]
    apply List.map_congr_left
    intro i _
    show PyData.int (x + i) = PyData.int ((x + i : Nat) : Int)
    push_cast
    rfl
  · show decide (_ ≤ sizeLine) = true
    rw [List.length_map, List.length_range', sz]
    exact decide_eq_true (by omega)
def enumL (l : List α) : List (Nat × α) := l.zipIdx.map fun p => (p.2, p.1)
theorem W_en {ma : M (List α)} (ha : EM cf γ a ma) : ES cf γ .enum [a] (ma >>= fun x => pure (enumL x)) := fun τ xs τ' e => by
  obtain ⟨x, τ1, e1, e⟩ := bindM_some e
  obtain ⟨rfl, rfl⟩ := pureM_some e
  refine ⟨_, by simp only [evalEs, ha _ _ _ e1, Option.bind_some, Option.map_some]; rfl, ?_, rfl⟩
  show some ((x.map enc).zipIdx.map fun p => PyData.tuple [.int (p.2 : Nat), p.1]) = _
  congr 1
  unfold enumL
  rw [List.zipIdx_map, List.map_map, List.map_map]
  apply List.map_congr_left
  intro p _
  rfl
def enumD (d : D) : Option (List (Nat × D)) := (listOf d).map enumL
theorem W_enD {ma : M D} (ha : EM cf γ a ma) : ES cf γ .enum [a] (ma >>= fun x => ofO (enumD x)) := fun τ xs τ' e => by
  obtain ⟨x, τ1, e1, e⟩ := bindM_some e
  obtain ⟨h, rfl⟩ := ofO_some e
  unfold enumD listOf at h
  split at h
  · rename_i l
    cases h
    refine ⟨_, by simp only [evalEs, ha _ _ _ e1, Option.bind_some, Option.map_some]; rfl, ?_, rfl⟩
    show some (l.zipIdx.map fun p => PyData.tuple [.int (p.2 : Nat), p.1]) = _
    congr 1
    unfold enumL
    rw [List.map_map]
    apply List.map_congr_left
    intro p _
    rfl
  · cases h
theorem zip_enc (l : List α) (m : List β) : ((l.map enc).zip (m.map enc)).map (fun p => PyData.tuple [p.1, p.2]) = (l.zip m).map enc := by
  rw [List.zip_map, List.map_map]
  rfl
theorem W_zL {ma : M (List α)} {mb : M (List β)} (ha : EM cf γ a ma) (hb : EM cf γ b mb) : ES cf γ .zip [a, b] (ma >>= fun x => mb >>= fun y => pure (x.zip y)) := fun τ xs τ' e => by
  obtain ⟨x, τ1, e1, e⟩ := bindM_some e
  obtain ⟨y, τ2, e2, e⟩ := bindM_some e
  obtain ⟨rfl, rfl⟩ := pureM_some e
  refine ⟨_, by simp only [evalEs, ha _ _ _ e1, hb _ _ _ e2, Option.bind_some, Option.map_some]; rfl, ?_, rfl⟩
  exact congrArg some (zip_enc x y)
theorem W_zT {ma : M (Tu α)} {mb : M (Tu β)} (ha : EM cf γ a ma) (hb : EM cf γ b mb) : ES cf γ .zip [a, b] (ma >>= fun x => mb >>= fun y => pure (x.l.zip y.l)) := fun τ xs τ' e => by
  obtain ⟨x, τ1, e1, e⟩ := bindM_some e
  obtain ⟨y, τ2, e2, e⟩ := bindM_some e
  obtain ⟨rfl, rfl⟩ := pureM_some e
  refine ⟨_, by simp only [evalEs, ha _ _ _ e1, hb _ _ _ e2, Option.bind_some, Option.map_some]; rfl, ?_, rfl⟩
  exact congrArg some (zip_enc x.l y.l)
/-! ### comprehensions -/
def mapL {α β : Type} (f : α → M β) : List α → M (List β)
  | [] => pure []
  | x :: xs => f x >>= fun y => mapL f xs >>= fun ys => pure (y :: ys)
def filL {α β : Type} (c : α → M Bool) (f : α → M β) : List α → M (List β)
  | [] => pure []
  | x :: xs => c x >>= fun q => if q = true then f x >>= fun y => filL c f xs >>= fun ys => pure (y :: ys) else filL c f xs
def flaL {α β : Type} (f : α → M (List β)) : List α → M (List β)
  | [] => pure []
  | x :: xs => f x >>= fun y => flaL f xs >>= fun ys => pure (y ++ ys)
theorem compL_mapL {f : α → M β} {F : D → Tape → Option (Option D × Tape)} (h : ∀ x τ y τ', f x τ = some (y, τ') → F (enc x) τ = some (some (enc y), τ')) : ∀ (xs : List α) τ ys τ', mapL f xs τ = some (ys, τ') → compL F (xs.map enc) τ = some (ys.map enc, τ')
  | [], τ, ys, τ', e => by obtain ⟨rfl, rfl⟩ := pureM_some e; rfl
  | x :: xs, τ, ys, τ', e => by
    obtain ⟨y, τ1, e1, e⟩ := bindM_some e
    obtain ⟨zs, τ2, e2, e⟩ := bindM_some e
    obtain ⟨rfl, rfl⟩ := pureM_some e
    simp only [List.map_cons, compL, h _ _ _ _ e1, Option.bind_some, compL_mapL h xs _ _ _ e2, Option.map_some]
    rfl
theorem compL_filL {c : α → M Bool} {f : α → M β} {F : D → Tape → Option (Option D × Tape)} (h : ∀ x τ q τ1, c x τ = some (q, τ1) → if q = true then ∀ y τ', f x τ1 = some (y, τ') → F (enc x) τ = some (some (enc y), τ') else F (enc x) τ = some (none, τ1)) : ∀ (xs : List α) τ ys τ', filL c f xs τ = some (ys, τ') → compL F (xs.map enc) τ = some (ys.map enc, τ')
  | [], τ, ys, τ', e => by obtain ⟨rfl, rfl⟩ := pureM_some e; rfl
  | x :: xs, τ, ys, τ', e => by
    obtain ⟨q, τ1, e1, e⟩ := bindM_some e
    have hx := h _ _ _ _ e1
    cases q with
    | true =>
      rw [if_pos rfl] at e hx
      obtain ⟨y, τ2, e2, e⟩ := bindM_some e
      obtain ⟨zs, τ3, e3, e⟩ := bindM_some e
      obtain ⟨rfl, rfl⟩ := pureM_some e
      simp only [List.map_cons, compL, hx _ _ e2, Option.bind_some, compL_filL h xs _ _ _ e3, Option.map_some]
      rfl
    | false =>
      rw [if_neg Bool.false_ne_true] at e hx
      simp only [List.map_cons, compL, hx, Option.bind_some, compL_filL h xs _ _ _ e, Option.map_some]
      rfl
theorem E_map {own : List Nat} {tg : Tg} {k : IK} {args : List IE} {elt : IE} {ms : M (List α)} {g : α → En} {f : α → M β} (hs : ES cf γ k args ms) (hg : ∀ x, bindT tg (enc x) γ = some (g x)) (hf : ∀ x, EM cf (g x) elt (f x)) :
    EM cf γ (.comp own tg k args .yes elt) (ms >>= fun xs => mapL f xs) := fun τ y τ' e => by
  obtain ⟨xs, τ1, e1, e⟩ := bindM_some e
  obtain ⟨ds, h1, h2, h3⟩ := hs _ _ _ e1
  simp only [evalE, h1, Option.bind_some, h2, h3, if_true]
  rw [compL_mapL (f := f) (fun x τ y τ' e => ?_) xs _ _ _ e]
  · rfl
  · simp only [hg, Option.bind_some, tst, truth, Option.map_some, if_true, hf x _ _ _ e]
theorem E_fil {own : List Nat} {tg : Tg} {k : IK} {args : List IE} {cond elt : IE} {ms : M (List α)} {g : α → En} {q : α → M Bool} {f : α → M β} (hs : ES cf γ k args ms) (hg : ∀ x, bindT tg (enc x) γ = some (g x)) (hq : ∀ x, EC cf (g x) cond (q x)) (hf : ∀ x, EM cf (g x) elt (f x)) :
    EM cf γ (.comp own tg k args cond elt) (ms >>= fun xs => filL q f xs) := fun τ y τ' e => by
  obtain ⟨xs, τ1, e1, e⟩ := bindM_some e
  obtain ⟨ds, h1, h2, h3⟩ := hs _ _ _ e1
  simp only [evalE, h1, Option.bind_some, h2, h3, if_true]
  rw [compL_filL (c := q) (f := f) (fun x τ b τ1 e => ?_) xs _ _ _ e]
  · rfl
  · simp only [hg, Option.bind_some, hq x _ _ _ e]
    cases b with
    | true =>
      rw [if_pos rfl]
      intro y τ' e2
      simp only [if_true, hf x _ _ _ e2, Option.map_some]
    | false => simp only [Bool.false_eq_true, if_false]
theorem compLs_flaL {f : α → M (List β)} {F : D → Tape → Option (List D × Tape)} (h : ∀ x τ y τ', f x τ = some (y, τ') → F (enc x) τ = some (y.map enc, τ')) : ∀ (xs : List α) τ ys τ', flaL f xs τ = some (ys, τ') → compLs F (xs.map enc) τ = some (ys.map enc, τ')
  | [], τ, ys, τ', e => by obtain ⟨rfl, rfl⟩ := pureM_some e; rfl
  | x :: xs, τ, ys, τ', e => by
    obtain ⟨y, τ1, e1, e⟩ := bindM_some e
    obtain ⟨zs, τ2, e2, e⟩ := bindM_some e
    obtain ⟨rfl, rfl⟩ := pureM_some e
    simp only [List.map_cons, compLs, h _ _ _ _ e1, Option.bind_some, compLs_flaL h xs _ _ _ e2, Option.map_some, List.map_append]
theorem tst_bt (b : Bool) (t : Tape) : tst (some (.bool b, t)) = some (b, t) := rfl
/-- [elt for x in a for y in b], tests `yes` or not -/
theorem E_c2 {own : List Nat} {tg tg2 : Tg} {k k2 : IK} {args args2 : List IE} {cond2 elt : IE} {ms : M (List α)} {g : α → En} {ms2 : α → M (List δ)} {g2 : α → δ → En} {q2 : α → δ → M Bool} {f : α → δ → M β} (hs : ES cf γ k args ms) (hg : ∀ x, bindT tg (enc x) γ = some (g x))
    (hs2 : ∀ x, ES cf (g x) k2 args2 (ms2 x)) (hg2 : ∀ x y, bindT tg2 (enc y) (g x) = some (g2 x y)) (hq2 : ∀ x y, EC cf (g2 x y) cond2 (q2 x y)) (hf : ∀ x y, EM cf (g2 x y) elt (f x y)) :
    EM cf γ (.comp2 own tg k args .yes tg2 k2 args2 cond2 elt) (ms >>= fun xs => flaL (fun x => ms2 x >>= fun ys => filL (q2 x) (f x) ys) xs >>= fun zs => grdL zs) := fun τ y τ' e => by
  obtain ⟨xs, τ1, e1, e⟩ := bindM_some e
  obtain ⟨zs, τ2, e2, e⟩ := bindM_some e
  obtain ⟨hl, rfl, rfl⟩ := grd_some e
  obtain ⟨ds, h1, h2, h3⟩ := hs _ _ _ e1
  simp only [evalE, h1, Option.bind_some, h2]
  rw [compLs_flaL (f := fun x => ms2 x >>= fun ys => filL (q2 x) (f x) ys) (fun x τ y τ' e => ?_) xs _ _ _ e2]
  · simp only [Option.bind_some, List.length_map]
    rw [if_pos (Nat.le_trans hl (by decide))]
    rfl
  · obtain ⟨ys, τ3, e3, e4⟩ := bindM_some e
    obtain ⟨es, h4, h5, h6⟩ := hs2 x _ _ _ e3
    simp only [hg, Option.bind_some, tst_bt, if_true, h4, h5]
    refine compL_filL (c := q2 x) (f := f x) (fun z τ b τ1 e => ?_) ys _ _ _ e4
    have hh := hq2 x z _ _ _ e
    simp only [hg2, Option.bind_some, hh]
    cases b with
    | true =>
      rw [if_pos rfl]
      intro y τ' e2
      show (evalE cf elt (g2 x z) τ1).map _ = _
      rw [hf x z _ _ _ e2]; rfl
    | false => rfl
end
end Ev
set_option Elab.async false
set_option linter.all false
set_option maxRecDepth 100000
set_option autoImplicit false
/-! Ev42: operators; statements; calls. -/
namespace Ev
open PySem
open Enc (enc)
open Dec (dec)
/-! ### operators -/
def subN (x y : Nat) : M Nat := grd (y ≤ x) (x - y)
def mulN (x y : Nat) : M Nat := grd (y ≤ 1000000000 ∨ x ≤ 1000000000) (x * y)
def mulZ (x y : Int) : M Int := grd (y.natAbs ≤ 1000000000 ∨ x.natAbs ≤ 1000000000) (x * y)
def modN (x y : Nat) : M Nat := grd (0 < y) (x % y)
def divN (x y : Nat) : M Nat := grd (0 < y ∧ y ≤ 1000000000) (x / y)
def modZ (x y : Int) : M Int := grd (0 < y) (x % y)
def divZ (x y : Int) : M Int := grd (0 < y ∧ y.natAbs ≤ 1000000000) (x / y)
def powN (x y : Nat) : M Nat := grd (y ≤ 1000 ∧ x ≤ 1000000000) (x ^ y)
def powZ (x : Int) (y : Nat) : M Int := grd (y ≤ 1000 ∧ x.natAbs ≤ 1000000000) (x ^ y)
theorem subN_ok {x y : Nat} (h : y ≤ x) : subN x y = pure (x - y) := grd_ok h _
theorem mulN_ok {x y : Nat} (h : y ≤ 1000000000) : mulN x y = pure (x * y) := grd_ok (.inl h) _
theorem mulN_ok' {x y : Nat} (h : x ≤ 1000000000) : mulN x y = pure (x * y) := grd_ok (.inr h) _
theorem modN_ok {x y : Nat} (h : 0 < y) : modN x y = pure (x % y) := grd_ok h _
theorem divN_ok {x y : Nat} (h : 0 < y) (h2 : y ≤ 1000000000) : divN x y = pure (x / y) := grd_ok ⟨h, h2⟩ _
def appL {α : Type} (x y : List α) : M (List α) := grd (x.length + y.length ≤ 1000000) (x ++ y)
theorem appL_ok {α : Type} {x y : List α} (h : x.length + y.length ≤ 1000000) : appL x y = pure (x ++ y) := grd_ok h _
def appT {α : Type} (x y : Tu α) : M (Tu α) := grd (x.l.length + y.l.length ≤ 1000000) ⟨x.l ++ y.l⟩
theorem appT_ok {α : Type} {x y : Tu α} (h : x.l.length + y.l.length ≤ 1000000) : appT x y = pure ⟨x.l ++ y.l⟩ := grd_ok h _
def repT {α : Type} (x : Tu α) (n : Nat) : M (Tu α) := grd (x.l.length ≤ 1000 ∧ n ≤ 1000) ⟨(List.replicate n x.l).flatten⟩
def pushL {α : Type} (x : List α) (y : α) : M (List α) := grd (x.length < 1000000) (x ++ [y])
theorem pushL_ok {α : Type} {x : List α} {y : α} (h : x.length < 1000000) : pushL x y = pure (x ++ [y]) := grd_ok h _
def setL {α : Type} (x : List α) (i : Nat) (y : α) : M (List α) := grd (i < x.length) (x.set i y)
theorem setL_ok {α : Type} {x : List α} {i : Nat} {y : α} (h : i < x.length) : setL x i y = pure (x.set i y) := grd_ok h _
def atL {α : Type} (x : List α) (i : Nat) : M α := ofO x[i]?
theorem atL_ok {α : Type} {x : List α} {i : Nat} {y : α} (h : x[i]? = some y) : atL x i = pure y := by unfold atL; rw [h]; rfl
theorem atL_get {α : Type} {x : List α} {i : Nat} (h : i < x.length) : atL x i = pure x[i] := atL_ok (List.getElem?_eq_getElem h)
theorem atL_getD {α : Type} {x : List α} {i : Nat} (d : α) (h : i < x.length) : atL x i = pure (x.getD i d) := atL_ok (by rw [List.getD_eq_getElem?_getD, List.getElem?_eq_getElem h]; rfl)
def maxN : List Nat → Option Nat
  | [] => none
  | x :: r => some (r.foldl max x)
def minN : List Nat → Option Nat
  | [] => none
  | x :: r => some (r.foldl min x)
def posOf {α : Type} [DecidableEq α] (x : α) : List α → Option Nat
  | [] => none
  | z :: r => if z = x then some 0 else (posOf x r).map (· + 1)
theorem sz : sizeLine = 16777216 := rfl
abbrev OB (o : BOp) {α β ρ : Type} [Enc α] [Enc β] [Enc ρ] (r : α → β → M ρ) := Op2 (opBin o) r
abbrev OC (o : COp) {α β : Type} [Enc α] [Enc β] (r : α → β → M Bool) := Op2 (fun x y => (opCmp o x y).map PyData.bool) r
theorem o_addN : OB .add (fun (x y : Nat) => pure (x + y)) := Op2.p add_n
theorem o_addZ : OB .add (fun (x y : Int) => pure (x + y)) := Op2.p fun _ _ => rfl
theorem o_subN : OB .sub (fun (x y : Nat) => subN x y) := Op2.g fun x y h => by
  show some (PyData.int ((x : Int) - (y : Int))) = some (PyData.int ((x - y : Nat) : Int))
  rw [Int.ofNat_sub h]
theorem o_subZ : OB .sub (fun (x y : Int) => pure (x - y)) := Op2.p fun _ _ => rfl
theorem o_mulN : OB .mul (fun (x y : Nat) => mulN x y) := Op2.g fun x y h => by
  show opMulI x y = some (PyData.int ((x * y : Nat) : Int))
  unfold opMulI
  rw [if_pos (by omega)]
  push_cast
  rfl
theorem o_mulZ : OB .mul (fun (x y : Int) => mulZ x y) := Op2.g fun x y h => by
  show opMulI x y = some (PyData.int (x * y))
  unfold opMulI
  rw [if_pos (by omega)]
theorem o_modN : OB .mod (fun (x y : Nat) => modN x y) := Op2.g fun x y h => by
  show (if (0 : Int) < (y : Int) then some (PyData.int ((x : Int) % (y : Int))) else none) = some (PyData.int ((x % y : Nat) : Int))
  rw [if_pos (by omega)]; rfl
theorem o_divN : OB .fdiv (fun (x y : Nat) => divN x y) := Op2.g fun x y h => by
  show (if (0 : Int) < (y : Int) ∧ (y : Int).natAbs < 1073741824 then some (PyData.int ((x : Int) / (y : Int))) else none) = some (PyData.int ((x / y : Nat) : Int))
  rw [if_pos ⟨by omega, by omega⟩]; rfl
theorem o_modZ : OB .mod (fun (x y : Int) => modZ x y) := Op2.g fun x y h => if_pos h
theorem o_divZ : OB .fdiv (fun (x y : Int) => divZ x y) := Op2.g fun x y h => if_pos ⟨h.1, by omega⟩
theorem o_powN : OB .pow (fun (x y : Nat) => powN x y) := Op2.g fun x y h => by
  show (if (0 : Int) ≤ (y : Int) ∧ (y : Int).natAbs ≤ 1000000 ∧ (x : Int).natAbs < 2 ^ 64 then some (PyData.int ((x : Int) ^ (y : Int).toNat)) else none) = some (PyData.int ((x ^ y : Nat) : Int))
  rw [if_pos ⟨by omega, by omega, by omega⟩]
  simp
theorem o_powZ : OB .pow (fun (x : Int) (y : Nat) => powZ x y) := Op2.g fun x y h => by
  show (if (0 : Int) ≤ (y : Int) ∧ (y : Int).natAbs ≤ 1000000 ∧ x.natAbs < 2 ^ 64 then some (PyData.int (x ^ (y : Int).toNat)) else none) = some (PyData.int (x ^ y))
  rw [if_pos ⟨by omega, by omega, by omega⟩]
  simp
section
variable {α β : Type} [Enc α] [Enc β]
theorem o_appL : OB .add (fun (x y : List α) => appL x y) := Op2.g fun x y h => by
  show (if (x.map enc).length + (y.map enc).length ≤ sizeLine then some (PyData.list (x.map enc ++ y.map enc)) else none) = some (PyData.list ((x ++ y).map enc))
  rw [if_pos (by rw [List.length_map, List.length_map, sz]; omega), List.map_append]
theorem o_appT : OB .add (fun (x y : Tu α) => appT x y) := Op2.g fun x y h => by
  show (if (x.l.map enc).length + (y.l.map enc).length ≤ sizeLine then some (PyData.tuple (x.l.map enc ++ y.l.map enc)) else none) = some (PyData.tuple ((x.l ++ y.l).map enc))
  rw [if_pos (by rw [List.length_map, List.length_map, sz]; omega), List.map_append]
theorem flat_len {α : Type} (x : List α) : ∀ n, (List.replicate n x).flatten.length = n * x.length
  | 0 => by simp
  | n + 1 => by rw [List.replicate_succ, List.flatten_cons, List.length_append, flat_len x n, Nat.add_mul]; omega
theorem flat_map {α β : Type} (f : α → β) (x : List α) : ∀ n, (List.replicate n (x.map f)).flatten = (List.replicate n x).flatten.map f
  | 0 => rfl
  | n + 1 => by rw [List.replicate_succ, List.flatten_cons, List.replicate_succ, List.flatten_cons, List.map_append, flat_map f x n]
theorem o_repT : OB .mul (fun (x : Tu α) (n : Nat) => repT x n) := Op2.g fun x n h => by
  show (if (List.replicate (n : Int).toNat (x.l.map enc)).flatten.length ≤ sizeLine ∧ (n : Int).natAbs ≤ 1000 ∧ (x.l.map enc).length ≤ 1000 then some (PyData.tuple (List.replicate (n : Int).toNat (x.l.map enc)).flatten) else none) = some (PyData.tuple ((List.replicate n x.l).flatten.map enc))
  have hl : (List.replicate n (x.l.map enc)).flatten.length ≤ sizeLine := by
    rw [flat_len, List.length_map, sz]
    exact Nat.le_trans (Nat.mul_le_mul h.2 h.1) (by decide)
  rw [Int.toNat_natCast, if_pos ⟨hl, by omega, by rw [List.length_map]; omega⟩, flat_map]
theorem o_eq [DecidableEq α] [EqE α] (h : EqE.dp α ≤ 100) : OC .eq (fun (x y : α) => pure (decide (x = y))) := Op2.p fun x y => by
  show (cEq (enc x) (enc y)).map PyData.bool = _
  rw [cEq_enc h]; rfl
theorem o_ne [DecidableEq α] [EqE α] (h : EqE.dp α ≤ 100) : OC .ne (fun (x y : α) => pure (!decide (x = y))) := Op2.p fun x y => by
  show ((cEq (enc x) (enc y)).map (!·)).map PyData.bool = _
  rw [cEq_enc h]; rfl
theorem o_eqD : OC .eq (fun (x y : D) => ofO (cEq x y)) := Op2.o fun x y z h => by
  show (cEq x y).map PyData.bool = _
  rw [h]; rfl
theorem o_neD : OC .ne (fun (x y : D) => ofO ((cEq x y).map (!·))) := Op2.o fun x y z h => by
  show ((cEq x y).map (!·)).map PyData.bool = _
  rw [h]; rfl
theorem o_inL [DecidableEq α] [EqE α] (h : EqE.dp α ≤ 100) : OC .isin (fun (x : α) (y : List α) => pure (decide (x ∈ y))) := Op2.p fun x y => by
  show (cIn (enc x) (.list (y.map enc))).map PyData.bool = _
  unfold cIn
  simp only [seqOf, Option.bind_some]
  rw [if_pos (Nat.le_trans (EqE.hd x) h), any_enc]; rfl
theorem o_niL [DecidableEq α] [EqE α] (h : EqE.dp α ≤ 100) : OC .notin (fun (x : α) (y : List α) => pure (!decide (x ∈ y))) := Op2.p fun x y => by
  show ((cIn (enc x) (.list (y.map enc))).map (!·)).map PyData.bool = _
  unfold cIn
  simp only [seqOf, Option.bind_some]
  rw [if_pos (Nat.le_trans (EqE.hd x) h), any_enc]; rfl
theorem o_inT [DecidableEq α] [EqE α] (h : EqE.dp α ≤ 100) : OC .isin (fun (x : α) (y : Tu α) => pure (decide (x ∈ y.l))) := Op2.p fun x y => by
  show (cIn (enc x) (.tuple (y.l.map enc))).map PyData.bool = _
  unfold cIn
  simp only [seqOf, Option.bind_some]
  rw [if_pos (Nat.le_trans (EqE.hd x) h), any_enc]; rfl
theorem o_niT [DecidableEq α] [EqE α] (h : EqE.dp α ≤ 100) : OC .notin (fun (x : α) (y : Tu α) => pure (!decide (x ∈ y.l))) := Op2.p fun x y => by
  show ((cIn (enc x) (.tuple (y.l.map enc))).map (!·)).map PyData.bool = _
  unfold cIn
  simp only [seqOf, Option.bind_some]
  rw [if_pos (Nat.le_trans (EqE.hd x) h), any_enc]; rfl
theorem o_inD : OC .isin (fun (x y : D) => ofO (cIn x y)) := Op2.o fun x y z h => by
  show (cIn x y).map PyData.bool = _
  rw [h]; rfl
theorem o_niD : OC .notin (fun (x y : D) => ofO ((cIn x y).map (!·))) := Op2.o fun x y z h => by
  show ((cIn x y).map (!·)).map PyData.bool = _
  rw [h]; rfl
theorem o_ltN : OC .lt (fun (x y : Nat) => pure (decide (x < y))) := Op2.p fun x y => by
  show some (PyData.bool _) = some (PyData.bool _)
  congr 2
  simp [Int.ofNat_lt, Int.ofNat_le]
theorem o_ltZ : OC .lt (fun (x y : Int) => pure (decide (x < y))) := Op2.p fun x y => rfl
theorem o_leN : OC .le (fun (x y : Nat) => pure (decide (x ≤ y))) := Op2.p fun x y => by
  show some (PyData.bool _) = some (PyData.bool _)
  congr 2
  simp [Int.ofNat_lt, Int.ofNat_le]
theorem o_leZ : OC .le (fun (x y : Int) => pure (decide (x ≤ y))) := Op2.p fun x y => rfl
theorem o_gtN : OC .gt (fun (x y : Nat) => pure (decide (y < x))) := Op2.p fun x y => by
  show some (PyData.bool _) = some (PyData.bool _)
  congr 2
  simp [Int.ofNat_lt, Int.ofNat_le]
theorem o_gtZ : OC .gt (fun (x y : Int) => pure (decide (y < x))) := Op2.p fun x y => rfl
theorem o_geN : OC .ge (fun (x y : Nat) => pure (decide (y ≤ x))) := Op2.p fun x y => by
  show some (PyData.bool _) = some (PyData.bool _)
  congr 2
  simp [Int.ofNat_lt, Int.ofNat_le]
theorem o_geZ : OC .ge (fun (x y : Int) => pure (decide (y ≤ x))) := Op2.p fun x y => rfl
theorem atI_nat' {β : Type} (xs : List β) (i : Nat) : L2.atI xs (i : Int) = xs[i]? := by
  unfold L2.atI L2.ixN
  rw [if_pos (by omega)]
  by_cases h : i < xs.length
  · rw [if_pos (by omega)]; simp
  · rw [if_neg (by omega), List.getElem?_eq_none (by omega)]; rfl
theorem o_atL : Op2 opIx (fun (x : List α) (i : Nat) => atL x i) := Op2.o fun x i z h => by
  show L2.atI (x.map enc) (i : Int) = some (enc z)
  rw [atI_nat', List.getElem?_map, h]; rfl
theorem o_atT : Op2 opIx (fun (x : Tu α) (i : Nat) => atL x.l i) := Op2.o fun x i z h => by
  show L2.atI (x.l.map enc) (i : Int) = some (enc z)
  rw [atI_nat', List.getElem?_map, h]; rfl
theorem atI_map {β : Type} (f : α → β) (xs : List α) (i : Int) : L2.atI (xs.map f) i = (L2.atI xs i).map f := by
  unfold L2.atI
  rw [List.length_map]
  cases L2.ixN xs.length i with
  | none => rfl
  | some j => simp
theorem o_atLZ : Op2 opIx (fun (x : List α) (i : Int) => ofO (L2.atI x i)) := Op2.o fun x i z h => by
  show L2.atI (x.map enc) i = some (enc z)
  rw [atI_map, h]; rfl
theorem o_atTZ : Op2 opIx (fun (x : Tu α) (i : Int) => ofO (L2.atI x.l i)) := Op2.o fun x i z h => by
  show L2.atI (x.l.map enc) i = some (enc z)
  rw [atI_map, h]; rfl
def dIx (x : D) (i : Nat) : M D := ofO (opIx x (.int i))
theorem o_atD : Op2 opIx (fun (x : D) (i : Nat) => dIx x i) := Op2.o fun x i z h => h
theorem atI_last (x : List α) (y : α) (h : x.getLast? = some y) : L2.atI (x.map enc) (-1) = some (enc y) := by
  rw [atI_map]
  have : L2.atI x (-1) = some y := by
    unfold L2.atI L2.ixN
    rw [if_neg (by omega)]
    cases x with
    | nil => cases h
    | cons z r =>
      rw [if_pos (by simp; omega)]
      rw [List.getLast?_eq_getElem?] at h
      have e : (-1 + ((z :: r).length : Int)).toNat = (z :: r).length - 1 := by omega
      simp only [Option.bind_some, e]
      exact h
  rw [this]; rfl
theorem c_last (x : List α) (y : α) (h : x.getLast? = some y) : opIx (enc x) (.int (-1)) = some (enc y) := atI_last x y h
theorem c_lastT (x : Tu α) (y : α) (h : x.l.getLast? = some y) : opIx (enc x) (.int (-1)) = some (enc y) := atI_last x.l y h
theorem cutD_nat {β : Type} (f : α → D) (xs : List α) (lo hi : Nat) : cutD (xs.map f) (some (lo : Int)) (some (hi : Int)) = (((xs.drop lo).take (hi - lo)).map f) := by
  unfold cutD
  rw [HT.sIx_nat, HT.sIx_nat, List.length_map, ← List.map_drop, ← List.map_take]
  congr 1
  by_cases h : lo ≤ xs.length
  · rw [Nat.min_eq_left h]
    by_cases h2 : hi ≤ xs.length
    · rw [Nat.min_eq_left h2]
    · rw [Nat.min_eq_right (by omega), List.take_of_length_le (by rw [List.length_drop]; omega), List.take_of_length_le (by rw [List.length_drop]; omega)]
  · rw [List.drop_eq_nil_of_le (i := lo) (by omega), List.drop_eq_nil_of_le (by omega)]
    simp
theorem cutD_from (f : α → D) (xs : List α) (lo : Nat) : cutD (xs.map f) (some (lo : Int)) none = (xs.drop lo).map f := by
  unfold cutD
  rw [HT.sIx_nat, HT.sIx_none, List.length_map, ← List.map_drop, ← List.map_take]
  congr 1
  by_cases h : lo ≤ xs.length
  · rw [Nat.min_eq_left h, List.take_of_length_le (by rw [List.length_drop]; omega)]
  · rw [List.drop_eq_nil_of_le (i := lo) (by omega), List.drop_eq_nil_of_le (by omega)]
    simp
theorem cutD_to (f : α → D) (xs : List α) (hi : Nat) : cutD (xs.map f) none (some (hi : Int)) = (xs.take hi).map f := by
  unfold cutD
  rw [HT.sIx_nat, HT.sIx_none, List.length_map, List.drop_zero, ← List.map_take]
  congr 1
  by_cases h : hi ≤ xs.length
  · rw [Nat.min_eq_left h, Nat.sub_zero]
  · rw [List.take_of_length_le (by omega), List.take_of_length_le (by omega)]
theorem o_slFL : Op2 (fun x y => (intOf y).bind fun i => opSl x (some i) none) (fun (x : List α) (i : Nat) => pure (x.drop i)) := Op2.p fun x i => congrArg (fun l => some (PyData.list l)) (cutD_from enc x i)
theorem o_slFT : Op2 (fun x y => (intOf y).bind fun i => opSl x (some i) none) (fun (x : Tu α) (i : Nat) => pure (Tu.mk (x.l.drop i))) := Op2.p fun x i => congrArg (fun l => some (PyData.tuple l)) (cutD_from enc x.l i)
theorem o_slTL : Op2 (fun x y => (intOf y).bind fun i => opSl x none (some i)) (fun (x : List α) (i : Nat) => pure (x.take i)) := Op2.p fun x i => congrArg (fun l => some (PyData.list l)) (cutD_to enc x i)
theorem o_slTT : Op2 (fun x y => (intOf y).bind fun i => opSl x none (some i)) (fun (x : Tu α) (i : Nat) => pure (Tu.mk (x.l.take i))) := Op2.p fun x i => congrArg (fun l => some (PyData.tuple l)) (cutD_to enc x.l i)
theorem o_slBL : Op3 (fun x y z => (intOf y).bind fun i => (intOf z).bind fun j => opSl x (some i) (some j)) (fun (x : List α) (i j : Nat) => pure ((x.drop i).take (j - i))) := Op3.p fun x i j => congrArg (fun l => some (PyData.list l)) (cutD_nat (β := D) enc x i j)
theorem o_slBT : Op3 (fun x y z => (intOf y).bind fun i => (intOf z).bind fun j => opSl x (some i) (some j)) (fun (x : Tu α) (i j : Nat) => pure (Tu.mk ((x.l.drop i).take (j - i)))) := Op3.p fun x i j => congrArg (fun l => some (PyData.tuple l)) (cutD_nat (β := D) enc x.l i j)
theorem o_lenL : Op1 (opB1 .len) (fun (x : List α) => pure x.length) := Op1.p fun x => by
  show some (PyData.int ((x.map enc).length : Nat)) = _
  rw [List.length_map]; rfl
theorem o_lenT : Op1 (opB1 .len) (fun (x : Tu α) => pure x.l.length) := Op1.p fun x => by
  show some (PyData.int ((x.l.map enc).length : Nat)) = _
  rw [List.length_map]; rfl
def lenD (d : D) : Option Nat := (seqOf d).map List.length
theorem o_lenD : Op1 (opB1 .len) (fun (x : D) => ofO (lenD x)) := Op1.o fun x z h => by
  unfold lenD seqOf at h
  split at h
  · cases h; rfl
  · cases h; rfl
  · cases h
theorem o_tupL : Op1 (opB1 .tuple) (fun (x : List α) => pure (Tu.mk x)) := Op1.p fun x => rfl
theorem o_tupT : Op1 (opB1 .tuple) (fun (x : Tu α) => pure x) := Op1.p fun x => rfl
theorem o_lstT : Op1 (opB1 .list) (fun (x : Tu α) => pure x.l) := Op1.p fun x => rfl
theorem o_lstL : Op1 (opB1 .list) (fun (x : List α) => pure x) := Op1.p fun x => rfl
theorem o_lstD : Op1 (opB1 .list) (fun (x : D) => ofO (seqOf x)) := Op1.o fun x z h => by
  unfold seqOf at h
  split at h
  · cases h; exact congrArg (fun l => some (PyData.list l)) (List.map_id' _).symm
  · cases h; exact congrArg (fun l => some (PyData.list l)) (List.map_id' _).symm
  · cases h
end
theorem o_intN : Op1 (opB1 .int) (fun (x : Nat) => pure x) := Op1.p fun x => rfl
theorem o_intZ : Op1 (opB1 .int) (fun (x : Int) => pure x) := Op1.p fun x => rfl
theorem o_absZ : Op1 (opB1 .abs) (fun (x : Int) => pure x.natAbs) := Op1.p fun x => by
  show some (PyData.int (if x < 0 then -x else x)) = some (PyData.int (x.natAbs : Int))
  congr 2
  split <;> omega
theorem ints_nn : ∀ L : List Nat, intsOf (L.map enc) = some (L.map fun (x : Nat) => (x : Int))
  | [] => rfl
  | a :: r => by
    show intsOf (PyData.int a :: r.map enc) = _
    rw [intsOf, ints_nn r]; rfl
theorem ints_zz : ∀ L : List Int, intsOf (L.map enc) = some L
  | [] => rfl
  | a :: r => by
    show intsOf (PyData.int a :: r.map enc) = _
    rw [intsOf, ints_zz r]; rfl
theorem sum_nn : ∀ L : List Nat, (L.map fun (x : Nat) => (x : Int)).sum = ((L.sum : Nat) : Int)
  | [] => rfl
  | a :: r => by rw [List.map_cons, List.sum_cons, List.sum_cons, sum_nn r]; push_cast; rfl
theorem o_sumN : Op1 (opB1 .sum) (fun (x : List Nat) => pure x.sum) := Op1.p fun x => by
  show ((intsOf (x.map enc)).map fun ns => PyData.int ns.sum) = _
  rw [ints_nn, Option.map_some, sum_nn]; rfl
theorem o_sumTN : Op1 (opB1 .sum) (fun (x : Tu Nat) => pure x.l.sum) := Op1.p fun x => by
  show ((intsOf (x.l.map enc)).map fun ns => PyData.int ns.sum) = _
  rw [ints_nn, Option.map_some, sum_nn]; rfl
theorem o_sumZ : Op1 (opB1 .sum) (fun (x : List Int) => pure x.sum) := Op1.p fun x => by
  show ((intsOf (x.map enc)).map fun ns => PyData.int ns.sum) = _
  rw [ints_zz]; rfl
theorem maxI_n : ∀ L : List Nat, maxI (L.map fun (x : Nat) => (x : Int)) = (maxN L).map fun (x : Nat) => (x : Int)
  | [] => rfl
  | a :: r => by
    simp only [List.map_cons, maxI, maxN, Option.map_some]
    congr 1
    suffices h : ∀ (r : List Nat) (a : Nat), (r.map fun (x : Nat) => (x : Int)).foldl max (a : Int) = ((r.foldl max a : Nat) : Int) from h r a
    intro r
    induction r with
    | nil => intro a; rfl
    | cons b r ih =>
      intro a
      simp only [List.map_cons, List.foldl_cons]
      rw [show max (a : Int) (b : Int) = ((max a b : Nat) : Int) by omega, ih]
theorem minI_n : ∀ L : List Nat, minI (L.map fun (x : Nat) => (x : Int)) = (minN L).map fun (x : Nat) => (x : Int)
  | [] => rfl
  | a :: r => by
    simp only [List.map_cons, minI, minN, Option.map_some]
    congr 1
    suffices h : ∀ (r : List Nat) (a : Nat), (r.map fun (x : Nat) => (x : Int)).foldl min (a : Int) = ((r.foldl min a : Nat) : Int) from h r a
    intro r
    induction r with
    | nil => intro a; rfl
    | cons b r ih =>
      intro a
      simp only [List.map_cons, List.foldl_cons]
      rw [show min (a : Int) (b : Int) = ((min a b : Nat) : Int) by omega, ih]
theorem o_maxN : Op1 (opB1 .max) (fun (x : List Nat) => ofO (maxN x)) := Op1.o fun x z h => by
  show (intsOf (x.map enc)).bind (fun ns => (maxI ns).map PyData.int) = _
  rw [ints_nn, Option.bind_some, maxI_n, h]; rfl
theorem o_minN : Op1 (opB1 .min) (fun (x : List Nat) => ofO (minN x)) := Op1.o fun x z h => by
  show (intsOf (x.map enc)).bind (fun ns => (minI ns).map PyData.int) = _
  rw [ints_nn, Option.bind_some, minI_n, h]; rfl
theorem o_maxTN : Op1 (opB1 .max) (fun (x : Tu Nat) => ofO (maxN x.l)) := Op1.o fun x z h => by
  show (intsOf (x.l.map enc)).bind (fun ns => (maxI ns).map PyData.int) = _
  rw [ints_nn, Option.bind_some, maxI_n, h]; rfl
theorem o_minTN : Op1 (opB1 .min) (fun (x : Tu Nat) => ofO (minN x.l)) := Op1.o fun x z h => by
  show (intsOf (x.l.map enc)).bind (fun ns => (minI ns).map PyData.int) = _
  rw [ints_nn, Option.bind_some, minI_n, h]; rfl
theorem bools_bb : ∀ L : List Bool, boolsOf (L.map enc) = some L
  | [] => rfl
  | a :: r => by
    show boolsOf (PyData.bool a :: r.map enc) = _
    rw [boolsOf, bools_bb r]; rfl
theorem o_all : Op1 (opB1 .all) (fun (x : List Bool) => pure (x.all id)) := Op1.p fun x => by
  show ((boolsOf (x.map enc)).map fun bs => PyData.bool (bs.all id)) = _
  rw [bools_bb]; rfl
theorem o_any : Op1 (opB1 .any) (fun (x : List Bool) => pure (x.any id)) := Op1.p fun x => by
  show ((boolsOf (x.map enc)).map fun bs => PyData.bool (bs.any id)) = _
  rw [bools_bb]; rfl
theorem o_max2N : Op2 (opB2 .max) (fun (x y : Nat) => pure (max x y)) := Op2.p fun x y => by
  show some (PyData.int (if (y : Int) > (x : Int) then (y : Int) else (x : Int))) = some (PyData.int ((max x y : Nat) : Int))
  congr 2
  split <;> omega
theorem o_min2N : Op2 (opB2 .min) (fun (x y : Nat) => pure (min x y)) := Op2.p fun x y => by
  show some (PyData.int (if (y : Int) < (x : Int) then (y : Int) else (x : Int))) = some (PyData.int ((min x y : Nat) : Int))
  congr 2
  split <;> omega
theorem ixOf_enc {α : Type} [Enc α] [DecidableEq α] [EqE α] (x : α) : ∀ l : List α, ixOf (enc x) (l.map enc) = posOf x l
  | [] => rfl
  | z :: r => by
    simp only [List.map_cons, ixOf, posOf, EqE.eq, ixOf_enc x r]
    by_cases h : z = x <;> simp [h]
theorem o_index {α : Type} [Enc α] [DecidableEq α] [EqE α] (hd : EqE.dp α ≤ 100) : Op2 (fun x y => mIndex x [y]) (fun (x : List α) (y : α) => ofO (posOf y x)) := Op2.o fun x y z h => by
  show (if (enc y).depth ≤ 100 then (ixOf (enc y) (x.map enc)).map fun j => PyData.int (j : Nat) else none) = _
  rw [if_pos (Nat.le_trans (EqE.hd y) hd), ixOf_enc, h]; rfl
/-! ### statements -/
def SY {ω : Type} (cf : CF) (ss : List IS) (γ : En) (K : Out → ω → Tape → Prop) (m : M ω) : Prop := ∀ τ w τ', m τ = some (w, τ') → ∃ o, execSs cf ss γ τ = some o ∧ K o w τ'
/-- a part of a loop's turn -/
inductive Fw (σ ω : Type)
  | nx (s : σ) | bk (s : σ) | rt (w : ω)
abbrev J := Nat → Option D
def jsOf (γ : En) : J := fun i => rd γ i
section
variable {σ ω ρ : Type} [Enc ρ]
/-- a def's end -/
def KF (o : Out) (r : ρ) (τ : Tape) : Prop := o = .rt (enc r) τ ∨ (enc r = PyData.none ∧ ∃ γ, o = .nx γ τ)
def KJ (env : σ → J → En) (o : Out) (s : σ) (τ : Tape) : Prop := ∃ js, o = .nx (env s js) τ
def KI (env : σ → J → En) (o : Out) (s : σ) (τ : Tape) : Prop := ∃ js, o = .nx (env s js) τ ∨ o = .ct (env s js) τ
def KL (env : σ → J → En) (K : Out → ω → Tape → Prop) (o : Out) (f : Fw σ ω) (τ : Tape) : Prop := match f with
  | .nx s => ∃ js, o = .nx (env s js) τ ∨ o = .ct (env s js) τ
  | .bk s => ∃ js, o = .bk (env s js) τ
  | .rt w => (∃ d, o = .rt d τ) ∧ K o w τ
def KX (K : Out → ω → Tape → Prop) (o : Out) (w : ω) (τ : Tape) : Prop := K o w τ ∧ ∀ g t, o ≠ .nx g t
theorem kF_rt (x : ρ) (τ : Tape) : KF (.rt (enc x) τ) x τ := .inl rfl
theorem kF_nx {x : ρ} (h : enc x = PyData.none) (γ : En) (τ : Tape) : KF (.nx γ τ) x τ := .inr ⟨h, γ, rfl⟩
theorem kJ_nx {env : σ → J → En} {γ : En} {s : σ} (h : env s (jsOf γ) = γ) (τ : Tape) : KJ env (.nx γ τ) s τ := ⟨jsOf γ, by rw [h]⟩
theorem kI_nx {env : σ → J → En} {γ : En} {s : σ} (h : env s (jsOf γ) = γ) (τ : Tape) : KI env (.nx γ τ) s τ := ⟨jsOf γ, .inl (by rw [h])⟩
theorem kI_ct {env : σ → J → En} {γ : En} {s : σ} (h : env s (jsOf γ) = γ) (τ : Tape) : KI env (.ct γ τ) s τ := ⟨jsOf γ, .inr (by rw [h])⟩
theorem kL_nx {env : σ → J → En} {K : Out → ω → Tape → Prop} {γ : En} {s : σ} (h : env s (jsOf γ) = γ) (τ : Tape) : KL env K (.nx γ τ) (.nx s) τ := ⟨jsOf γ, .inl (by rw [h])⟩
theorem kL_ct {env : σ → J → En} {K : Out → ω → Tape → Prop} {γ : En} {s : σ} (h : env s (jsOf γ) = γ) (τ : Tape) : KL env K (.ct γ τ) (.nx s) τ := ⟨jsOf γ, .inr (by rw [h])⟩
theorem kL_bk {env : σ → J → En} {K : Out → ω → Tape → Prop} {γ : En} {s : σ} (h : env s (jsOf γ) = γ) (τ : Tape) : KL env K (.bk γ τ) (.bk s) τ := ⟨jsOf γ, by rw [h]⟩
theorem kL_rt {env : σ → J → En} {K : Out → ω → Tape → Prop} {d : D} {w : ω} {τ : Tape} (h : K (.rt d τ) w τ) : KL env K (.rt d τ) (.rt w) τ := ⟨⟨d, rfl⟩, h⟩
theorem kX_rt {K : Out → ω → Tape → Prop} {d : D} {w : ω} {τ : Tape} (h : K (.rt d τ) w τ) : KX K (.rt d τ) w τ := ⟨h, fun _ _ => nofun⟩
theorem kX_bk {K : Out → ω → Tape → Prop} {γ : En} {w : ω} {τ : Tape} (h : K (.bk γ τ) w τ) : KX K (.bk γ τ) w τ := ⟨h, fun _ _ => nofun⟩
theorem kX_ct {K : Out → ω → Tape → Prop} {γ : En} {w : ω} {τ : Tape} (h : K (.ct γ τ) w τ) : KX K (.ct γ τ) w τ := ⟨h, fun _ _ => nofun⟩
end
section
variable {cf : CF} {γ : En} {σ ω α β ρ : Type} [Enc α] [Enc β] [Enc ρ] {K : Out → ω → Tape → Prop} {e a b : IE} {rest : List IS}
theorem S_nil {w : ω} (h : ∀ τ, K (.nx γ τ) w τ) : SY cf [] γ K (pure w) := fun τ w' τ' e => by
  obtain ⟨rfl, rfl⟩ := pureM_some e
  exact ⟨_, by simp only [execSs], h τ⟩
theorem S_ret {m : M ρ} {wrap : ρ → ω} (he : EM cf γ e m) (h : ∀ x τ, K (.rt (enc x) τ) (wrap x) τ) : SY cf (.ret e :: rest) γ K (m >>= fun x => pure (wrap x)) := fun τ w τ' q => by
  obtain ⟨x, τ1, e1, q⟩ := bindM_some q
  obtain ⟨rfl, rfl⟩ := pureM_some q
  exact ⟨_, by simp only [execSs, execS, he _ _ _ e1, Option.map_some, Option.bind_some], h x τ1⟩
theorem S_retN {w : ω} (h : ∀ τ, K (.rt PyData.none τ) w τ) : SY cf (.retN :: rest) γ K (pure w) := fun τ w τ' q => by
  obtain ⟨rfl, rfl⟩ := pureM_some q
  exact ⟨_, by simp only [execSs, execS, Option.bind_some], h τ⟩
theorem S_brk {w : ω} (h : ∀ τ, K (.bk γ τ) w τ) : SY cf (.brk :: rest) γ K (pure w) := fun τ w τ' q => by
  obtain ⟨rfl, rfl⟩ := pureM_some q
  exact ⟨_, by simp only [execSs, execS, Option.bind_some], h τ⟩
theorem S_cont {w : ω} (h : ∀ τ, K (.ct γ τ) w τ) : SY cf (.cont :: rest) γ K (pure w) := fun τ w τ' q => by
  obtain ⟨rfl, rfl⟩ := pureM_some q
  exact ⟨_, by simp only [execSs, execS, Option.bind_some], h τ⟩
theorem S_set {tg : Tg} {m : M α} {k : α → M ω} {g : α → En} (he : EM cf γ e m) (hg : ∀ x, bindT tg (enc x) γ = some (g x)) (hr : ∀ x, SY cf rest (g x) K (k x)) : SY cf (.set tg e :: rest) γ K (m >>= k) := fun τ w τ' q => by
  obtain ⟨x, τ1, e1, q⟩ := bindM_some q
  obtain ⟨o, h1, h2⟩ := hr x _ _ _ q
  exact ⟨o, by simp only [execSs, execS, he _ _ _ e1, Option.bind_some, hg, Option.map_some, h1], h2⟩
/-- a tuple or list of unknown length is taken apart -/
theorem S_seto {tg : Tg} {m : M α} {k : σ → M ω} {u : α → Option σ} {g : σ → En} (he : EM cf γ e m) (hg : ∀ x y, u x = some y → bindT tg (enc x) γ = some (g y)) (hr : ∀ x, SY cf rest (g x) K (k x)) : SY cf (.set tg e :: rest) γ K (m >>= fun x => ofO (u x) >>= k) := fun τ w τ' q => by
  obtain ⟨x, τ1, e1, q⟩ := bindM_some q
  obtain ⟨y, τ2, e2, q⟩ := bindM_some q
  obtain ⟨h, rfl⟩ := ofO_some e2
  obtain ⟨o, h1, h2⟩ := hr y _ _ _ q
  exact ⟨o, by simp only [execSs, execS, he _ _ _ e1, Option.bind_some, hg _ _ h, Option.map_some, h1], h2⟩
theorem S_own {i : Nat} {t : Ty} {m : M α} {k : α → M ω} {g : α → En} (he : EM cf γ e m) (hg : ∀ x, γ.set i (some (enc x)) = g x) (hr : ∀ x, SY cf rest (g x) K (k x)) : SY cf (.own i t e :: rest) γ K (m >>= k) := fun τ w τ' q => by
  obtain ⟨x, τ1, e1, q⟩ := bindM_some q
  obtain ⟨o, h1, h2⟩ := hr x _ _ _ q
  exact ⟨o, by simp only [execSs, execS, he _ _ _ e1, Option.bind_some, hg, Option.map_some, h1], h2⟩
theorem S_par {i j : Nat} {m : M α} {n : M β} {k : α → β → M ω} {g : α → β → En} (ha : EM cf γ a m) (hb : EM cf γ b n) (hg : ∀ x y, (γ.set i (some (enc x))).set j (some (enc y)) = g x y) (hr : ∀ x y, SY cf rest (g x y) K (k x y)) : SY cf (.par i j a b :: rest) γ K (m >>= fun x => n >>= fun y => k x y) := fun τ w τ' q => by
  obtain ⟨x, τ1, e1, q⟩ := bindM_some q
  obtain ⟨y, τ2, e2, q⟩ := bindM_some q
  obtain ⟨o, h1, h2⟩ := hr x y _ _ _ q
  exact ⟨o, by simp only [execSs, execS, ha _ _ _ e1, hb _ _ _ e2, Option.bind_some, hg, Option.map_some, h1], h2⟩
theorem S_app {i : Nat} {m : M α} {l : List α} {k : List α → M ω} {g : List α → En} (he : EM cf γ e m) (hl : rd γ i = some (enc l)) (hg : ∀ x : List α, γ.set i (some (enc x)) = g x) (hr : ∀ x, SY cf rest (g x) K (k x)) : SY cf (.app i e :: rest) γ K (m >>= fun x => pushL l x >>= k) := fun τ w τ' q => by
  obtain ⟨x, τ1, e1, q⟩ := bindM_some q
  obtain ⟨y, τ2, e2, q⟩ := bindM_some q
  obtain ⟨h, rfl, rfl⟩ := grd_some e2
  obtain ⟨o, h1, h2⟩ := hr _ _ _ _ q
  refine ⟨o, ?_, h2⟩
  simp only [execSs, execS, he _ _ _ e1, Option.bind_some, hl]
  show (if (l.map enc).length < sizeLine then _ else none : Option Out).bind _ = _
  rw [if_pos (by rw [List.length_map, sz]; omega), Option.bind_some]
  show execSs cf rest (γ.set i (some (.list (l.map enc ++ [enc x])))) τ1 = some o
  have := hg (l ++ [x])
  rw [enc_L, List.map_append] at this
  rw [show l.map enc ++ [enc x] = l.map enc ++ [x].map enc from rfl, this, h1]
theorem S_ext {i : Nat} {m : M (List α)} {l : List α} {k : List α → M ω} {g : List α → En} (he : EM cf γ e m) (hl : rd γ i = some (enc l)) (hg : ∀ x : List α, γ.set i (some (enc x)) = g x) (hr : ∀ x, SY cf rest (g x) K (k x)) : SY cf (.ext i e :: rest) γ K (m >>= fun x => appL l x >>= k) := fun τ w τ' q => by
  obtain ⟨x, τ1, e1, q⟩ := bindM_some q
  obtain ⟨y, τ2, e2, q⟩ := bindM_some q
  obtain ⟨h, rfl, rfl⟩ := grd_some e2
  obtain ⟨o, h1, h2⟩ := hr _ _ _ _ q
  refine ⟨o, ?_, h2⟩
  simp only [execSs, execS, he _ _ _ e1, Option.bind_some, hl]
  show (if (l.map enc).length + (x.map enc).length ≤ sizeLine then _ else none : Option Out).bind _ = _
  rw [if_pos (by rw [List.length_map, List.length_map, sz]; omega), Option.bind_some]
  show execSs cf rest (γ.set i (some (.list (l.map enc ++ x.map enc)))) τ1 = some o
  have := hg (l ++ x)
  rw [enc_L, List.map_append] at this
  rw [this, h1]
theorem ixN_lt {n i : Nat} (h : i < n) : L2.ixN n (i : Int) = some i := by
  unfold L2.ixN
  rw [if_pos (by omega), if_pos (by omega)]
  simp
theorem S_setix {i : Nat} {m : M α} {ki : IE} {n : M Nat} {l : List α} {k : List α → M ω} {g : List α → En} (he : EM cf γ e m) (hk : EM cf γ ki n) (hl : rd γ i = some (enc l)) (hg : ∀ x : List α, γ.set i (some (enc x)) = g x) (hr : ∀ x, SY cf rest (g x) K (k x)) : SY cf (.setix i ki e :: rest) γ K (m >>= fun x => n >>= fun j => setL l j x >>= k) := fun τ w τ' q => by
  obtain ⟨x, τ1, e1, q⟩ := bindM_some q
  obtain ⟨j, τ2, e2, q⟩ := bindM_some q
  obtain ⟨y, τ3, e3, q⟩ := bindM_some q
  obtain ⟨h, rfl, rfl⟩ := grd_some e3
  obtain ⟨o, h1, h2⟩ := hr _ _ _ _ q
  refine ⟨o, ?_, h2⟩
  simp only [execSs, execS, he _ _ _ e1, hk _ _ _ e2, Option.bind_some, hl]
  show (((updIx (.list (l.map enc)) (.int (j : Int)) (enc x)).map fun l' => Out.nx (γ.set i (some l')) τ2) : Option Out).bind _ = _
  simp only [updIx]
  rw [List.length_map, ixN_lt h, Option.map_some, Option.map_some, Option.bind_some]
  show execSs cf rest (γ.set i (some (.list ((l.map enc).set j (enc x))))) τ2 = some o
  have := hg (l.set j x)
  rw [enc_L, List.map_set] at this
  rw [this, h1]
theorem S_ex {m : M α} {k : M ω} (he : EM cf γ e m) (hr : SY cf rest γ K k) : SY cf (.ex e :: rest) γ K (m >>= fun _ => k) := fun τ w τ' q => by
  obtain ⟨x, τ1, e1, q⟩ := bindM_some q
  obtain ⟨o, h1, h2⟩ := hr _ _ _ q
  exact ⟨o, by simp only [execSs, execS, he _ _ _ e1, Option.bind_some, Option.map_some, h1], h2⟩
theorem S_frz {i : Nat} {k : M ω} (hr : SY cf rest γ K k) : SY cf (.frz i :: rest) γ K k := fun τ w τ' q => by
  obtain ⟨o, h1, h2⟩ := hr _ _ _ q
  exact ⟨o, by simp only [execSs, execS, Option.bind_some, h1], h2⟩
theorem exec_app (ss rest : List IS) (γ : En) (τ : Tape) : execSs cf (ss ++ rest) γ τ = (execSs cf ss γ τ).bind fun o => match o with
      | .nx g t => execSs cf rest g t
      | o => some o := by
  induction ss generalizing γ τ with
  | nil => simp only [List.nil_append, execSs, Option.bind_some]
  | cons s ss ih =>
    simp only [List.cons_append, execSs]
    cases execS cf s γ τ with
    | none => rfl
    | some o =>
      simp only [Option.bind_some]
      cases o with
      | nx g t => exact ih g t
      | _ => rfl
theorem ite_app (c : IE) (x y rest : List IS) (γ : En) (τ : Tape) : execSs cf (.ite c x y :: rest) γ τ = (tst (evalE cf c γ τ)).bind fun p => if p.1 = true then execSs cf (x ++ rest) γ p.2 else execSs cf (y ++ rest) γ p.2 := by
  simp only [execSs, execS]
  cases tst (evalE cf c γ τ) with
  | none => rfl
  | some p =>
    simp only [Option.bind_some]
    obtain ⟨q, t⟩ := p
    cases q with
    | true =>
      rw [if_pos rfl, if_pos rfl, exec_app]
      all_goals (cases execSs cf x γ (true, t).2 with
        | none => rfl
        | some o => cases o <;> rfl)
    | false =>
      rw [if_neg Bool.false_ne_true, if_neg Bool.false_ne_true, exec_app]
      all_goals (cases execSs cf y γ (false, t).2 with
        | none => rfl
        | some o => cases o <;> rfl)
/-- the rest stands behind both branches -/
theorem S_ite {c : IE} {x y : List IS} {mc : M Bool} {m1 m2 : M ω} (hc : EC cf γ c mc) (h1 : SY cf (x ++ rest) γ K m1) (h2 : SY cf (y ++ rest) γ K m2) : SY cf (.ite c x y :: rest) γ K (mc >>= fun q => if q = true then m1 else m2) := fun τ w τ' q => by
  obtain ⟨k, τ1, e1, q⟩ := bindM_some q
  rw [ite_app, hc _ _ _ e1, Option.bind_some]
  cases k with
  | true =>
    rw [if_pos rfl] at q ⊢
    exact h1 _ _ _ q
  | false =>
    rw [if_neg Bool.false_ne_true] at q ⊢
    exact h2 _ _ _ q
/-- the first branch leaves -/
theorem S_ifl {c : IE} {x : List IS} {mc : M Bool} {m1 m2 : M ω} (hc : EC cf γ c mc) (h1 : SY cf x γ (KX K) m1) (h2 : SY cf rest γ K m2) : SY cf (.ite c x [] :: rest) γ K (mc >>= fun q => if q = true then m1 else m2) :=
  S_ite hc (fun τ w τ' q => by
    obtain ⟨o, e1, e2, e3⟩ := h1 _ _ _ q
    refine ⟨o, ?_, e2⟩
    rw [exec_app, e1, Option.bind_some]
    cases o with
    | nx g t => exact (e3 g t rfl).elim
    | _ => rfl) h2
/-- both branches go on -/
theorem S_ifj {c : IE} {x y : List IS} {mc : M Bool} {m1 m2 : M σ} {k : σ → M ω} {env : σ → J → En} (hc : EC cf γ c mc) (h1 : SY cf x γ (KJ env) m1) (h2 : SY cf y γ (KJ env) m2) (hr : ∀ s js, SY cf rest (env s js) K (k s)) : SY cf (.ite c x y :: rest) γ K (mc >>= fun q => (if q = true then m1 else m2) >>= k) := fun τ w τ' q => by
  obtain ⟨b, τ1, e1, q1⟩ := bindM_some q
  obtain ⟨s, τ2, e2, q2⟩ := bindM_some q1
  clear q q1
  rw [ite_app, hc _ _ _ e1, Option.bind_some]
  cases b with
  | true =>
    rw [if_pos rfl] at e2 ⊢
    obtain ⟨o, e3, js, rfl⟩ := h1 _ _ _ e2
    obtain ⟨o, e4, e5⟩ := hr s js _ _ _ q2
    exact ⟨o, by rw [exec_app, e3, Option.bind_some]; exact e4, e5⟩
  | false =>
    rw [if_neg Bool.false_ne_true] at e2 ⊢
    obtain ⟨o, e3, js, rfl⟩ := h2 _ _ _ e2
    obtain ⟨o, e4, e5⟩ := hr s js _ _ _ q2
    exact ⟨o, by rw [exec_app, e3, Option.bind_some]; exact e4, e5⟩
/-! loops -/
def foldL {σ α : Type} (f : σ → α → M σ) : σ → List α → M σ
  | s, [] => pure s
  | s, x :: xs => f s x >>= fun s' => foldL f s' xs
def loopL {σ α ω : Type} (f : σ → α → M (Fw σ ω)) : σ → List α → M (σ ⊕ ω)
  | s, [] => pure (.inl s)
  | s, x :: xs => f s x >>= fun z => match z with
    | .nx s' => loopL f s' xs
    | .bk s' => pure (.inl s')
    | .rt w => pure (.inr w)
def caseS {σ ω : Type} (z : σ ⊕ ω) (r : σ → M ω) : M ω := match z with
  | .inl s => r s
  | .inr w => pure w
theorem S_for {tg : Tg} {k : IK} {args : List IE} {body : List IS} {ks : List Nat} {G : List Ty} {ms : M (List α)} {env : σ → J → En} {s0 : σ} {f : σ → α → M σ} {r : σ → M ω} {g : α → σ → J → En} (hs : ES cf γ k args ms) (h0 : env s0 (jsOf γ) = γ)
    (hk : ∀ s js, env s (jsOf (kill (env s js) ks)) = kill (env s js) ks) (hg : ∀ x s js, bindT tg (enc x) (env s js) = some (g x s js)) (hb : ∀ x s js, SY cf body (g x s js) (KI env) (f s x)) (hr : ∀ s js, SY cf rest (env s js) K (r s)) :
    SY cf (.for tg k args body ks G :: rest) γ K (ms >>= fun xs => foldL f s0 xs >>= fun s => r s) := fun τ w τ' q => by
  obtain ⟨xs, τ1, e1, q⟩ := bindM_some q
  obtain ⟨s, τ2, e2, q⟩ := bindM_some q
  obtain ⟨ds, a1, a2, a3⟩ := hs _ _ _ e1
  have key : ∀ (xs : List α) (s0 : σ) (js : J) (τ1 : Tape), foldL f s0 xs τ1 = some (s, τ2) → ∃ js', forL (fun x g t => (bindT tg x g).bind fun g' => execSs cf body g' t) ks (xs.map enc) (env s0 js) τ1 = some (.nx (env s js') τ2) := by
    intro xs
    induction xs with
    | nil =>
      intro s0 js τ1 e
      obtain ⟨rfl, rfl⟩ := pureM_some e
      exact ⟨js, rfl⟩
    | cons x xs ih =>
      intro s0 js τ1 e
      obtain ⟨s1, τ3, e3, e⟩ := bindM_some e
      obtain ⟨o, b1, js1, b2⟩ := hb x s0 js _ _ _ e3
      obtain ⟨js2, c1⟩ := ih s1 (jsOf (kill (env s1 js1) ks)) τ3 e
      refine ⟨js2, ?_⟩
      rw [hk] at c1
      rcases b2 with rfl | rfl
      · simp only [List.map_cons, forL, hg, Option.bind_some, b1, c1]
      · simp only [List.map_cons, forL, hg, Option.bind_some, b1, c1]
  obtain ⟨js', c1⟩ := key xs s0 (jsOf γ) τ1 e2
  rw [h0] at c1
  obtain ⟨o, d1, d2⟩ := hr s js' _ _ _ q
  exact ⟨o, by simp only [execSs, execS, a1, Option.bind_some, a2, c1, d1], d2⟩
theorem S_forL {tg : Tg} {k : IK} {args : List IE} {body : List IS} {ks : List Nat} {G : List Ty} {ms : M (List α)} {env : σ → J → En} {s0 : σ} {f : σ → α → M (Fw σ ω)} {r : σ → M ω} {g : α → σ → J → En} (hs : ES cf γ k args ms) (h0 : env s0 (jsOf γ) = γ)
    (hk : ∀ s js, env s (jsOf (kill (env s js) ks)) = kill (env s js) ks) (hg : ∀ x s js, bindT tg (enc x) (env s js) = some (g x s js)) (hb : ∀ x s js, SY cf body (g x s js) (KL env K) (f s x)) (hr : ∀ s js, SY cf rest (env s js) K (r s)) :
    SY cf (.for tg k args body ks G :: rest) γ K (ms >>= fun xs => loopL f s0 xs >>= fun z => caseS z r) := fun τ w τ' q => by
  obtain ⟨xs, τ1, e1, q⟩ := bindM_some q
  obtain ⟨z, τ2, e2, q⟩ := bindM_some q
  obtain ⟨ds, a1, a2, a3⟩ := hs _ _ _ e1
  have key : ∀ (xs : List α) (s0 : σ) (js : J) (τ1 : Tape), loopL f s0 xs τ1 = some (z, τ2) → (match z with
      | .inl s => ∃ js', forL (fun x g t => (bindT tg x g).bind fun g' => execSs cf body g' t) ks (xs.map enc) (env s0 js) τ1 = some (.nx (env s js') τ2)
      | .inr w => ∃ d, forL (fun x g t => (bindT tg x g).bind fun g' => execSs cf body g' t) ks (xs.map enc) (env s0 js) τ1 = some (.rt d τ2) ∧ K (.rt d τ2) w τ2) := by
    intro xs
    induction xs with
    | nil =>
      intro s0 js τ1 e
      obtain ⟨rfl, rfl⟩ := pureM_some e
      exact ⟨js, rfl⟩
    | cons x xs ih =>
      intro s0 js τ1 e
      obtain ⟨y, τ3, e3, e⟩ := bindM_some e
      obtain ⟨o, b1, b2⟩ := hb x s0 js _ _ _ e3
      cases y with
      | nx s1 =>
        obtain ⟨js1, b2⟩ := b2
        have c1 := ih s1 (jsOf (kill (env s1 js1) ks)) τ3 e
        rw [hk] at c1
        have step : forL (fun x g t => (bindT tg x g).bind fun g' => execSs cf body g' t) ks ((x :: xs).map enc) (env s0 js) τ1 = forL (fun x g t => (bindT tg x g).bind fun g' => execSs cf body g' t) ks (xs.map enc) (kill (env s1 js1) ks) τ3 := by
          rcases b2 with rfl | rfl
          · simp only [List.map_cons, forL, hg, Option.bind_some, b1]
          · simp only [List.map_cons, forL, hg, Option.bind_some, b1]
        rw [step]
        exact c1
      | bk s1 =>
        obtain ⟨js1, rfl⟩ := b2
        obtain ⟨rfl, rfl⟩ := pureM_some e
        refine ⟨jsOf (kill (env s1 js1) ks), ?_⟩
        rw [hk]
        simp only [List.map_cons, forL, hg, Option.bind_some, b1]
      | rt w1 =>
        obtain ⟨⟨d, rfl⟩, b2⟩ := b2
        obtain ⟨rfl, rfl⟩ := pureM_some e
        exact ⟨d, by simp only [List.map_cons, forL, hg, Option.bind_some, b1], b2⟩
  have kk := key xs s0 (jsOf γ) τ1 e2
  rw [h0] at kk
  cases z with
  | inl s =>
    obtain ⟨js', c1⟩ := kk
    obtain ⟨o, d1, d2⟩ := hr s js' _ _ _ q
    exact ⟨o, by simp only [execSs, execS, a1, Option.bind_some, a2, c1, d1], d2⟩
  | inr w1 =>
    obtain ⟨d, c1, c2⟩ := kk
    obtain ⟨rfl, rfl⟩ := pureM_some q
    exact ⟨_, by simp only [execSs, execS, a1, Option.bind_some, a2, c1], c2⟩
def whM {σ : Type} (c : σ → M Bool) (f : σ → M σ) : Nat → σ → M σ
  | 0, _ => failM
  | n + 1, s => c s >>= fun q => if q = true then f s >>= fun s' => whM c f n s' else pure s
def whL {σ ω : Type} (c : σ → M Bool) (f : σ → M (Fw σ ω)) : Nat → σ → M (σ ⊕ ω)
  | 0, _ => failM
  | n + 1, s => c s >>= fun q => if q = true then f s >>= fun z => match z with
      | .nx s' => whL c f n s'
      | .bk s' => pure (.inl s')
      | .rt w => pure (.inr w)
    else pure (.inl s)
def wfuel : Nat := 1000000
theorem whileL_mono {c : En → Tape → Option (Bool × Tape)} {f : En → Tape → Option Out} {ks : List Nat} : ∀ {n m : Nat} {γ : En} {τ : Tape} {o : Out}, n ≤ m → whileL c f ks n γ τ = some o → whileL c f ks m γ τ = some o
  | 0, _, _, _, _, _, h => by simp [whileL] at h
  | n + 1, m, γ, τ, o, hn, h => by
    obtain ⟨m, rfl⟩ : ∃ k, m = k + 1 := ⟨m - 1, by omega⟩
    simp only [whileL, Option.bind_eq_some_iff] at h ⊢
    obtain ⟨p, h1, h2⟩ := h
    refine ⟨p, h1, ?_⟩
    split at h2
    · rename_i hp
      rw [if_pos hp]
      obtain ⟨o1, h3, h4⟩ := Option.bind_eq_some_iff.mp h2
      refine Option.bind_eq_some_iff.mpr ⟨o1, h3, ?_⟩
      cases o1 with
      | nx g t => exact whileL_mono (by omega) h4
      | ct g t => exact whileL_mono (by omega) h4
      | bk g t => exact h4
      | rt d t => exact h4
    · rename_i hp
      rw [if_neg hp]; exact h2
theorem fuel_big : wfuel ≤ bigL := by decide
theorem S_whl {c : IE} {body : List IS} {ks : List Nat} {G : List Ty} {env : σ → J → En} {s0 : σ} {mc : σ → M Bool} {f : σ → M σ} {r : σ → M ω} (h0 : env s0 (jsOf γ) = γ)
    (hk : ∀ s js, env s (jsOf (kill (env s js) ks)) = kill (env s js) ks) (hc : ∀ s js, EC cf (env s js) c (mc s)) (hb : ∀ s js, SY cf body (env s js) (KI env) (f s)) (hr : ∀ s js, SY cf rest (env s js) K (r s)) :
    SY cf (.whl c body ks G :: rest) γ K (whM mc f wfuel s0 >>= fun s => r s) := fun τ w τ' q => by
  obtain ⟨s, τ2, e2, q⟩ := bindM_some q
  have key : ∀ (n : Nat) (s0 : σ) (js : J) (τ1 : Tape), whM mc f n s0 τ1 = some (s, τ2) → ∃ js', whileL (fun g t => tst (evalE cf c g t)) (fun g t => execSs cf body g t) ks n (env s0 js) τ1 = some (.nx (env s js') τ2) := by
    intro n
    induction n with
    | zero => intro s0 js τ1 e; cases e
    | succ n ih =>
      intro s0 js τ1 e
      obtain ⟨b, τ3, e3, e⟩ := bindM_some e
      have h3 := hc s0 js _ _ _ e3
      cases b with
      | false =>
        rw [if_neg Bool.false_ne_true] at e
        obtain ⟨rfl, rfl⟩ := pureM_some e
        exact ⟨js, by simp only [whileL, h3, Option.bind_some, Bool.false_eq_true, if_false]⟩
      | true =>
        rw [if_pos rfl] at e
        obtain ⟨s1, τ4, e4, e⟩ := bindM_some e
        obtain ⟨o, b1, js1, b2⟩ := hb s0 js _ _ _ e4
        obtain ⟨js2, c1⟩ := ih s1 (jsOf (kill (env s1 js1) ks)) τ4 e
        rw [hk] at c1
        refine ⟨js2, ?_⟩
        rcases b2 with rfl | rfl
        · simp only [whileL, h3, Option.bind_some, if_true, b1, c1]
        · simp only [whileL, h3, Option.bind_some, if_true, b1, c1]
  obtain ⟨js', c1⟩ := key wfuel s0 (jsOf γ) τ e2
  rw [h0] at c1
  obtain ⟨o, d1, d2⟩ := hr s js' _ _ _ q
  exact ⟨o, by simp only [execSs, execS, whileL_mono fuel_big c1, Option.bind_some, d1], d2⟩
theorem S_whlL {c : IE} {body : List IS} {ks : List Nat} {G : List Ty} {env : σ → J → En} {s0 : σ} {mc : σ → M Bool} {f : σ → M (Fw σ ω)} {r : σ → M ω} (h0 : env s0 (jsOf γ) = γ)
    (hk : ∀ s js, env s (jsOf (kill (env s js) ks)) = kill (env s js) ks) (hc : ∀ s js, EC cf (env s js) c (mc s)) (hb : ∀ s js, SY cf body (env s js) (KL env K) (f s)) (hr : ∀ s js, SY cf rest (env s js) K (r s)) :
    SY cf (.whl c body ks G :: rest) γ K (whL mc f wfuel s0 >>= fun z => caseS z r) := fun τ w τ' q => by
  obtain ⟨z, τ2, e2, q⟩ := bindM_some q
  have key : ∀ (n : Nat) (s0 : σ) (js : J) (τ1 : Tape), whL mc f n s0 τ1 = some (z, τ2) → (match z with
      | .inl s => ∃ js', whileL (fun g t => tst (evalE cf c g t)) (fun g t => execSs cf body g t) ks n (env s0 js) τ1 = some (.nx (env s js') τ2)
      | .inr w => ∃ d, whileL (fun g t => tst (evalE cf c g t)) (fun g t => execSs cf body g t) ks n (env s0 js) τ1 = some (.rt d τ2) ∧ K (.rt d τ2) w τ2) := by
    intro n
    induction n with
    | zero => intro s0 js τ1 e; cases e
    | succ n ih =>
      intro s0 js τ1 e
      obtain ⟨b, τ3, e3, e⟩ := bindM_some e
      have h3 := hc s0 js _ _ _ e3
      cases b with
      | false =>
        rw [if_neg Bool.false_ne_true] at e
        obtain ⟨rfl, rfl⟩ := pureM_some e
        exact ⟨js, by simp only [whileL, h3, Option.bind_some, Bool.false_eq_true, if_false]⟩
      | true =>
        rw [if_pos rfl] at e
        obtain ⟨y, τ4, e4, e⟩ := bindM_some e
        obtain ⟨o, b1, b2⟩ := hb s0 js _ _ _ e4
        cases y with
        | nx s1 =>
          obtain ⟨js1, b2⟩ := b2
          have c1 := ih s1 (jsOf (kill (env s1 js1) ks)) τ4 e
          rw [hk] at c1
          have step : whileL (fun g t => tst (evalE cf c g t)) (fun g t => execSs cf body g t) ks (n + 1) (env s0 js) τ1 = whileL (fun g t => tst (evalE cf c g t)) (fun g t => execSs cf body g t) ks n (kill (env s1 js1) ks) τ4 := by
            rcases b2 with rfl | rfl
            · simp only [whileL, h3, Option.bind_some, if_true, b1]
            · simp only [whileL, h3, Option.bind_some, if_true, b1]
          rw [step]
          exact c1
        | bk s1 =>
          obtain ⟨js1, rfl⟩ := b2
          obtain ⟨rfl, rfl⟩ := pureM_some e
          refine ⟨jsOf (kill (env s1 js1) ks), ?_⟩
          rw [hk]
          simp only [whileL, h3, Option.bind_some, if_true, b1]
        | rt w1 =>
          obtain ⟨⟨d, rfl⟩, b2⟩ := b2
          obtain ⟨rfl, rfl⟩ := pureM_some e
          exact ⟨d, by simp only [whileL, h3, Option.bind_some, if_true, b1], b2⟩
  have kk := key wfuel s0 (jsOf γ) τ e2
  rw [h0] at kk
  cases z with
  | inl s =>
    obtain ⟨js', c1⟩ := kk
    obtain ⟨o, d1, d2⟩ := hr s js' _ _ _ q
    exact ⟨o, by simp only [execSs, execS, whileL_mono fuel_big c1, Option.bind_some, d1], d2⟩
  | inr w1 =>
    obtain ⟨d, c1, c2⟩ := kk
    obtain ⟨rfl, rfl⟩ := pureM_some q
    exact ⟨_, by simp only [execSs, execS, whileL_mono fuel_big c1, Option.bind_some], c2⟩
theorem call_ok {P : Prg} {n f : Nat} {p : List Ty} {r : Ty} {nv : Nat} {b : List IS} {ds : List D} {γ0 : En} {m : M ρ} (hP : P[f]? = some (.body p r nv b)) (h : ds.map some ++ List.replicate (nv - ds.length) none = γ0) (hb : SY (callF P n) b γ0 KF m) {τ : Tape} {x : ρ} {τ' : Tape} (e : m τ = some (x, τ')) :
    callF P (n + 1) f ds τ = some (enc x, τ') := by
  obtain ⟨o, h1, h2⟩ := hb _ _ _ e
  rw [callF_body hP, runB, h, h1, Option.bind_some]
  rcases h2 with rfl | ⟨h2, g, rfl⟩
  · rfl
  · show some (PyData.none, τ') = _
    rw [← h2]
end
def C0 { ρ : Type}  [Enc ρ] (cf : CF) (f : Nat) (F : M ρ) : Prop := ∀ (_ : Unit), ∀ τ r τ', F  τ = some (r, τ') → cf f [] τ = some (enc r, τ')
theorem E_call0 { ρ : Type}  [Enc ρ] {cf : CF} {γ : En} {f : Nat} {F : M ρ}   (hf : C0 cf f F)  : EM cf γ (.call f []) (F) := fun τ y τ' q => by
  simp only [evalE, evalEs, Option.bind_some, Option.map_some]
  exact hf () _ _ _ q
def C1 {α0 ρ : Type} [Enc α0] [Enc ρ] (cf : CF) (f : Nat) (F : α0 → M ρ) : Prop := ∀ (x0 : α0), ∀ τ r τ', F x0 τ = some (r, τ') → cf f [enc x0] τ = some (enc r, τ')
theorem E_call1 {α0 ρ : Type} [Enc α0] [Enc ρ] {cf : CF} {γ : En} {f : Nat} {F : α0 → M ρ} {e0 : IE} {m0 : M α0} (hf : C1 cf f F) (h0 : EM cf γ e0 m0) : EM cf γ (.call f [e0]) (m0 >>= fun x0 => F x0) := fun τ y τ' q => by
  obtain ⟨x0, t0, q0, q⟩ := bindM_some q
  simp only [evalE, evalEs, h0 _ _ _ q0, Option.bind_some, Option.map_some]
  exact hf _ _ _ _ q
def C2 {α0 α1 ρ : Type} [Enc α0] [Enc α1] [Enc ρ] (cf : CF) (f : Nat) (F : α0 → α1 → M ρ) : Prop := ∀ (x0 : α0) (x1 : α1), ∀ τ r τ', F x0 x1 τ = some (r, τ') → cf f [enc x0, enc x1] τ = some (enc r, τ')
theorem E_call2 {α0 α1 ρ : Type} [Enc α0] [Enc α1] [Enc ρ] {cf : CF} {γ : En} {f : Nat} {F : α0 → α1 → M ρ} {e0 e1 : IE} {m0 : M α0} {m1 : M α1} (hf : C2 cf f F) (h0 : EM cf γ e0 m0) (h1 : EM cf γ e1 m1) : EM cf γ (.call f [e0, e1]) (m0 >>= fun x0 => m1 >>= fun x1 => F x0 x1) := fun τ y τ' q => by
  obtain ⟨x0, t0, q0, q⟩ := bindM_some q
  obtain ⟨x1, t1, q1, q⟩ := bindM_some q
  simp only [evalE, evalEs, h0 _ _ _ q0, h1 _ _ _ q1, Option.bind_some, Option.map_some]
  exact hf _ _ _ _ _ q
def C3 {α0 α1 α2 ρ : Type} [Enc α0] [Enc α1] [Enc α2] [Enc ρ] (cf : CF) (f : Nat) (F : α0 → α1 → α2 → M ρ) : Prop := ∀ (x0 : α0) (x1 : α1) (x2 : α2), ∀ τ r τ', F x0 x1 x2 τ = some (r, τ') → cf f [enc x0, enc x1, enc x2] τ = some (enc r, τ')
theorem E_call3 {α0 α1 α2 ρ : Type} [Enc α0] [Enc α1] [Enc α2] [Enc ρ] {cf : CF} {γ : En} {f : Nat} {F : α0 → α1 → α2 → M ρ} {e0 e1 e2 : IE} {m0 : M α0} {m1 : M α1} {m2 : M α2} (hf : C3 cf f F) (h0 : EM cf γ e0 m0) (h1 : EM cf γ e1 m1) (h2 : EM cf γ e2 m2) : EM cf γ (.call f [e0, e1, e2]) (m0 >>= fun x0 => m1 >>= fun x1 => m2 >>= fun x2 => F x0 x1 x2) := fun τ y τ' q => by
  obtain ⟨x0, t0, q0, q⟩ := bindM_some q
  obtain ⟨x1, t1, q1, q⟩ := bindM_some q
  obtain ⟨x2, t2, q2, q⟩ := bindM_some q
  simp only [evalE, evalEs, h0 _ _ _ q0, h1 _ _ _ q1, h2 _ _ _ q2, Option.bind_some, Option.map_some]
  exact hf _ _ _ _ _ _ q
def C4 {α0 α1 α2 α3 ρ : Type} [Enc α0] [Enc α1] [Enc α2] [Enc α3] [Enc ρ] (cf : CF) (f : Nat) (F : α0 → α1 → α2 → α3 → M ρ) : Prop := ∀ (x0 : α0) (x1 : α1) (x2 : α2) (x3 : α3), ∀ τ r τ', F x0 x1 x2 x3 τ = some (r, τ') → cf f [enc x0, enc x1, enc x2, enc x3] τ = some (enc r, τ')
theorem E_call4 {α0 α1 α2 α3 ρ : Type} [Enc α0] [Enc α1] [Enc α2] [Enc α3] [Enc ρ] {cf : CF} {γ : En} {f : Nat} {F : α0 → α1 → α2 → α3 → M ρ} {e0 e1 e2 e3 : IE} {m0 : M α0} {m1 : M α1} {m2 : M α2} {m3 : M α3} (hf : C4 cf f F) (h0 : EM cf γ e0 m0) (h1 : EM cf γ e1 m1) (h2 : EM cf γ e2 m2) (h3 : EM cf γ e3 m3) : EM cf γ (.call f [e0, e1, e2, e3]) (m0 >>= fun x0 => m1 >>= fun x1 => m2 >>= fun x2 => m3 >>= fun x3 => F x0 x1 x2 x3) := fun τ y τ' q => by
  obtain ⟨x0, t0, q0, q⟩ := bindM_some q
  obtain ⟨x1, t1, q1, q⟩ := bindM_some q
  obtain ⟨x2, t2, q2, q⟩ := bindM_some q
  obtain ⟨x3, t3, q3, q⟩ := bindM_some q
  simp only [evalE, evalEs, h0 _ _ _ q0, h1 _ _ _ q1, h2 _ _ _ q2, h3 _ _ _ q3, Option.bind_some, Option.map_some]
  exact hf _ _ _ _ _ _ _ q
def C5 {α0 α1 α2 α3 α4 ρ : Type} [Enc α0] [Enc α1] [Enc α2] [Enc α3] [Enc α4] [Enc ρ] (cf : CF) (f : Nat) (F : α0 → α1 → α2 → α3 → α4 → M ρ) : Prop := ∀ (x0 : α0) (x1 : α1) (x2 : α2) (x3 : α3) (x4 : α4), ∀ τ r τ', F x0 x1 x2 x3 x4 τ = some (r, τ') → cf f [enc x0, enc x1, enc x2, enc x3, enc x4] τ = some (enc r, τ')
theorem E_call5 {α0 α1 α2 α3 α4 ρ : Type} [Enc α0] [Enc α1] [Enc α2] [Enc α3] [Enc α4] [Enc ρ] {cf : CF} {γ : En} {f : Nat} {F : α0 → α1 → α2 → α3 → α4 → M ρ} {e0 e1 e2 e3 e4 : IE} {m0 : M α0} {m1 : M α1} {m2 : M α2} {m3 : M α3} {m4 : M α4} (hf : C5 cf f F) (h0 : EM cf γ e0 m0) (h1 : EM cf γ e1 m1) (h2 : EM cf γ e2 m2) (h3 : EM cf γ e3 m3) (h4 : EM cf γ e4 m4) : EM cf γ (.call f [e0, e1, e2, e3, e4]) (m0 >>= fun x0 => m1 >>= fun x1 => m2 >>= fun x2 => m3 >>= fun x3 => m4 >>= fun x4 => F x0 x1 x2 x3 x4) := fun τ y τ' q => by
  obtain ⟨x0, t0, q0, q⟩ := bindM_some q
  obtain ⟨x1, t1, q1, q⟩ := bindM_some q
  obtain ⟨x2, t2, q2, q⟩ := bindM_some q
  obtain ⟨x3, t3, q3, q⟩ := bindM_some q
  obtain ⟨x4, t4, q4, q⟩ := bindM_some q
  simp only [evalE, evalEs, h0 _ _ _ q0, h1 _ _ _ q1, h2 _ _ _ q2, h3 _ _ _ q3, h4 _ _ _ q4, Option.bind_some, Option.map_some]
  exact hf _ _ _ _ _ _ _ _ q
def C6 {α0 α1 α2 α3 α4 α5 ρ : Type} [Enc α0] [Enc α1] [Enc α2] [Enc α3] [Enc α4] [Enc α5] [Enc ρ] (cf : CF) (f : Nat) (F : α0 → α1 → α2 → α3 → α4 → α5 → M ρ) : Prop := ∀ (x0 : α0) (x1 : α1) (x2 : α2) (x3 : α3) (x4 : α4) (x5 : α5), ∀ τ r τ', F x0 x1 x2 x3 x4 x5 τ = some (r, τ') → cf f [enc x0, enc x1, enc x2, enc x3, enc x4, enc x5] τ = some (enc r, τ')
theorem E_call6 {α0 α1 α2 α3 α4 α5 ρ : Type} [Enc α0] [Enc α1] [Enc α2] [Enc α3] [Enc α4] [Enc α5] [Enc ρ] {cf : CF} {γ : En} {f : Nat} {F : α0 → α1 → α2 → α3 → α4 → α5 → M ρ} {e0 e1 e2 e3 e4 e5 : IE} {m0 : M α0} {m1 : M α1} {m2 : M α2} {m3 : M α3} {m4 : M α4} {m5 : M α5} (hf : C6 cf f F) (h0 : EM cf γ e0 m0) (h1 : EM cf γ e1 m1) (h2 : EM cf γ e2 m2) (h3 : EM cf γ e3 m3) (h4 : EM cf γ e4 m4) (h5 : EM cf γ e5 m5) : EM cf γ (.call f [e0, e1, e2, e3, e4, e5]) (m0 >>= fun x0 => m1 >>= fun x1 => m2 >>= fun x2 => m3 >>= fun x3 => m4 >>= fun x4 => m5 >>= fun x5 => F x0 x1 x2 x3 x4 x5) := fun τ y τ' q => by
  obtain ⟨x0, t0, q0, q⟩ := bindM_some q
  obtain ⟨x1, t1, q1, q⟩ := bindM_some q
  obtain ⟨x2, t2, q2, q⟩ := bindM_some q
  obtain ⟨x3, t3, q3, q⟩ := bindM_some q
  obtain ⟨x4, t4, q4, q⟩ := bindM_some q
  obtain ⟨x5, t5, q5, q⟩ := bindM_some q
  simp only [evalE, evalEs, h0 _ _ _ q0, h1 _ _ _ q1, h2 _ _ _ q2, h3 _ _ _ q3, h4 _ _ _ q4, h5 _ _ _ q5, Option.bind_some, Option.map_some]
  exact hf _ _ _ _ _ _ _ _ _ q
def C7 {α0 α1 α2 α3 α4 α5 α6 ρ : Type} [Enc α0] [Enc α1] [Enc α2] [Enc α3] [Enc α4] [Enc α5] [Enc α6] [Enc ρ] (cf : CF) (f : Nat) (F : α0 → α1 → α2 → α3 → α4 → α5 → α6 → M ρ) : Prop := ∀ (x0 : α0) (x1 : α1) (x2 : α2) (x3 : α3) (x4 : α4) (x5 : α5) (x6 : α6), ∀ τ r τ', F x0 x1 x2 x3 x4 x5 x6 τ = some (r, τ') → cf f [enc x0, enc x1, enc x2, enc x3, enc x4, enc x5, enc x6] τ = some (enc r, τ')
theorem E_call7 {α0 α1 α2 α3 α4 α5 α6 ρ : Type} [Enc α0] [Enc α1] [Enc α2] [Enc α3] [Enc α4] [Enc α5] [Enc α6] [Enc ρ] {cf : CF} {γ : En} {f : Nat} {F : α0 → α1 → α2 → α3 → α4 → α5 → α6 → M ρ} {e0 e1 e2 e3 e4 e5 e6 : IE} {m0 : M α0} {m1 : M α1} {m2 : M α2} {m3 : M α3} {m4 : M α4} {m5 : M α5} {m6 : M α6} (hf : C7 cf f F) (h0 : EM cf γ e0 m0) (h1 : EM cf γ e1 m1) (h2 : EM cf γ e2 m2) (h3 : EM cf γ e3 m3) (h4 : EM cf γ e4 m4) (h5 : EM cf γ e5 m5) (h6 : EM cf γ e6 m6) : EM cf γ (.call f [e0, e1, e2, e3, e4, e5, e6]) (m0 >>= fun x0 => m1 >>= fun x1 => m2 >>= fun x2 => m3 >>= fun x3 => m4 >>= fun x4 => m5 >>= fun x5 => m6 >>= fun x6 => F x0 x1 x2 x3 x4 x5 x6) := fun τ y τ' q => by
  obtain ⟨x0, t0, q0, q⟩ := bindM_some q
  obtain ⟨x1, t1, q1, q⟩ := bindM_some q
  obtain ⟨x2, t2, q2, q⟩ := bindM_some q
  obtain ⟨x3, t3, q3, q⟩ := bindM_some q
  obtain ⟨x4, t4, q4, q⟩ := bindM_some q
  obtain ⟨x5, t5, q5, q⟩ := bindM_some q
  obtain ⟨x6, t6, q6, q⟩ := bindM_some q
  simp only [evalE, evalEs, h0 _ _ _ q0, h1 _ _ _ q1, h2 _ _ _ q2, h3 _ _ _ q3, h4 _ _ _ q4, h5 _ _ _ q5, h6 _ _ _ q6, Option.bind_some, Option.map_some]
  exact hf _ _ _ _ _ _ _ _ _ _ q
def C8 {α0 α1 α2 α3 α4 α5 α6 α7 ρ : Type} [Enc α0] [Enc α1] [Enc α2] [Enc α3] [Enc α4] [Enc α5] [Enc α6] [Enc α7] [Enc ρ] (cf : CF) (f : Nat) (F : α0 → α1 → α2 → α3 → α4 → α5 → α6 → α7 → M ρ) : Prop := ∀ (x0 : α0) (x1 : α1) (x2 : α2) (x3 : α3) (x4 : α4) (x5 : α5) (x6 : α6) (x7 : α7), ∀ τ r τ', F x0 x1 x2 x3 x4 x5 x6 x7 τ = some (r, τ') → cf f [enc x0, enc x1, enc x2, enc x3, enc x4, enc x5, enc x6, enc x7] τ = some (enc r, τ')
theorem E_call8 {α0 α1 α2 α3 α4 α5 α6 α7 ρ : Type} [Enc α0] [Enc α1] [Enc α2] [Enc α3] [Enc α4] [Enc α5] [Enc α6] [Enc α7] [Enc ρ] {cf : CF} {γ : En} {f : Nat} {F : α0 → α1 → α2 → α3 → α4 → α5 → α6 → α7 → M ρ} {e0 e1 e2 e3 e4 e5 e6 e7 : IE} {m0 : M α0} {m1 : M α1} {m2 : M α2} {m3 : M α3} {m4 : M α4} {m5 : M α5} {m6 : M α6} {m7 : M α7} (hf : C8 cf f F) (h0 : EM cf γ e0 m0) (h1 : EM cf γ e1 m1) (h2 : EM cf γ e2 m2) (h3 : EM cf γ e3 m3) (h4 : EM cf γ e4 m4) (h5 : EM cf γ e5 m5) (h6 : EM cf γ e6 m6) (h7 : EM cf γ e7 m7) : EM cf γ (.call f [e0, e1, e2, e3, e4, e5, e6, e7]) (m0 >>= fun x0 => m1 >>= fun x1 => m2 >>= fun x2 => m3 >>= fun x3 => m4 >>= fun x4 => m5 >>= fun x5 => m6 >>= fun x6 => m7 >>= fun x7 => F x0 x1 x2 x3 x4 x5 x6 x7) := fun τ y τ' q => by
  obtain ⟨x0, t0, q0, q⟩ := bindM_some q
  obtain ⟨x1, t1, q1, q⟩ := bindM_some q
  obtain ⟨x2, t2, q2, q⟩ := bindM_some q
  obtain ⟨x3, t3, q3, q⟩ := bindM_some q
  obtain ⟨x4, t4, q4, q⟩ := bindM_some q
  obtain ⟨x5, t5, q5, q⟩ := bindM_some q
  obtain ⟨x6, t6, q6, q⟩ := bindM_some q
  obtain ⟨x7, t7, q7, q⟩ := bindM_some q
  simp only [evalE, evalEs, h0 _ _ _ q0, h1 _ _ _ q1, h2 _ _ _ q2, h3 _ _ _ q3, h4 _ _ _ q4, h5 _ _ _ q5, h6 _ _ _ q6, h7 _ _ _ q7, Option.bind_some, Option.map_some]
  exact hf _ _ _ _ _ _ _ _ _ _ _ q
def C9 {α0 α1 α2 α3 α4 α5 α6 α7 α8 ρ : Type} [Enc α0] [Enc α1] [Enc α2] [Enc α3] [Enc α4] [Enc α5] [Enc α6] [Enc α7] [Enc α8] [Enc ρ] (cf : CF) (f : Nat) (F : α0 → α1 → α2 → α3 → α4 → α5 → α6 → α7 → α8 → M ρ) : Prop := ∀ (x0 : α0) (x1 : α1) (x2 : α2) (x3 : α3) (x4 : α4) (x5 : α5) (x6 : α6) (x7 : α7) (x8 : α8), ∀ τ r τ', F x0 x1 x2 x3 x4 x5 x6 x7 x8 τ = some (r, τ') → cf f [enc x0, enc x1, enc x2, enc x3, enc x4, enc x5, enc x6, enc x7, enc x8] τ = some (enc r, τ')
theorem E_call9 {α0 α1 α2 α3 α4 α5 α6 α7 α8 ρ : Type} [Enc α0] [Enc α1] [Enc α2] [Enc α3] [Enc α4] [Enc α5] [Enc α6] [Enc α7] [Enc α8] [Enc ρ] {cf : CF} {γ : En} {f : Nat} {F : α0 → α1 → α2 → α3 → α4 → α5 → α6 → α7 → α8 → M ρ} {e0 e1 e2 e3 e4 e5 e6 e7 e8 : IE} {m0 : M α0} {m1 : M α1} {m2 : M α2} {m3 : M α3} {m4 : M α4} {m5 : M α5} {m6 : M α6} {m7 : M α7} {m8 : M α8} (hf : C9 cf f F) (h0 : EM cf γ e0 m0) (h1 : EM cf γ e1 m1) (h2 : EM cf γ e2 m2) (h3 : EM cf γ e3 m3) (h4 : EM cf γ e4 m4) (h5 : EM cf γ e5 m5) (h6 : EM cf γ e6 m6) (h7 : EM cf γ e7 m7) (h8 : EM cf γ e8 m8) : EM cf γ (.call f [e0, e1, e2, e3, e4, e5, e6, e7, e8]) (m0 >>= fun x0 => m1 >>= fun x1 => m2 >>= fun x2 => m3 >>= fun x3 => m4 >>= fun x4 => m5 >>= fun x5 => m6 >>= fun x6 => m7 >>= fun x7 => m8 >>= fun x8 => F x0 x1 x2 x3 x4 x5 x6 x7 x8) := fun τ y τ' q => by
  obtain ⟨x0, t0, q0, q⟩ := bindM_some q
  obtain ⟨x1, t1, q1, q⟩ := bindM_some q
  obtain ⟨x2, t2, q2, q⟩ := bindM_some q
  obtain ⟨x3, t3, q3, q⟩ := bindM_some q
  obtain ⟨x4, t4, q4, q⟩ := bindM_some q
  obtain ⟨x5, t5, q5, q⟩ := bindM_some q
  obtain ⟨x6, t6, q6, q⟩ := bindM_some q
  obtain ⟨x7, t7, q7, q⟩ := bindM_some q
  obtain ⟨x8, t8, q8, q⟩ := bindM_some q
  simp only [evalE, evalEs, h0 _ _ _ q0, h1 _ _ _ q1, h2 _ _ _ q2, h3 _ _ _ q3, h4 _ _ _ q4, h5 _ _ _ q5, h6 _ _ _ q6, h7 _ _ _ q7, h8 _ _ _ q8, Option.bind_some, Option.map_some]
  exact hf _ _ _ _ _ _ _ _ _ _ _ _ q
end Ev
set_option Elab.async false
set_option linter.all false
set_option maxRecDepth 100000
set_option autoImplicit false
/-! Ev43: more operators; drawing; laws of the monad's runs. -/
namespace Ev
open PySem
open Enc (enc)
open Dec (dec)
/-! ### more operators -/
theorem up_L {α : Type} [Enc α] (x : List α) : enc (x.map (fun y => (enc y : D))) = enc x := by
  show PyData.list (List.map enc (x.map enc)) = .list (x.map enc)
  rw [List.map_map]; rfl
def repL {α : Type} (x : List α) (n : Nat) : M (List α) := grd (x.length ≤ 1000 ∧ n ≤ 1000) (List.replicate n x).flatten
theorem o_repL {α : Type} [Enc α] : OB .mul (fun (x : List α) (n : Nat) => repL x n) := Op2.g fun x n h => by
  show (if (List.replicate (n : Int).toNat (x.map enc)).flatten.length ≤ sizeLine ∧ (n : Int).natAbs ≤ 1000 ∧ (x.map enc).length * (n : Int).toNat ≤ sizeLine then some (PyData.list (List.replicate (n : Int).toNat (x.map enc)).flatten) else none) = some (PyData.list ((List.replicate n x).flatten.map enc))
  have hl : x.length * n ≤ sizeLine := by rw [sz]; exact Nat.le_trans (Nat.mul_le_mul h.1 h.2) (by decide)
  rw [Int.toNat_natCast, if_pos ⟨by rw [flat_len, List.length_map, Nat.mul_comm]; exact hl, by omega, by rw [List.length_map]; exact hl⟩, flat_map]
def reprS (x : D) : Option Str := (reprD x).bind strOf
theorem o_repr : Op1 (opB1 .repr) (fun (x : D) => ofO (reprS x)) := Op1.o fun x z h => by
  unfold reprS at h
  obtain ⟨d, h1, h2⟩ := Option.bind_eq_some_iff.mp h
  show reprD x = _
  rw [h1]
  unfold strOf at h2
  split at h2
  · cases h2; rfl
  · cases h2
def insN (x : Nat) : List Nat → List Nat
  | [] => [x]
  | y :: r => if x ≤ y then x :: y :: r else y :: insN x r
def sortN : List Nat → List Nat
  | [] => []
  | x :: r => insN x (sortN r)
theorem insI_n (x : Nat) : ∀ l : List Nat, insI (x : Int) (l.map fun (n : Nat) => (n : Int)) = (insN x l).map fun (n : Nat) => (n : Int)
  | [] => rfl
  | y :: r => by
    simp only [List.map_cons, insI, insN]
    by_cases h : x ≤ y
    · rw [if_pos h, if_pos (by omega)]; rfl
    · rw [if_neg h, if_neg (by omega), List.map_cons, insI_n x r]
theorem sortI_n : ∀ l : List Nat, sortI (l.map fun (n : Nat) => (n : Int)) = (sortN l).map fun (n : Nat) => (n : Int)
  | [] => rfl
  | y :: r => by simp only [List.map_cons, sortI, sortN, sortI_n r, insI_n]
theorem o_sortN : Op1 (opB1 .sorted) (fun (x : List Nat) => pure (sortN x)) := Op1.p fun x => by
  show ((intsOf (x.map enc)).map fun ns => PyData.list ((sortI ns).map .int)) = _
  rw [ints_nn, Option.map_some, sortI_n, List.map_map]
  rfl
def insUN (x : Nat) : List Nat → List Nat
  | [] => [x]
  | y :: r => if x < y then x :: y :: r else if x = y then y :: r else y :: insUN x r
/-- each once, ascending -/
def uniqN : List Nat → List Nat
  | [] => []
  | x :: r => insUN x (uniqN r)
theorem insU_n (x : Nat) : ∀ l : List Nat, insU (x : Int) (l.map fun (n : Nat) => (n : Int)) = (insUN x l).map fun (n : Nat) => (n : Int)
  | [] => rfl
  | y :: r => by
    simp only [List.map_cons, insU, insUN]
    by_cases h : x < y
    · rw [if_pos h, if_pos (by omega)]; rfl
    · rw [if_neg h, if_neg (by omega)]
      by_cases h2 : x = y
      · rw [if_pos h2, if_pos (by omega)]; rfl
      · rw [if_neg h2, if_neg (by omega), List.map_cons, insU_n x r]
theorem usort_n : ∀ l : List Nat, usort (l.map fun (n : Nat) => (n : Int)) = (uniqN l).map fun (n : Nat) => (n : Int)
  | [] => rfl
  | y :: r => by simp only [List.map_cons, usort, uniqN, usort_n r, insU_n]
def usortN (x : List Nat) : M (List Nat) := grd (x.length < 64) (uniqN x)
def ulenN (x : List Nat) : M Nat := grd (x.length ≤ 4000) (uniqN x).length
theorem usortN_ok {x : List Nat} (h : x.length < 64) : usortN x = pure (uniqN x) := grd_ok h _
theorem ulenN_ok {x : List Nat} (h : x.length ≤ 4000) : ulenN x = pure (uniqN x).length := grd_ok h _
theorem o_ssetN : Op1 (opB1 .sset) (fun (x : List Nat) => usortN x) := Op1.g fun x h => by
  show ((intsOf (x.map enc)).bind fun ns => if ns.length < 64 then some (PyData.list ((usort ns).map .int)) else none) = _
  rw [ints_nn, Option.bind_some, if_pos (by rw [List.length_map]; exact h), usort_n, List.map_map]
  rfl
theorem o_lsetN : Op1 (opB1 .lset) (fun (x : List Nat) => ulenN x) := Op1.g fun x h => by
  show ((intsOf (x.map enc)).bind fun ns => if ns.length ≤ 4000 then some (PyData.int ((usort ns).length : Nat)) else none) = _
  rw [ints_nn, Option.bind_some, if_pos (by rw [List.length_map]; exact h), usort_n, List.length_map]
  rfl
theorem insUN_mem {x z : Nat} : ∀ {l : List Nat}, z ∈ insUN x l ↔ z = x ∨ z ∈ l
  | [] => by simp [insUN]
  | y :: r => by
    unfold insUN
    split
    · simp
    · split
      · rename_i h; subst h; simp
      · simp only [List.mem_cons, insUN_mem (l := r)]
        constructor
        · rintro (h | h | h)
          · exact .inr (.inl h)
          · exact .inl h
          · exact .inr (.inr h)
        · rintro (h | h | h)
          · exact .inr (.inl h)
          · exact .inl h
          · exact .inr (.inr h)
theorem uniqN_mem {z : Nat} : ∀ {l : List Nat}, z ∈ uniqN l ↔ z ∈ l
  | [] => by simp [uniqN]
  | x :: r => by rw [uniqN, insUN_mem, uniqN_mem, List.mem_cons]
def un2 {α : Type} : List α → Option (α × α)
  | [a, b] => some (a, b)
  | _ => none
def un3 {α : Type} : List α → Option (α × α × α)
  | [a, b, c] => some (a, b, c)
  | _ => none
def un4 {α : Type} : List α → Option (α × α × α × α)
  | [a, b, c, d] => some (a, b, c, d)
  | _ => none
theorem un2_s {α : Type} {l : List α} {y : α × α} (h : un2 l = some y) : l = [y.1, y.2] := by
  unfold un2 at h; split at h
  · cases h; rfl
  · cases h
theorem un3_s {α : Type} {l : List α} {y : α × α × α} (h : un3 l = some y) : l = [y.1, y.2.1, y.2.2] := by
  unfold un3 at h; split at h
  · cases h; rfl
  · cases h
theorem un4_s {α : Type} {l : List α} {y : α × α × α × α} (h : un4 l = some y) : l = [y.1, y.2.1, y.2.2.1, y.2.2.2] := by
  unfold un4 at h; split at h
  · cases h; rfl
  · cases h
/-! ### drawing -/
def irTake : List IS := [.cget 2 0 1, .set (.n 3) (.bin .mod (.stx 0 0) (.clen 2)), .set (.n 4) (.cix 2 (.v 3)), .ite (.cmp .ge (.v 4) (.c (.int 1000000000000000000))) [.cset 2 (.v 3) (.bin .fdiv (.v 4) (.v 1)), .ret (.bin .mod (.v 4) (.v 1))] [], .sset 0 0 (.bin .add (.stx 0 0) (.c (.int 1))), .set (.n 5) (.bin .mod (.b1 .int (.bin .add (.bin .mul (.v 4) (.c (.int 48271))) (.bin .mul (.stx 0 0) (.c (.int 69621))))) (.c (.int 2147483647))), .set (.n 5) (.bin .mod (.b1 .int (.bin .add (.bin .mul (.v 5) (.c (.int 16807))) (.bin .mul (.stx 0 0) (.c (.int 7919))))) (.c (.int 1000000007))), .ret (.bin .mod (.bin .fdiv (.v 5) (.c (.int 7))) (.v 1))]
def cf0 : CF := fun _ _ _ => none
def takeM (n : Nat) : M Nat := fun τ => (runB cf0 6 irTake [.none, nI n] τ).bind fun p => (natD p.1).map (·, p.2)
theorem take_any (cf : CF) (n : Nat) (τ : Tape) : runB cf 6 irTake [.none, nI n] τ = runB cf0 6 irTake [.none, nI n] τ := by
  simp only [runB, irTake, execSs, execS, evalE, evalEs]
theorem take_call {P : Prg} {i : Nat} {p : List Ty} {r : Ty} (hP : P[i]? = some (.body p r 6 irTake)) (N : Nat) (h : 1 ≤ N) : C2 (callF P N) i (fun (_ : Unit) (n : Nat) => takeM n) := fun u n τ x τ' e => by
  obtain ⟨N, rfl⟩ : ∃ k, N = k + 1 := ⟨N - 1, by omega⟩
  rw [callF_body hP]
  show runB (callF P N) 6 irTake [.none, nI n] τ = _
  rw [take_any]
  obtain ⟨⟨d, t⟩, h1, h2⟩ := Option.bind_eq_some_iff.mp e
  obtain ⟨y, h3, h4⟩ := Option.map_eq_some_iff.mp h2
  cases h4
  rw [h1]
  have := Dec.dec_ok (α := Nat) d x h3
  rw [this]
def tpe (c : Nat) (cs : List Nat) : Tape := some [nI c, .list (cs.map nI)]
/-- the drawing state is one -/
def TP (τ : Tape) : Prop := ∃ c cs, τ = tpe c cs ∧ cs ≠ []
section
variable (cf : CF) (γ : En) (c : Nat) (cs : List Nat)
theorem t_stx (i : Nat) : evalE cf (.stx i 0) γ (tpe c cs) = some (nI c, tpe c cs) := by simp only [evalE]; rfl
theorem t_cells : tapeCells (tpe c cs) = some (cs.map nI) := rfl
theorem t_clen (i : Nat) : evalE cf (.clen i) γ (tpe c cs) = some (nI cs.length, tpe c cs) := by
  simp only [evalE, t_cells, Option.map_some, List.length_map]
  rfl
theorem t_cget (j i : Nat) : execS cf (.cget j i 1) γ (tpe c cs) = some (.nx (γ.set j (some .none)) (tpe c cs)) := by simp only [execS]; rfl
variable {cf γ c cs}
theorem t_cix {i a : Nat} {e : IE} (h : evalE cf e γ (tpe c cs) = some (nI a, tpe c cs)) (ha : a < cs.length) : evalE cf (.cix i e) γ (tpe c cs) = some (nI (cs.getD a 0), tpe c cs) := by
  simp only [evalE, h, Option.bind_some, t_cells]
  have e : opIx (.list (cs.map nI)) (nI a) = some (nI (cs.getD a 0)) := by
    simp only [opIx, nI]
    rw [L2.atI_nat (j := a) (v := nI cs[a]) (by rw [List.getElem?_map, List.getElem?_eq_getElem ha]; rfl)]
    rw [List.getD_eq_getElem?_getD, List.getElem?_eq_getElem ha]
    rfl
  rw [e]
  rfl
theorem t_sset {i v : Nat} {e : IE} (h : evalE cf e γ (tpe c cs) = some (nI v, tpe c cs)) : execS cf (.sset i 0 e) γ (tpe c cs) = some (.nx γ (tpe v cs)) := by
  simp only [execS, h, Option.bind_some]
  rfl
theorem t_cset {i a v : Nat} {e k : IE} (h : evalE cf e γ (tpe c cs) = some (nI v, tpe c cs)) (hk : evalE cf k γ (tpe c cs) = some (nI a, tpe c cs)) (ha : a < cs.length) : execS cf (.cset i k e) γ (tpe c cs) = some (.nx γ (tpe c (cs.set a v))) := by
  simp only [execS, h, Option.bind_some, hk, t_cells]
  have e1 : L2.ixN (cs.map nI).length (a : Int) = some a := by
    unfold L2.ixN
    rw [List.length_map]
    simp
    omega
  show (Option.bind (some [nI c, .list (cs.map nI)]) fun l => _) = _
  simp only [Option.bind_some, intOf, nI, List.length_map] at e1 ⊢
  rw [e1]
  simp only [Option.map_some, setCells, List.map_cons, List.map_nil, isListD, Option.isSome_none, Option.isSome_some, if_true, if_false, tpe, nI, List.map_set]
  rfl
end
theorem mod_n (a b : Nat) (h : 0 < b) : opBin .mod (nI a) (nI b) = some (nI (a % b)) := by
  simp only [opBin, opMod, nI]
  rw [if_pos (by omega)]
  push_cast
  rfl
theorem div_n (a b : Nat) (h : 0 < b) (h2 : b ≤ 1000) : opBin .fdiv (nI a) (nI b) = some (nI (a / b)) := by
  simp only [opBin, opDiv, nI]
  rw [if_pos ⟨by omega, by omega⟩]
  push_cast
  rfl
theorem mul_c (a b : Nat) (h : b < 18446744073709551616) : opBin .mul (nI a) (nI b) = some (nI (a * b)) := by
  simp only [opBin, opMul, opMulI, nI]
  rw [if_pos (.inr (by omega))]
  push_cast
  rfl
theorem k1 (a : Nat) : opBin .mul (nI a) (.int 48271) = some (nI (a * 48271)) := mul_c a 48271 (by decide)
theorem k2 (a : Nat) : opBin .mul (nI a) (.int 69621) = some (nI (a * 69621)) := mul_c a 69621 (by decide)
theorem k3 (a : Nat) : opBin .mul (nI a) (.int 16807) = some (nI (a * 16807)) := mul_c a 16807 (by decide)
theorem k4 (a : Nat) : opBin .mul (nI a) (.int 7919) = some (nI (a * 7919)) := mul_c a 7919 (by decide)
theorem k5 (a : Nat) : opBin .mod (nI a) (.int 2147483647) = some (nI (a % 2147483647)) := mod_n a 2147483647 (by decide)
theorem k6 (a : Nat) : opBin .mod (nI a) (.int 1000000007) = some (nI (a % 1000000007)) := mod_n a 1000000007 (by decide)
theorem k7 (a : Nat) : opBin .fdiv (nI a) (.int 7) = some (nI (a / 7)) := div_n a 7 (by decide) (by decide)
theorem k8 (a : Nat) : opBin .add (nI a) (.int 1) = some (nI (a + 1)) := add_n a 1
theorem kint (a : Nat) : opB1 .int (nI a) = some (nI a) := rfl
theorem kge (a : Nat) : cB .ge (nI a) (.int 1000000000000000000) = some (.bool (decide (1000000000000000000 ≤ a))) := by
  simp only [cB, opCmp, cInt, nI, Option.map_some]
  congr 2
  rw [decide_eq_decide]
  omega
theorem take_run (most : Nat) (h0 : 0 < most) (h1 : most ≤ 1000) {τ : Tape} (h : TP τ) : ∃ v τ', runB cf0 6 irTake [.none, nI most] τ = some (nI v, τ') ∧ v < most ∧ TP τ' := by
  obtain ⟨c, cs, rfl, hc⟩ := h
  have hl : 0 < cs.length := List.length_pos_iff.mpr hc
  have ha : c % cs.length < cs.length := Nat.mod_lt _ hl
  have g : ∀ x4 x5, evalE cf0 (.cix 2 (.v 3)) [some .none, some (nI most), some .none, some (nI (c % cs.length)), x4, x5] (tpe c cs) = some (nI (cs.getD (c % cs.length) 0), tpe c cs) := fun x4 x5 => t_cix (by simp only [runB_eq, x_nil, x_cons, x_set, x_own, x_par, x_ret, x_ite, x_frz, e_v, e_c, e_yes, e_tup, e_lst, e_bin, e_cmp, e_isN, e_notN, e_and, e_or, e_not, e_ite, e_ix, e_slT, e_b1, e_b2, e_call, e_nil, e_cons, lft_some, un1_some, bi2_some, tB1_some, pk_t, pk_f, anK_t, anK_f, orK_t, orK_f, notK_some, csK_some, csM_some, mk1_some, clK_some, thS_nx, thS_rt, stG_some, nxT_some, rtG_some, bG_n, bG_t, bG_l, bsG_some, bs_nil, bs_cons, pr2_some, pr1_some, enR_rt, enR_nx, rd, List.map_cons, List.map_nil, List.length_cons, List.length_nil, Nat.reduceAdd, Nat.reduceSub, List.replicate, List.cons_append, List.nil_append, List.set_cons_zero, List.set_cons_succ, List.getD_cons_zero, List.getD_cons_succ]) ha
  by_cases q : 1000000000000000000 ≤ cs.getD (c % cs.length) 0
  · have s := fun x5 => t_cset (cf := cf0) (γ := [some .none, some (nI most), some .none, some (nI (c % cs.length)), some (nI (cs.getD (c % cs.length) 0)), x5]) (c := c) (cs := cs) (i := 2) (a := c % cs.length) (v := cs.getD (c % cs.length) 0 / most) (e := .bin .fdiv (.v 4) (.v 1)) (k := .v 3) (by simp only [runB_eq, x_nil, x_cons, x_set, x_own, x_par, x_ret, x_ite, x_frz, e_v, e_c, e_yes, e_tup, e_lst, e_bin, e_cmp, e_isN, e_notN, e_and, e_or, e_not, e_ite, e_ix, e_slT, e_b1, e_b2, e_call, e_nil, e_cons, lft_some, un1_some, bi2_some, tB1_some, pk_t, pk_f, anK_t, anK_f, orK_t, orK_f, notK_some, csK_some, csM_some, mk1_some, clK_some, thS_nx, thS_rt, stG_some, nxT_some, rtG_some, bG_n, bG_t, bG_l, bsG_some, bs_nil, bs_cons, pr2_some, pr1_some, enR_rt, enR_nx, rd, List.map_cons, List.map_nil, List.length_cons, List.length_nil, Nat.reduceAdd, Nat.reduceSub, List.replicate, List.cons_append, List.nil_append, List.set_cons_zero, List.set_cons_succ, List.getD_cons_zero, List.getD_cons_succ, div_n _ _ h0 h1]) (by simp only [runB_eq, x_nil, x_cons, x_set, x_own, x_par, x_ret, x_ite, x_frz, e_v, e_c, e_yes, e_tup, e_lst, e_bin, e_cmp, e_isN, e_notN, e_and, e_or, e_not, e_ite, e_ix, e_slT, e_b1, e_b2, e_call, e_nil, e_cons, lft_some, un1_some, bi2_some, tB1_some, pk_t, pk_f, anK_t, anK_f, orK_t, orK_f, notK_some, csK_some, csM_some, mk1_some, clK_some, thS_nx, thS_rt, stG_some, nxT_some, rtG_some, bG_n, bG_t, bG_l, bsG_some, bs_nil, bs_cons, pr2_some, pr1_some, enR_rt, enR_nx, rd, List.map_cons, List.map_nil, List.length_cons, List.length_nil, Nat.reduceAdd, Nat.reduceSub, List.replicate, List.cons_append, List.nil_append, List.set_cons_zero, List.set_cons_succ, List.getD_cons_zero, List.getD_cons_succ]) ha
    refine ⟨cs.getD (c % cs.length) 0 % most, tpe c (cs.set (c % cs.length) (cs.getD (c % cs.length) 0 / most)), ?_, Nat.mod_lt _ h0, _, _, rfl, fun z => hc (List.length_eq_zero_iff.mp (by rw [← List.length_set (as := cs), z]; rfl))⟩
    simp only [irTake, runB_eq, x_nil, x_cons, x_set, x_own, x_par, x_ret, x_ite, x_frz, e_v, e_c, e_yes, e_tup, e_lst, e_bin, e_cmp, e_isN, e_notN, e_and, e_or, e_not, e_ite, e_ix, e_slT, e_b1, e_b2, e_call, e_nil, e_cons, lft_some, un1_some, bi2_some, tB1_some, pk_t, pk_f, anK_t, anK_f, orK_t, orK_f, notK_some, csK_some, csM_some, mk1_some, clK_some, thS_nx, thS_rt, stG_some, nxT_some, rtG_some, bG_n, bG_t, bG_l, bsG_some, bs_nil, bs_cons, pr2_some, pr1_some, enR_rt, enR_nx, rd, List.map_cons, List.map_nil, List.length_cons, List.length_nil, Nat.reduceAdd, Nat.reduceSub, List.replicate, List.cons_append, List.nil_append, List.set_cons_zero, List.set_cons_succ, List.getD_cons_zero, List.getD_cons_succ, t_cget, t_stx, t_clen, mod_n _ _ hl, g, kge, decide_eq_true q, s, mod_n _ _ h0]
  · have q2 : decide (1000000000000000000 ≤ cs.getD (c % cs.length) 0) = false := decide_eq_false q
    have s := fun x5 => t_sset (cf := cf0) (γ := [some .none, some (nI most), some .none, some (nI (c % cs.length)), some (nI (cs.getD (c % cs.length) 0)), x5]) (c := c) (cs := cs) (i := 0) (v := c + 1) (e := .bin .add (.stx 0 0) (.c (.int 1))) (by simp only [runB_eq, x_nil, x_cons, x_set, x_own, x_par, x_ret, x_ite, x_frz, e_v, e_c, e_yes, e_tup, e_lst, e_bin, e_cmp, e_isN, e_notN, e_and, e_or, e_not, e_ite, e_ix, e_slT, e_b1, e_b2, e_call, e_nil, e_cons, lft_some, un1_some, bi2_some, tB1_some, pk_t, pk_f, anK_t, anK_f, orK_t, orK_f, notK_some, csK_some, csM_some, mk1_some, clK_some, thS_nx, thS_rt, stG_some, nxT_some, rtG_some, bG_n, bG_t, bG_l, bsG_some, bs_nil, bs_cons, pr2_some, pr1_some, enR_rt, enR_nx, rd, List.map_cons, List.map_nil, List.length_cons, List.length_nil, Nat.reduceAdd, Nat.reduceSub, List.replicate, List.cons_append, List.nil_append, List.set_cons_zero, List.set_cons_succ, List.getD_cons_zero, List.getD_cons_succ, t_stx, k8])
    refine ⟨(((cs.getD (c % cs.length) 0 * 48271 + (c + 1) * 69621) % 2147483647 * 16807 + (c + 1) * 7919) % 1000000007 / 7) % most, tpe (c + 1) cs, ?_, Nat.mod_lt _ h0, _, _, rfl, hc⟩
    · simp only [irTake, runB_eq, x_nil, x_cons, x_set, x_own, x_par, x_ret, x_ite, x_frz, e_v, e_c, e_yes, e_tup, e_lst, e_bin, e_cmp, e_isN, e_notN, e_and, e_or, e_not, e_ite, e_ix, e_slT, e_b1, e_b2, e_call, e_nil, e_cons, lft_some, un1_some, bi2_some, tB1_some, pk_t, pk_f, anK_t, anK_f, orK_t, orK_f, notK_some, csK_some, csM_some, mk1_some, clK_some, thS_nx, thS_rt, stG_some, nxT_some, rtG_some, bG_n, bG_t, bG_l, bsG_some, bs_nil, bs_cons, pr2_some, pr1_some, enR_rt, enR_nx, rd, List.map_cons, List.map_nil, List.length_cons, List.length_nil, Nat.reduceAdd, Nat.reduceSub, List.replicate, List.cons_append, List.nil_append, List.set_cons_zero, List.set_cons_succ, List.getD_cons_zero, List.getD_cons_succ, t_cget, t_stx, t_clen, mod_n _ _ hl, g, kge, q2, s, k1, k2, k3, k4, k5, k6, k7, kint, add_n, mod_n _ _ h0]
theorem takeM_ok (n : Nat) (h0 : 0 < n) (h1 : n ≤ 1000) {τ : Tape} (h : TP τ) : ∃ v τ', takeM n τ = some (v, τ') ∧ TP τ' ∧ v < n := by
  obtain ⟨v, τ', e, hv, ht⟩ := take_run n h0 h1 h
  refine ⟨v, τ', ?_, ht, hv⟩
  unfold takeM
  rw [e]; rfl
theorem tape0_ok (ns : List Int) : TP (some (tape0 ns)) := by
  by_cases h : ns.length = 0
  · refine ⟨0, [0], ?_, by simp⟩
    unfold tape0 cellsOf
    rw [if_pos h]
    rfl
  · refine ⟨0, ns.map Int.natAbs, ?_, by simpa using h⟩
    unfold tape0 cellsOf tpe
    rw [if_neg h]
    congr 3
    rw [List.map_map, List.map_map]
    congr 1
    apply List.map_congr_left
    intro i _
    simp only [Function.comp, nI, absI]
    congr 1
    split <;> omega
/-! ### what a run ends in, whatever is drawn -/
def WP {α : Type} (m : M α) (Q : α → Prop) : Prop := ∀ τ, TP τ → ∃ x τ', m τ = some (x, τ') ∧ TP τ' ∧ Q x
section
variable {α β σ ω : Type}
theorem wp_pure {x : α} {Q : α → Prop} (h : Q x) : WP (pure x : M α) Q := fun τ ht => ⟨x, τ, rfl, ht, h⟩
theorem wp_bind {m : M α} {f : α → M β} {Q : α → Prop} {R : β → Prop} (h : WP m Q) (hf : ∀ x, Q x → WP (f x) R) : WP (m >>= f) R := fun τ ht => by
  obtain ⟨x, τ1, e, t1, q⟩ := h τ ht
  obtain ⟨y, τ2, e2, t2, r⟩ := hf x q τ1 t1
  exact ⟨y, τ2, by rw [bind_app, e]; exact e2, t2, r⟩
theorem wp_mono {m : M α} {Q R : α → Prop} (h : WP m Q) (hr : ∀ x, Q x → R x) : WP m R := fun τ ht => by
  obtain ⟨x, τ1, e, t1, q⟩ := h τ ht
  exact ⟨x, τ1, e, t1, hr x q⟩
theorem wp_take {n : Nat} (h0 : 0 < n) (h1 : n ≤ 1000) : WP (takeM n) (· < n) := fun τ ht => takeM_ok n h0 h1 ht
theorem wp_takeK {n : Nat} {f : Nat → M β} {R : β → Prop} (h0 : 0 < n) (h1 : n ≤ 1000) (hf : ∀ x, x < n → WP (f x) R) : WP (takeM n >>= f) R := wp_bind (wp_take h0 h1) hf
theorem wp_eq {m : M α} {x : α} {Q : α → Prop} (e : m = pure x) (h : Q x) : WP m Q := by rw [e]; exact wp_pure h
theorem wp_mapL {f : α → M β} {Q : α → β → Prop} : ∀ {xs : List α}, (∀ x ∈ xs, WP (f x) (Q x)) → WP (mapL f xs) (fun ys => ys.length = xs.length ∧ ∀ (i : Nat) x y, xs[i]? = some x → ys[i]? = some y → Q x y)
  | [], _ => wp_pure ⟨rfl, fun i x y h _ => by simp at h⟩
  | x :: xs, h => wp_bind (h x List.mem_cons_self) fun y hy => wp_bind (wp_mapL fun z hz => h z (List.mem_cons_of_mem _ hz)) fun ys ⟨h1, h2⟩ => wp_pure ⟨by simp [h1], fun i a b ha hb => by
      cases i with
      | zero =>
        simp only [List.getElem?_cons_zero, Option.some.injEq] at ha hb
        subst ha; subst hb; exact hy
      | succ i =>
        simp only [List.getElem?_cons_succ] at ha hb
        exact h2 i a b ha hb⟩
/-- items alike -/
theorem wp_mapL1 {f : α → M β} {Q : β → Prop} {xs : List α} (h : ∀ x ∈ xs, WP (f x) Q) : WP (Ev.mapL f xs) (fun ys => ys.length = xs.length ∧ ∀ y ∈ ys, Q y) :=
  wp_mono (wp_mapL (Q := fun _ y => Q y) h) fun ys ⟨h1, h2⟩ => ⟨h1, fun y hy => by
    obtain ⟨i, hi, e⟩ := List.getElem_of_mem hy
    have e2 : ys[i]? = some y := by rw [List.getElem?_eq_getElem hi, e]
    have e3 : xs[i]? = some (xs[i]'(by omega)) := List.getElem?_eq_getElem (by omega)
    exact h2 i _ y e3 e2⟩
theorem wp_filL {c : α → M Bool} {f : α → M β} {Q : β → Prop} : ∀ {xs : List α}, (∀ x ∈ xs, WP (c x) fun _ => True) → (∀ x ∈ xs, WP (f x) Q) → WP (filL c f xs) (fun ys => ys.length ≤ xs.length ∧ ∀ y ∈ ys, Q y)
  | [], _, _ => wp_pure ⟨Nat.le_refl _, fun _ h => (List.not_mem_nil h).elim⟩
  | x :: xs, hc, h => wp_bind (hc x List.mem_cons_self) fun q _ => by
    have rest := wp_filL (Q := Q) (xs := xs) (fun z hz => hc z (List.mem_cons_of_mem _ hz)) (fun z hz => h z (List.mem_cons_of_mem _ hz))
    cases q with
    | true =>
      rw [if_pos rfl]
      exact wp_bind (h x List.mem_cons_self) fun y hy => wp_bind rest fun ys ⟨h1, h2⟩ => wp_pure ⟨by simp; omega, fun z hz => by
        rcases List.mem_cons.mp hz with rfl | hz
        · exact hy
        · exact h2 z hz⟩
    | false =>
      rw [if_neg Bool.false_ne_true]
      exact wp_mono rest fun ys ⟨h1, h2⟩ => ⟨by simp; omega, h2⟩
theorem wp_foldL {f : σ → α → M σ} (T : List α) (I : List α → σ → Prop) (h : ∀ pre x q s, T = pre ++ x :: q → I pre s → WP (f s x) (fun s' => I (pre ++ [x]) s')) : ∀ {xs pre : List α} {s : σ}, T = pre ++ xs → I pre s → WP (foldL f s xs) (fun s' => I T s')
  | [], pre, s, e, hi => wp_pure (by rw [e, List.append_nil]; exact hi)
  | x :: xs, pre, s, e, hi => wp_bind (h pre x xs s e hi) fun s' hs => wp_foldL T I h (pre := pre ++ [x]) (by rw [e, List.append_assoc]; rfl) hs
theorem wp_fold {f : σ → α → M σ} {xs : List α} {s : σ} (I : List α → σ → Prop) (h0 : I [] s) (h : ∀ pre x q s, xs = pre ++ x :: q → I pre s → WP (f s x) (fun s' => I (pre ++ [x]) s')) : WP (Ev.foldL f s xs) (fun s' => I xs s') := wp_foldL xs I h (pre := []) rfl h0
/-- .. by its turns' number alone -/
theorem wp_loop {f : σ → α → M (Fw σ ω)} (T : List α) (I : List α → σ → Prop) (R : σ ⊕ ω → Prop) (hend : ∀ s, I T s → R (.inl s)) (h : ∀ pre x q s, T = pre ++ x :: q → I pre s → WP (f s x) (fun z => match z with | .nx s' => I (pre ++ [x]) s' | .bk s' => R (.inl s') | .rt w => R (.inr w))) : ∀ {xs pre : List α} {s : σ}, T = pre ++ xs → I pre s → WP (loopL f s xs) R
  | [], pre, s, e, hi => wp_pure (hend s (by rw [e, List.append_nil]; exact hi))
  | x :: xs, pre, s, e, hi => wp_bind (h pre x xs s e hi) fun z hz => by
    cases z with
    | nx s' => exact wp_loop T I R hend h (pre := pre ++ [x]) (by rw [e, List.append_assoc]; rfl) hz
    | bk s' => exact wp_pure hz
    | rt w => exact wp_pure hz
theorem wp_loop0 {f : σ → α → M (Fw σ ω)} {xs : List α} {s : σ} (I : List α → σ → Prop) (R : σ ⊕ ω → Prop) (h0 : I [] s) (hend : ∀ s, I xs s → R (.inl s)) (h : ∀ pre x q s, xs = pre ++ x :: q → I pre s → WP (f s x) (fun z => match z with | .nx s' => I (pre ++ [x]) s' | .bk s' => R (.inl s') | .rt w => R (.inr w))) : WP (loopL f s xs) R := wp_loop xs I R hend h (pre := []) rfl h0
end
/-! ### pure runs -/
section
variable {α β σ ω : Type}
theorem mapL_eq {f : α → M β} {g : α → β} : ∀ {xs : List α}, (∀ x ∈ xs, f x = pure (g x)) → mapL f xs = pure (xs.map g)
  | [], _ => rfl
  | x :: xs, h => by
    rw [mapL, h x List.mem_cons_self, pb, mapL_eq fun z hz => h z (List.mem_cons_of_mem _ hz), pb]; rfl
@[simp] theorem mapL_p (g : α → β) (xs : List α) : mapL (fun x => (pure (g x) : M β)) xs = pure (xs.map g) := mapL_eq fun _ _ => rfl
theorem filL_eq {c : α → M Bool} {f : α → M β} {p : α → Bool} {g : α → β} : ∀ {xs : List α}, (∀ x ∈ xs, c x = pure (p x)) → (∀ x ∈ xs, p x = true → f x = pure (g x)) → filL c f xs = pure ((xs.filter p).map g)
  | [], _, _ => rfl
  | x :: xs, hc, h => by
    have ih := filL_eq (xs := xs) (fun z hz => hc z (List.mem_cons_of_mem _ hz)) (fun z hz => h z (List.mem_cons_of_mem _ hz))
    rw [filL, hc x List.mem_cons_self, pb, List.filter_cons]
    by_cases q : p x = true
    · rw [if_pos q, if_pos q, h x List.mem_cons_self q, pb, ih, pb]; rfl
    · rw [if_neg q, if_neg q, ih]
@[simp] theorem filL_p (p : α → Bool) (g : α → β) (xs : List α) : filL (fun x => (pure (p x) : M Bool)) (fun x => (pure (g x) : M β)) xs = pure ((xs.filter p).map g) := filL_eq (fun _ _ => rfl) fun _ _ _ => rfl
theorem flaL_eq {f : α → M (List β)} {g : α → List β} : ∀ {xs : List α}, (∀ x ∈ xs, f x = pure (g x)) → flaL f xs = pure (xs.flatMap g)
  | [], _ => rfl
  | x :: xs, h => by
    rw [flaL, h x List.mem_cons_self, pb, flaL_eq fun z hz => h z (List.mem_cons_of_mem _ hz), pb]; rfl
@[simp] theorem flaL_p (g : α → List β) (xs : List α) : flaL (fun x => (pure (g x) : M (List β))) xs = pure (xs.flatMap g) := flaL_eq fun _ _ => rfl
theorem foldL_eq {f : σ → α → M σ} {g : σ → α → σ} (I : σ → Prop) : ∀ {xs : List α} {s : σ}, I s → (∀ s x, x ∈ xs → I s → f s x = pure (g s x) ∧ I (g s x)) → foldL f s xs = pure (xs.foldl g s)
  | [], _, _, _ => rfl
  | x :: xs, s, hi, h => by
    obtain ⟨h1, h2⟩ := h s x List.mem_cons_self hi
    rw [foldL, h1, pb, foldL_eq I h2 fun s z hz => h s z (List.mem_cons_of_mem _ hz)]; rfl
@[simp] theorem foldL_p (g : σ → α → σ) (s : σ) : ∀ (xs : List α), foldL (fun s x => (pure (g s x) : M σ)) s xs = pure (xs.foldl g s) := fun xs => foldL_eq (fun _ => True) trivial fun _ _ _ _ => ⟨rfl, trivial⟩
/-- .. with what has been walked -/
theorem foldL_pre {f : σ → α → M σ} (T : List α) (S : List α → σ) (h : ∀ pre x q, T = pre ++ x :: q → f (S pre) x = pure (S (pre ++ [x]))) : ∀ {xs pre : List α}, T = pre ++ xs → foldL f (S pre) xs = pure (S T)
  | [], pre, e => by rw [e, List.append_nil]; rfl
  | x :: xs, pre, e => by
    rw [foldL, h pre x xs e, pb, foldL_pre T S h (pre := pre ++ [x]) (by rw [e, List.append_assoc]; rfl)]
theorem foldL_S {f : σ → α → M σ} {xs : List α} {s : σ} (S : List α → σ) (h0 : S [] = s) (h : ∀ pre x q, xs = pre ++ x :: q → f (S pre) x = pure (S (pre ++ [x]))) : foldL f s xs = pure (S xs) := by
  rw [← h0]; exact foldL_pre xs S h (pre := []) rfl
/-- a loop that goes out at the first hit, no state -/
theorem loopL_find {f : Unit → α → M (Fw Unit ω)} {p : α → Bool} {r : α → ω} : ∀ {xs : List α}, (∀ x ∈ xs, f () x = if p x = true then pure (.rt (r x)) else pure (.nx ())) → loopL f () xs = pure (match xs.find? p with | some x => .inr (r x) | none => .inl ())
  | [], _ => rfl
  | x :: xs, h => by
    rw [loopL, h x List.mem_cons_self, List.find?_cons]
    cases q : p x with
    | true => rfl
    | false =>
      rw [if_neg Bool.false_ne_true, pb]
      exact loopL_find fun z hz => h z (List.mem_cons_of_mem _ hz)
/-- .. at the first result -/
theorem loopL_some {f : Unit → α → M (Fw Unit ω)} {r : α → Option ω} : ∀ {xs : List α}, (∀ x ∈ xs, f () x = match r x with | some w => pure (.rt w) | none => pure (.nx ())) → loopL f () xs = pure (match xs.findSome? r with | some w => .inr w | none => .inl ())
  | [], _ => rfl
  | x :: xs, h => by
    rw [loopL, h x List.mem_cons_self, List.findSome?_cons]
    cases q : r x with
    | some w => rfl
    | none =>
      simp only [pb]
      exact loopL_some fun z hz => h z (List.mem_cons_of_mem _ hz)
@[simp] theorem caseS_inl (s : σ) (r : σ → M ω) : caseS (.inl s) r = r s := rfl
@[simp] theorem caseS_inr (w : ω) (r : σ → M ω) : caseS (.inr w) r = pure w := rfl
theorem whM_eq {c : σ → M Bool} {f : σ → M σ} (μ : σ → Nat) (I : σ → Prop) (p : σ → Bool) (g : σ → σ) (fin : σ → σ) (hc : ∀ s, I s → c s = pure (p s)) (hf : ∀ s, I s → p s = true → f s = pure (g s) ∧ I (g s) ∧ μ (g s) < μ s ∧ fin (g s) = fin s) (he : ∀ s, I s → p s = false → fin s = s) : ∀ (n : Nat) (s : σ), I s → μ s < n → whM c f n s = pure (fin s)
  | 0, s, _, h => absurd h (Nat.not_lt_zero _)
  | n + 1, s, hi, hm => by
    rw [whM, hc s hi, pb]
    cases q : p s with
    | true =>
      obtain ⟨h1, h2, h3, h4⟩ := hf s hi q
      rw [if_pos rfl, h1, pb, whM_eq μ I p g fin hc hf he n (g s) h2 (by omega), h4]
    | false => rw [if_neg Bool.false_ne_true, he s hi q]
/-- equal keys before: (if q then a else b) of a decided test -/
@[simp] theorem if_tt {α : Type} (a b : M α) : (if true = true then a else b) = a := rfl
@[simp] theorem if_ff {α : Type} (a b : M α) : (if false = true then a else b) = b := rfl
end
/-- a law's end -/
theorem wp_run {m : M Bool} (h : WP m (· = true)) : ∀ τ, TP τ → ∃ τ', m τ = some (true, τ') := fun τ ht => by
  obtain ⟨x, τ', e, _, rfl⟩ := h τ ht
  exact ⟨τ', e⟩
end Ev
set_option Elab.async false
set_option linter.all false
set_option maxRecDepth 100000
set_option autoImplicit false
/-! Ev44: data's rows; algebras and terms. -/
namespace Ev
open PySem
open Enc (enc)
open Dec (dec)
section
variable {α β : Type}
theorem dIx_t (xs : List D) (i : Nat) : dIx (.tuple xs) i = atL xs i := by
  show ofO (L2.atI xs (i : Int)) = ofO xs[i]?
  rw [atI_nat']
theorem dIx_l (xs : List D) (i : Nat) : dIx (.list xs) i = atL xs i := by
  show ofO (L2.atI xs (i : Int)) = ofO xs[i]?
  rw [atI_nat']
theorem atL_0 (x : α) (xs : List α) : atL (x :: xs) 0 = pure x := rfl
theorem atL_s (x : α) (xs : List α) (n : Nat) : atL (x :: xs) (n + 1) = atL xs n := rfl
theorem atL_map (f : α → β) (xs : List α) (n : Nat) : atL (xs.map f) n = (atL xs n >>= fun x => pure (f x)) := by
  unfold atL
  rw [List.getElem?_map]
  cases xs[n]? <;> rfl
theorem enc_S (x : Str) : enc x = PyData.str x := rfl
theorem enc_B (x : Bool) : enc x = PyData.bool x := rfl
theorem enc_U (x : Unit) : enc x = PyData.none := rfl
theorem enc_P2 [Enc α] [Enc β] (x : α × β) : enc x = PyData.tuple [enc x.1, enc x.2] := rfl
theorem enc_LD (x : List D) : enc x = PyData.list x := by rw [enc_L]; congr 1; exact List.map_id' x
theorem enc_LN (x : List Nat) : enc x = PyData.list (x.map nI) := rfl
theorem enc_none [Enc α] : enc (none : Option α) = PyData.none := rfl
theorem enc_some [Enc α] (x : α) : enc (some x) = enc x := rfl
theorem cEq_ss (a b : Str) : cEq (.str a) (.str b) = some (decide (a = b)) := cEq_enc (α := Str) (by decide) a b
theorem cEq_nn (a b : Nat) : cEq (nI a) (nI b) = some (decide (a = b)) := cEq_enc (α := Nat) (by decide) a b
theorem seqOf_l (xs : List D) : seqOf (.list xs) = some xs := rfl
theorem seqOf_t (xs : List D) : seqOf (.tuple xs) = some xs := rfl
theorem lenD_l (xs : List D) : lenD (.list xs) = some xs.length := rfl
theorem lenD_t (xs : List D) : lenD (.tuple xs) = some xs.length := rfl
theorem enumD_l (xs : List D) : enumD (.list xs) = some (enumL xs) := rfl
theorem decS (x : Str) : (dec (PyData.str x) : Option Str) = some x := rfl
theorem decN (x : Nat) : (dec (nI x) : Option Nat) = some x := rfl
theorem decB (x : Bool) : (dec (PyData.bool x) : Option Bool) = some x := rfl
theorem any_id (xs : List α) (p : α → Bool) : (xs.map p).any id = xs.any p := by rw [List.any_map]; rfl
theorem all_id (xs : List α) (p : α → Bool) : (xs.map p).all id = xs.all p := by rw [List.all_map]; rfl
end
/-! ### equality of data -/
mutual
/-- no dict within -/
def noD : D → Bool
  | .dict _ => false
  | .list xs => noDs xs
  | .tuple xs => noDs xs
  | _ => true
def noDs : List D → Bool
  | [] => true
  | x :: xs => noD x && noDs xs
end
mutual
theorem eqv_self : ∀ d : D, noD d = true → PyData.eqv d d = true
  | .none, _ => by simp only [PyData.eqv]
  | .bool b, _ => by simp [PyData.eqv]
  | .int i, _ => by simp [PyData.eqv]
  | .str x, _ => by simp [PyData.eqv]
  | .list xs, h => by
    simp only [PyData.eqv]
    exact eqvs_self xs (by simpa only [noD] using h)
  | .tuple xs, h => by
    simp only [PyData.eqv]
    exact eqvs_self xs (by simpa only [noD] using h)
  | .dict _, h => by simp [noD] at h
theorem eqvs_self : ∀ ds : List D, noDs ds = true → PyData.eqvAll ds ds = true
  | [], _ => by simp only [PyData.eqvAll]
  | d :: ds, h => by
    simp only [noDs, Bool.and_eq_true] at h
    simp only [PyData.eqvAll, Bool.and_eq_true]
    exact ⟨eqv_self d h.1, eqvs_self ds h.2⟩
end
theorem cEq_self {d : D} (h : noD d = true) (h2 : d.depth ≤ 100) : cEq d d = some true := by
  unfold cEq
  rw [if_pos (by unfold shallow; rw [decide_eq_true h2]; rfl), eqv_self d h]
/-! ### repr -/
/-- how long a text is at most, and that it can be told -/
structure Shw (d : D) (n k : Nat) : Prop where
  len : d.shown.length ≤ n
  ok : PyData.strOk d.shown = true
  sh : d.showable = true
  nd : d.hasDict = false
  dp : d.depth ≤ k
theorem reprS_t {xs : List D} (h : (PyData.tuple xs).showable = true ∧ (PyData.tuple xs).hasDict = false ∧ (PyData.tuple xs).shown.length ≤ sizeLine ∧ PyData.strOk (PyData.tuple xs).shown = true ∧ (PyData.tuple xs).depth ≤ 100) : reprS (.tuple xs) = some (PyData.tuple xs).shown := by
  show (if _ then _ else _ : Option D).bind strOf = _
  rw [if_pos h]; rfl
theorem reprS_l {xs : List D} (h : (PyData.list xs).showable = true ∧ (PyData.list xs).hasDict = false ∧ (PyData.list xs).shown.length ≤ sizeLine ∧ PyData.strOk (PyData.list xs).shown = true ∧ (PyData.list xs).depth ≤ 100) : reprS (.list xs) = some (PyData.list xs).shown := by
  show (if _ then _ else _ : Option D).bind strOf = _
  rw [if_pos h]; rfl
theorem reprS_of {xs : List D} {n k : Nat} (h : Shw (.tuple xs) n k) (hn : n ≤ sizeLine) (hk : k ≤ 100) : ∃ s, reprS (.tuple xs) = some s :=
  ⟨_, reprS_t ⟨h.sh, h.nd, Nat.le_trans h.len hn, h.ok, Nat.le_trans h.dp hk⟩⟩
theorem reprS_ofL {xs : List D} {n k : Nat} (h : Shw (.list xs) n k) (hn : n ≤ sizeLine) (hk : k ≤ 100) : ∃ s, reprS (.list xs) = some s :=
  ⟨_, reprS_l ⟨h.sh, h.nd, Nat.le_trans h.len hn, h.ok, Nat.le_trans h.dp hk⟩⟩
theorem Shw.mono {d : D} {n k n' k' : Nat} (h : Shw d n k) (hn : n ≤ n') (hk : k ≤ k') : Shw d n' k' := ⟨Nat.le_trans h.len hn, h.ok, h.sh, h.nd, Nat.le_trans h.dp hk⟩
theorem strOk_app (x y : Str) : PyData.strOk (x ++ y) = (PyData.strOk x && PyData.strOk y) := by
  show (x.cps ++ y.cps).all _ = _
  rw [Array.all_append]; rfl
theorem textFrom_ok {n : Nat} : ∀ (ts : List Str) (k : Nat) (acc : Str), PyData.strOk acc = true → (∀ t ∈ ts, t.length ≤ n ∧ PyData.strOk t = true) → (textFrom k acc ts).length ≤ acc.length + ts.length * (n + 2) ∧ PyData.strOk (textFrom k acc ts) = true
  | [], k, acc, h, _ => ⟨by simp [textFrom], h⟩
  | t :: ts, k, acc, h, hs => by
    obtain ⟨h1, h2⟩ := hs t List.mem_cons_self
    have e : PyData.strOk (acc ++ (if k > 0 then ", " else "" : String) ++ t) = true := by
      rw [strOk_app, strOk_app, h, h2]
      split <;> decide +kernel
    have l : (acc ++ (if k > 0 then ", " else "" : String) ++ t).length ≤ acc.length + 2 + n := by
      rw [strLen_append, strLen_append]
      have : ((if k > 0 then ", " else "" : String) : Str).length ≤ 2 := by split <;> decide +kernel
      omega
    obtain ⟨h3, h4⟩ := textFrom_ok ts (k + 1) _ e fun z hz => hs z (List.mem_cons_of_mem _ hz)
    refine ⟨?_, h4⟩
    show (textFrom (k + 1) _ ts).length ≤ _
    rw [List.length_cons, Nat.add_mul]
    omega
theorem join_ok {n : Nat} : ∀ (ts : List Str), (∀ t ∈ ts, t.length ≤ n ∧ PyData.strOk t = true) → (Str.join ", " ts).length ≤ ts.length * (n + 2) ∧ PyData.strOk (Str.join ", " ts) = true
  | [], _ => ⟨Nat.zero_le _, by decide +kernel⟩
  | [t], h => by
    obtain ⟨h1, h2⟩ := h t List.mem_cons_self
    exact ⟨by show t.length ≤ 1 * (n + 2); omega, h2⟩
  | t :: u :: ts, h => by
    obtain ⟨h1, h2⟩ := h t List.mem_cons_self
    obtain ⟨h3, h4⟩ := join_ok (u :: ts) fun z hz => h z (List.mem_cons_of_mem _ hz)
    have e : Str.join ", " (t :: u :: ts) = t ++ ", " ++ Str.join ", " (u :: ts) := rfl
    rw [e, strLen_append, strLen_append, strOk_app, strOk_app, h2, h4]
    have : ((", " : String) : Str).length = 2 := rfl
    refine ⟨?_, by decide +kernel⟩
    rw [List.length_cons, Nat.add_mul]
    omega
theorem shownAll_map : ∀ xs : List D, PyData.shownAll xs = xs.map PyData.shown
  | [] => rfl
  | x :: xs => by simp only [PyData.shownAll, List.map_cons, shownAll_map xs]
theorem showableAll_all : ∀ xs : List D, (∀ x ∈ xs, x.showable = true) → PyData.showableAll xs = true
  | [], _ => by simp only [PyData.showableAll]
  | x :: xs, h => by
    simp only [PyData.showableAll, h x List.mem_cons_self, showableAll_all xs fun z hz => h z (List.mem_cons_of_mem _ hz), Bool.and_self]
theorem hasDictAll_no : ∀ xs : List D, (∀ x ∈ xs, x.hasDict = false) → PyData.hasDictAll xs = false
  | [], _ => by simp only [PyData.hasDictAll]
  | x :: xs, h => by
    simp only [PyData.hasDictAll, h x List.mem_cons_self, hasDictAll_no xs fun z hz => h z (List.mem_cons_of_mem _ hz), Bool.or_self]
theorem depthAll_no {k : Nat} : ∀ xs : List D, (∀ x ∈ xs, x.depth ≤ k) → PyData.depthAll xs ≤ k
  | [], _ => by simp [PyData.depthAll]
  | x :: xs, h => by
    simp only [PyData.depthAll]
    exact Nat.max_le.mpr ⟨h x List.mem_cons_self, depthAll_no xs fun z hz => h z (List.mem_cons_of_mem _ hz)⟩
theorem shw_list {xs : List D} {n k m : Nat} (h : ∀ x ∈ xs, Shw x n k) (hm : xs.length ≤ m) : Shw (.list xs) (m * (n + 2) + 2) (k + 1) := by
  have ht : ∀ t ∈ xs.map PyData.shown, t.length ≤ n ∧ PyData.strOk t = true := fun t ht => by
    obtain ⟨x, hx, rfl⟩ := List.mem_map.mp ht
    exact ⟨(h x hx).len, (h x hx).ok⟩
  obtain ⟨h1, h2⟩ := textFrom_ok (n := n) (xs.map PyData.shown) 0 "[" (by decide +kernel) ht
  have e : (PyData.list xs).shown = textFrom 0 "[" (xs.map PyData.shown) ++ "]" := by
    simp only [PyData.shown, shownAll_map]; rfl
  have l0 : (("[" : String) : Str).length = 1 := rfl
  have l1 : (("]" : String) : Str).length = 1 := rfl
  rw [List.length_map] at h1
  have hmul : xs.length * (n + 2) ≤ m * (n + 2) := Nat.mul_le_mul_right _ hm
  refine ⟨?_, ?_, ?_, ?_, ?_⟩
  · rw [e, strLen_append]; omega
  · rw [e, strOk_app, h2]; decide +kernel
  · simp only [PyData.showable]; exact showableAll_all xs fun x hx => (h x hx).sh
  · simp only [PyData.hasDict]; exact hasDictAll_no xs fun x hx => (h x hx).nd
  · simp only [PyData.depth]
    have := depthAll_no (k := k) xs fun x hx => (h x hx).dp
    omega
theorem shw_tuple {xs : List D} {n k m : Nat} (h : ∀ x ∈ xs, Shw x n k) (hm : xs.length ≤ m) : Shw (.tuple xs) (m * (n + 2) + 4) (k + 1) := by
  have ht : ∀ t ∈ xs.map PyData.shown, t.length ≤ n ∧ PyData.strOk t = true := fun t ht => by
    obtain ⟨x, hx, rfl⟩ := List.mem_map.mp ht
    exact ⟨(h x hx).len, (h x hx).ok⟩
  obtain ⟨h1, h2⟩ := join_ok (n := n) (xs.map PyData.shown) ht
  have e : (PyData.tuple xs).shown = ("(" : Str) ++ Str.join ", " (xs.map PyData.shown) ++ (if (xs.map PyData.shown).length == 1 then ",)" else ")" : String) := by
    simp only [PyData.shown, shownAll_map]; rfl
  have l0 : (("(" : String) : Str).length = 1 := rfl
  have l1 : ((if (xs.map PyData.shown).length == 1 then ",)" else ")" : String) : Str).length ≤ 2 := by split <;> decide +kernel
  have k1 : PyData.strOk ((if (xs.map PyData.shown).length == 1 then ",)" else ")" : String) : Str) = true := by split <;> decide +kernel
  rw [List.length_map] at h1
  have hmul : xs.length * (n + 2) ≤ m * (n + 2) := Nat.mul_le_mul_right _ hm
  refine ⟨?_, ?_, ?_, ?_, ?_⟩
  · rw [e, strLen_append, strLen_append]; omega
  · rw [e, strOk_app, strOk_app, h2, k1]; decide +kernel
  · simp only [PyData.showable]; exact showableAll_all xs fun x hx => (h x hx).sh
  · simp only [PyData.hasDict]; exact hasDictAll_no xs fun x hx => (h x hx).nd
  · simp only [PyData.depth]
    have := depthAll_no (k := k) xs fun x hx => (h x hx).dp
    omega
theorem shw_nats : ∀ n, n < 300 → ((PyData.int ((n : Nat) : Int)).shown.length ≤ 4 ∧ PyData.strOk (PyData.int ((n : Nat) : Int)).shown = true) ∧ (PyData.int ((n : Nat) : Int)).showable = true := by decide +kernel
theorem shw_n {n : Nat} (h : n < 300) : Shw (nI n) 4 0 := ⟨(shw_nats n h).1.1, (shw_nats n h).1.2, (shw_nats n h).2, by simp [nI, PyData.hasDict], by simp [nI, PyData.depth]⟩
theorem shw_s {x : Str} {n : Nat} (h : ((PyData.str x).shown.length ≤ n && PyData.strOk (PyData.str x).shown) = true) : Shw (.str x) n 0 := by
  simp only [Bool.and_eq_true, decide_eq_true_eq] at h
  exact ⟨h.1, h.2, by simp [PyData.showable], by simp [PyData.hasDict], by simp [PyData.depth]⟩
theorem shw_non : Shw .none 4 0 := ⟨by decide +kernel, by decide +kernel, by simp [PyData.showable], by simp [PyData.hasDict], by simp [PyData.depth]⟩
end Ev
set_option Elab.async false
set_option linter.all false
set_option maxRecDepth 100000
set_option autoImplicit false
/-! Ev45: algebras, terms, lists of rows. -/
namespace Ev
open PySem
open Enc (enc)
open Dec (dec)
abbrev OpT := P3 Str Nat (Tu Nat)
abbrev Alg := P3 Str Nat (List OpT)
/-- the place of arguments -/
def plc (n : Nat) (l : List Nat) : Nat := l.foldl (fun p a => p * n + a) 0
theorem plc_from (n : Nat) : ∀ (l : List Nat) (p : Nat), (∀ a ∈ l, a < n) → l.foldl (fun p a => p * n + a) p < (p + 1) * n ^ l.length
  | [], p, _ => by simp
  | a :: l, p, h => by
    rw [List.foldl_cons, List.length_cons, Nat.pow_succ, Nat.mul_comm (n ^ l.length) n, ← Nat.mul_assoc]
    refine Nat.lt_of_lt_of_le (plc_from n l (p * n + a) fun b hb => h b (List.mem_cons_of_mem _ hb)) (Nat.mul_le_mul_right _ ?_)
    have := h a List.mem_cons_self
    rw [Nat.add_mul]; omega
theorem plc_lt {n : Nat} {l : List Nat} (h : ∀ a ∈ l, a < n) : plc n l < n ^ l.length := by
  have := plc_from n l 0 h
  simpa [plc] using this
/-- all rows of so many below n, ascending -/
def rows (n : Nat) : Nat → List (List Nat)
  | 0 => [[]]
  | k + 1 => (rows n k).flatMap fun r => (List.range n).map fun v => r ++ [v]
theorem rows_mem {n : Nat} : ∀ {k : Nat} {r : List Nat}, r ∈ rows n k ↔ r.length = k ∧ ∀ a ∈ r, a < n
  | 0, r => by
    simp only [rows, List.mem_singleton]
    constructor
    · rintro rfl; simp
    · rintro ⟨h, _⟩; exact List.length_eq_zero_iff.mp h
  | k + 1, r => by
    simp only [rows, List.mem_flatMap, List.mem_map, List.mem_range]
    constructor
    · rintro ⟨q, hq, v, hv, rfl⟩
      obtain ⟨h1, h2⟩ := rows_mem.mp hq
      refine ⟨by simp [h1], fun a ha => ?_⟩
      rcases List.mem_append.mp ha with ha | ha
      · exact h2 a ha
      · rw [List.mem_singleton] at ha; subst ha; exact hv
    · rintro ⟨h1, h2⟩
      have hne : r ≠ [] := fun e => by rw [e] at h1; simp at h1
      refine ⟨r.dropLast, rows_mem.mpr ⟨by rw [List.length_dropLast, h1]; rfl, fun a ha => h2 a ((List.dropLast_sublist r).subset ha)⟩, r.getLast hne, h2 _ (List.getLast_mem hne), List.dropLast_concat_getLast hne⟩
theorem rows_length (n : Nat) : ∀ k, (rows n k).length = n ^ k
  | 0 => rfl
  | k + 1 => by
    simp only [rows, List.length_flatMap, List.length_map, List.length_range]
    rw [List.map_const', List.sum_replicate_nat, rows_length n k, Nat.pow_succ]
structure OpOk (n : Nat) (o : OpT) : Prop where
  ar : o.b ≤ 3
  len : o.c.l.length = n ^ o.b
  lt : ∀ x ∈ o.c.l, x < n
structure AOk (A : Alg) : Prop where
  pos : 0 < A.b
  small : A.b ≤ 6
  ops : ∀ o ∈ A.c, OpOk A.b o
def opOf (A : Alg) (nm : Str) : Option OpT := A.c.find? fun o => decide (o.a = nm)
/-- an operation's value -/
def ap (A : Alg) (nm : Str) (args : List Nat) : Nat := match opOf A nm with
  | some o => o.c.l.getD (plc A.b args) 0
  | none => 0
theorem ap_lt {A : Alg} (hA : AOk A) {nm : Str} {o : OpT} {args : List Nat} (ho : opOf A nm = some o) (hl : args.length = o.b) (hs : ∀ a ∈ args, a < A.b) : plc A.b args < o.c.l.length ∧ ap A nm args < A.b := by
  have h := hA.ops o (List.mem_of_find?_eq_some ho)
  have hp : plc A.b args < o.c.l.length := by rw [h.len, ← hl]; exact plc_lt hs
  refine ⟨hp, ?_⟩
  unfold ap
  rw [ho]
  show o.c.l.getD (plc A.b args) 0 < A.b
  rw [List.getD_eq_getElem?_getD, List.getElem?_eq_getElem hp]
  exact h.lt _ (List.getElem_mem hp)
/-! ### terms -/
inductive Tm
  | v (i : Nat)
  | o (nm : Str) (ts : List Tm)
mutual
def encT : Tm → D
  | .v i => .tuple [.str "var", nI i]
  | .o nm ts => .tuple [.str "op", .str nm, .list (encTs ts)]
def encTs : List Tm → List D
  | [] => []
  | t :: ts => encT t :: encTs ts
end
theorem encTs_map : ∀ ts : List Tm, encTs ts = ts.map encT
  | [] => rfl
  | t :: ts => by rw [encTs, encTs_map ts]; rfl
mutual
def val (A : Alg) (args : List Nat) : Tm → Nat
  | .v i => args.getD i 0
  | .o nm ts => ap A nm (vals A args ts)
def vals (A : Alg) (args : List Nat) : List Tm → List Nat
  | [] => []
  | t :: ts => val A args t :: vals A args ts
end
theorem vals_map (A : Alg) (args : List Nat) : ∀ ts : List Tm, vals A args ts = ts.map (val A args)
  | [] => rfl
  | t :: ts => by rw [vals, vals_map A args ts]; rfl
mutual
/-- a term with so many variables -/
def TOk (A : Alg) (m : Nat) : Tm → Prop
  | .v i => i < m
  | .o nm ts => (∃ o, opOf A nm = some o ∧ o.b = ts.length) ∧ TOks A m ts
def TOks (A : Alg) (m : Nat) : List Tm → Prop
  | [] => True
  | t :: ts => TOk A m t ∧ TOks A m ts
end
theorem TOks_all {A : Alg} {m : Nat} : ∀ {ts : List Tm}, TOks A m ts ↔ ∀ t ∈ ts, TOk A m t
  | [] => by simp [TOks]
  | t :: ts => by simp [TOks, TOks_all (ts := ts)]
mutual
def ht : Tm → Nat
  | .v _ => 0
  | .o _ ts => hts ts + 1
def hts : List Tm → Nat
  | [] => 0
  | t :: ts => max (ht t) (hts ts)
end
theorem hts_le {k : Nat} : ∀ {ts : List Tm}, hts ts ≤ k ↔ ∀ t ∈ ts, ht t ≤ k
  | [] => by simp [hts]
  | t :: ts => by simp only [hts, List.mem_cons, forall_eq_or_imp, ← hts_le (ts := ts)]; omega
mutual
theorem val_lt {A : Alg} (hA : AOk A) {m : Nat} {args : List Nat} (hm : args.length = m) (ha : ∀ a ∈ args, a < A.b) : ∀ t : Tm, TOk A m t → val A args t < A.b
  | .v i, h => by
    have h : i < m := by simpa only [TOk] using h
    rw [val, List.getD_eq_getElem?_getD, List.getElem?_eq_getElem (by omega)]
    exact ha _ (List.getElem_mem _)
  | .o nm ts, h => by
    rw [TOk] at h
    obtain ⟨⟨o, h1, h2⟩, h3⟩ := h
    rw [val]
    exact (ap_lt hA h1 (by rw [vals_map, List.length_map, h2]) (vals_lt hA hm ha ts h3)).2
theorem vals_lt {A : Alg} (hA : AOk A) {m : Nat} {args : List Nat} (hm : args.length = m) (ha : ∀ a ∈ args, a < A.b) : ∀ ts : List Tm, TOks A m ts → ∀ x ∈ vals A args ts, x < A.b
  | [], _, x, hx => by simp [vals] at hx
  | t :: ts, h, x, hx => by
    rw [TOks] at h
    rw [vals] at hx
    rcases List.mem_cons.mp hx with rfl | hx
    · exact val_lt hA hm ha t h.1
    · exact vals_lt hA hm ha ts h.2 x hx
end
theorem getD_of {α : Type} {l : List α} {i : Nat} {d : α} (h : i < l.length) : l[i]? = some (l.getD i d) := by
  rw [List.getD_eq_getElem?_getD, List.getElem?_eq_getElem h]; rfl
mutual
theorem encT_noD : ∀ t : Tm, noD (encT t) = true
  | .v i => by simp [encT, noD, noDs, nI]
  | .o nm ts => by simp [encT, noD, noDs, encTs_noD ts]
theorem encTs_noD : ∀ ts : List Tm, noDs (encTs ts) = true
  | [] => by simp [encTs, noDs]
  | t :: ts => by simp [encTs, noDs, encT_noD t, encTs_noD ts]
end
end Ev
namespace Ev
open PySem
open Enc (enc)
open Dec (dec)
theorem mapL_map {α β γ : Type} (f : β → M γ) (g : α → β) : ∀ xs : List α, mapL f (xs.map g) = mapL (fun x => f (g x)) xs
  | [] => rfl
  | x :: xs => by rw [List.map_cons, mapL, mapL_map f g xs]; rfl
end Ev
namespace Ev
open PySem
open Enc (enc)
open Dec (dec)
theorem filL_id {α : Type} (p : α → Bool) (xs : List α) : filL (fun x => (pure (p x) : M Bool)) (fun x => (pure x : M α)) xs = pure (xs.filter p) :=
  (filL_eq (p := p) (g := id) (fun _ _ => rfl) fun _ _ _ => rfl).trans (by rw [List.map_id])
theorem mapL_id {α : Type} (xs : List α) : mapL (fun x => (pure x : M α)) xs = pure xs :=
  (mapL_eq (g := id) fun _ _ => rfl).trans (by rw [List.map_id])
/-- a loop none of whose turns leaves -/
theorem wp_noexit {α ω : Type} {f : Unit → α → M (Fw Unit ω)} {xs : List α} {k : Unit → M ω} {Q : ω → Prop} (h : ∀ x ∈ xs, WP (f () x) (fun z => z = .nx ())) (hk : WP (k ()) Q) : WP (loopL f () xs >>= fun z => caseS z k) Q := by
  refine wp_bind (wp_loop0 (fun _ _ => True) (fun z => z = .inl ()) trivial (fun _ _ => rfl) fun pre x q s e _ => wp_mono (h x (by rw [e]; simp)) fun z hz => by rw [hz]; trivial) fun z hz => ?_
  rw [hz]; exact hk
end Ev
namespace Ev
open PySem
open Enc (enc)
open Dec (dec)
theorem loopL_mapc {α β σ ω : Type} (f : σ → β → M (Fw σ ω)) (g : α → β) : ∀ (xs : List α) (s : σ), loopL f s (xs.map g) = loopL (fun s x => f s (g x)) s xs
  | [], _ => rfl
  | x :: xs, s => by
    rw [List.map_cons, loopL, loopL]
    congr 1
    funext z
    cases z with
    | nx s => exact loopL_mapc f g xs s
    | _ => rfl
theorem loop_hits {α ω : Type} {f : Unit → α → M (Fw Unit ω)} {p : α → Bool} {r : α → ω} {xs : List α} {k : Unit → M ω} (h : ∀ x ∈ xs, f () x = if p x = true then pure (.rt (r x)) else pure (.nx ())) : (loopL f () xs >>= fun z => caseS z k) = match xs.find? p with | some x => pure (r x) | none => k () := by
  rw [loopL_find h, pb]
  cases xs.find? p <;> rfl
theorem foldL_mapc {α β σ : Type} (f : σ → β → M σ) (g : α → β) : ∀ (xs : List α) (s : σ), foldL f s (xs.map g) = foldL (fun s x => f s (g x)) s xs
  | [], _ => rfl
  | x :: xs, s => by
    rw [List.map_cons, foldL, foldL]
    congr 1
    funext z
    exact foldL_mapc f g xs z
theorem filL_mapc {α β γ : Type} (c : β → M Bool) (f : β → M γ) (g : α → β) : ∀ (xs : List α), filL c f (xs.map g) = filL (fun x => c (g x)) (fun x => f (g x)) xs
  | [] => rfl
  | x :: xs => by rw [List.map_cons, filL, filL, filL_mapc c f g xs]
end Ev
set_option Elab.async false
set_option linter.all false
set_option maxRecDepth 100000
set_option autoImplicit false
/-! Ev46: mirrors of dicts and isinstance. -/
namespace Ev
open PySem
open Enc (enc)
structure Dm (α β : Type) where
  l : List (α × β)
instance {α β : Type} [Enc α] [Enc β] : Enc (Dm α β) := ⟨fun m => .dict (m.l.map fun p => (enc p.1, enc p.2))⟩
class KeyE (t : outParam Bool) (α : Type) [Enc α] : Prop where
  kf : ∀ a : α, keyF t (enc a) = true
instance : KeyE false Nat := ⟨fun _ => rfl⟩
instance : KeyE false Int := ⟨fun _ => rfl⟩
instance : KeyE false Str := ⟨fun _ => rfl⟩
theorem keys_all {α : Type} [Enc α] [h : KeyE false α] (l : List α) : (l.map (enc : α → D)).all keyB = true := by
  rw [List.all_eq_true]
  intro x hx
  obtain ⟨a, _, rfl⟩ := List.mem_map.mp hx
  exact h.kf a
instance {α : Type} [Enc α] [KeyE false α] : KeyE true (Tu α) := ⟨fun a => keys_all a.l⟩
instance {α β : Type} [Enc α] [Enc β] [h1 : KeyE false α] [h2 : KeyE false β] : KeyE true (α × β) := ⟨fun a => by
  show ([enc a.1, enc a.2] : List D).all keyB = true
  have e1 : keyB (enc a.1) = true := h1.kf a.1
  have e2 : keyB (enc a.2) = true := h2.kf a.2
  simp [e1, e2]⟩
section
variable {α β : Type} [DecidableEq α]
def Dm.get (m : Dm α β) (x : α) : Option β := (m.l.find? fun p => decide (p.1 = x)).map (·.2)
def Dm.put (m : Dm α β) (x : α) (y : β) : Dm α β := ⟨if (m.l.any fun p => decide (p.1 = x)) = true then m.l.map (fun p => if p.1 = x then (p.1, y) else p) else m.l ++ [(x, y)]⟩
def putM (m : Dm α β) (x : α) (y : β) : M (Dm α β) := grd (m.l.length < 1000000) (m.put x y)
theorem putM_ok {m : Dm α β} {x : α} {y : β} (h : m.l.length < 1000000) : putM m x y = pure (m.put x y) := grd_ok h _
@[simp] theorem Dm.get_nil (x : α) : Dm.get (⟨[]⟩ : Dm α β) x = none := rfl
theorem Dm.put_len (m : Dm α β) (x : α) (y : β) : (m.put x y).l.length ≤ m.l.length + 1 := by
  unfold Dm.put
  split
  · simp
  · simp
theorem find_map (x : α) (y : β) : ∀ l : List (α × β), ((l.map fun p => if p.1 = x then (p.1, y) else p).find? fun p => decide (p.1 = x)) = if (l.any fun p => decide (p.1 = x)) = true then some (x, y) else none
  | [] => rfl
  | p :: r => by
    by_cases h : p.1 = x
    · simp [h]
    · rw [List.map_cons, if_neg h, List.find?_cons, List.any_cons]
      simp only [h, decide_false, Bool.false_or]
      exact find_map x y r
theorem find_map' {x z : α} (hz : z ≠ x) (y : β) : ∀ l : List (α × β), ((l.map fun p => if p.1 = x then (p.1, y) else p).find? fun p => decide (p.1 = z)) = l.find? fun p => decide (p.1 = z)
  | [] => rfl
  | p :: r => by
    by_cases h : p.1 = x
    · have h2 : ¬ p.1 = z := fun e => hz (e.symm.trans h)
      rw [List.map_cons, if_pos h, List.find?_cons, List.find?_cons]
      simp only [h2, decide_false]
      exact find_map' hz y r
    · rw [List.map_cons, if_neg h, List.find?_cons, List.find?_cons, find_map' hz y r]
theorem Dm.get_put (m : Dm α β) (x z : α) (y : β) : (m.put x y).get z = if z = x then some y else m.get z := by
  unfold Dm.get Dm.put
  by_cases hz : z = x
  · subst hz
    rw [if_pos rfl]
    by_cases h : (m.l.any fun p => decide (p.1 = z)) = true
    · rw [if_pos h, find_map, if_pos h]; rfl
    · rw [if_neg h, List.find?_append]
      have : (m.l.find? fun p => decide (p.1 = z)) = none := by
        rw [List.find?_eq_none]
        intro p hp e
        exact h (List.any_eq_true.mpr ⟨p, hp, e⟩)
      rw [this]
      simp
  · rw [if_neg hz]
    by_cases h : (m.l.any fun p => decide (p.1 = x)) = true
    · rw [if_pos h, find_map' hz]
    · rw [if_neg h, List.find?_append]
      have e : ([(x, y)].find? fun p => decide (p.1 = z)) = none := by
        rw [List.find?_cons]
        simp only [show ¬ x = z from fun e => hz e.symm, decide_false]
        rfl
      rw [e]
      cases (m.l.find? fun p => decide (p.1 = z)) <;> rfl
end
section
variable {α β : Type} [Enc α] [Enc β] [DecidableEq α] [EqE α]
theorem dget_enc (x : α) : ∀ l : List (α × β), dget (l.map fun p => ((enc p.1 : D), (enc p.2 : D))) (enc x) = ((l.find? fun p => decide (p.1 = x)).map (·.2)).map enc
  | [] => rfl
  | p :: r => by
    rw [List.map_cons, dget, EqE.eq, List.find?_cons]
    by_cases h : p.1 = x
    · rw [decide_eq_true h]; rfl
    · rw [decide_eq_false h, if_neg Bool.false_ne_true]; exact dget_enc x r
theorem dput_enc (x : α) (y : β) (l : List (α × β)) : dput (l.map fun p => ((enc p.1 : D), (enc p.2 : D))) (enc x) (enc y) = (Dm.put ⟨l⟩ x y).l.map fun p => ((enc p.1 : D), (enc p.2 : D)) := by
  unfold dput Dm.put
  have e : ((l.map fun p => ((enc p.1 : D), (enc p.2 : D))).any fun p => PyData.eqv p.1 (enc x)) = l.any fun p => decide (p.1 = x) := by
    rw [List.any_map]
    congr 1
    funext p
    exact EqE.eq p.1 x
  rw [e]
  by_cases h : (l.any fun p => decide (p.1 = x)) = true
  · rw [if_pos h, if_pos h, List.map_map, List.map_map]
    apply List.map_congr_left
    intro p _
    simp only [Function.comp_apply, EqE.eq]
    by_cases h2 : p.1 = x
    · simp [h2]
    · simp [h2]
  · rw [if_neg h, if_neg h, List.map_append]; rfl
end
section
variable {cf : CF} {γ : En} {α β : Type} [Enc α] [Enc β] {a b c : IE} {t : Bool}
theorem E_dnew : EM cf γ (.dnew t) (pure (Dm.mk [] : Dm α β)) := fun τ y τ' e => by
  obtain ⟨rfl, rfl⟩ := pureM_some e
  simp only [evalE]; rfl
theorem E_dcp {ma : M (Dm α β)} (ha : EM cf γ a ma) : EM cf γ (.dcp a) ma := fun τ y τ' e => by
  simp only [evalE, ha _ _ _ e, Option.bind_some]
  rfl
variable [DecidableEq α] [EqE α]
theorem E_dix [hk : KeyE t α] {ma : M (Dm α β)} {mb : M α} (ha : EM cf γ a ma) (hb : EM cf γ b mb) : EM cf γ (.dix t a b) (ma >>= fun x => mb >>= fun y => ofO (Dm.get x y)) := fun τ y τ' e => by
  obtain ⟨m, τ1, e1, e⟩ := bindM_some e
  obtain ⟨x, τ2, e2, e⟩ := bindM_some e
  obtain ⟨h, rfl⟩ := ofO_some e
  simp only [evalE, ha _ _ _ e1, hb _ _ _ e2, Option.bind_some]
  show (opDix t (.dict _) _).map _ = _
  simp only [opDix, dictOf, Option.bind_some, hk.kf x, if_true]
  rw [dget_enc, show (m.l.find? fun p => decide (p.1 = x)).map (·.2) = some y from h]
  rfl
theorem din_val [hk : KeyE t α] {ma : M α} {mb : M (Dm α β)} (ha : EM cf γ a ma) (hb : EM cf γ b mb) {neg : Bool} {τ τ1 τ2 : Tape} {x : α} {m : Dm α β} (e1 : ma τ = some (x, τ1)) (e2 : mb τ1 = some (m, τ2)) : evalE cf (.din t neg a b) γ τ = some (.bool (if neg then !(Dm.get m x).isSome else (Dm.get m x).isSome), τ2) := by
  simp only [evalE, ha _ _ _ e1, hb _ _ _ e2, Option.bind_some]
  show (opDin t neg _ (.dict _)).map _ = _
  simp only [opDin, dictOf, Option.bind_some, hk.kf x, if_true]
  rw [dget_enc]
  show some (PyData.bool (if neg = true then !((m.get x).map enc).isSome else ((m.get x).map enc).isSome), τ2) = _
  rw [Option.isSome_map]
theorem E_din [hk : KeyE t α] {ma : M α} {mb : M (Dm α β)} (ha : EM cf γ a ma) (hb : EM cf γ b mb) : EM cf γ (.din t false a b) (ma >>= fun x => mb >>= fun y => pure (Dm.get y x).isSome) := fun τ y τ' e => by
  obtain ⟨x, τ1, e1, e⟩ := bindM_some e
  obtain ⟨m, τ2, e2, e⟩ := bindM_some e
  obtain ⟨rfl, rfl⟩ := pureM_some e
  exact din_val ha hb e1 e2
theorem E_dni [hk : KeyE t α] {ma : M α} {mb : M (Dm α β)} (ha : EM cf γ a ma) (hb : EM cf γ b mb) : EM cf γ (.din t true a b) (ma >>= fun x => mb >>= fun y => pure (!(Dm.get y x).isSome)) := fun τ y τ' e => by
  obtain ⟨x, τ1, e1, e⟩ := bindM_some e
  obtain ⟨m, τ2, e2, e⟩ := bindM_some e
  obtain ⟨rfl, rfl⟩ := pureM_some e
  exact din_val ha hb e1 e2
theorem E_dget [hk : KeyE t α] {ma : M (Dm α β)} {mb : M α} {mc : M β} (ha : EM cf γ a ma) (hb : EM cf γ b mb) (hc : EM cf γ c mc) : EM cf γ (.dget t a b c) (ma >>= fun x => mb >>= fun y => mc >>= fun z => pure ((Dm.get x y).getD z)) := fun τ y τ' e => by
  obtain ⟨m, τ1, e1, e⟩ := bindM_some e
  obtain ⟨x, τ2, e2, e⟩ := bindM_some e
  obtain ⟨z, τ3, e3, e⟩ := bindM_some e
  obtain ⟨rfl, rfl⟩ := pureM_some e
  simp only [evalE, ha _ _ _ e1, hb _ _ _ e2, hc _ _ _ e3, Option.bind_some]
  show (opDget t (.dict _) _ _).map _ = _
  simp only [opDget, dictOf, Option.bind_some, hk.kf x, if_true]
  rw [dget_enc]
  show some ((((m.get x).map enc).getD (enc z)), τ3) = _
  cases m.get x <;> rfl
end
theorem E_isi {cf : CF} {γ : En} {α : Type} [Enc α] {a : IE} {k : Kc} {ma : M α} (ha : EM cf γ a ma) : EM cf γ (.isi k a) (ma >>= fun x => pure (isiB k (enc x))) := fun τ y τ' e => by
  obtain ⟨x, τ1, e1, e⟩ := bindM_some e
  obtain ⟨rfl, rfl⟩ := pureM_some e
  simp only [evalE, ha _ _ _ e1, Option.map_some]; rfl
section
variable {cf : CF} {γ : En} {rest : List IS} {ω : Type} {K : Out → ω → Tape → Prop} {α β : Type} [Enc α] [Enc β] [DecidableEq α] [EqE α]
theorem S_setd {t : Bool} [hk0 : KeyE t α] {i : Nat} {e ki : IE} {m : M β} {n : M α} {d : Dm α β} {k : Dm α β → M ω} {g : Dm α β → En} (he : EM cf γ e m) (hk : EM cf γ ki n) (hl : rd γ i = some (enc d)) (hg : ∀ x : Dm α β, γ.set i (some (enc x)) = g x) (hr : ∀ x, SY cf rest (g x) K (k x)) :
    SY cf (.setd t i ki e :: rest) γ K (m >>= fun x => n >>= fun j => putM d j x >>= k) := fun τ w τ' q => by
  obtain ⟨x, τ1, e1, q⟩ := bindM_some q
  obtain ⟨j, τ2, e2, q⟩ := bindM_some q
  obtain ⟨y, τ3, e3, q⟩ := bindM_some q
  obtain ⟨h, rfl, rfl⟩ := grd_some e3
  obtain ⟨o, h1, h2⟩ := hr _ _ _ _ q
  refine ⟨o, ?_, h2⟩
  simp only [execSs, execS, he _ _ _ e1, hk _ _ _ e2, Option.bind_some, hl]
  show (((opDput t (.dict (d.l.map fun p => (enc p.1, enc p.2))) (enc j) (enc x)).map fun l' => Out.nx (γ.set i (some l')) τ2) : Option Out).bind _ = _
  simp only [opDput, dictOf, Option.bind_some, hk0.kf j, true_and, List.length_map]
  rw [if_pos (by rw [sz]; omega), dput_enc, Option.map_some, Option.bind_some]
  show execSs cf rest (γ.set i (some (enc (d.put j x)))) τ2 = some o
  rw [hg, h1]
end
end Ev
set_option autoImplicit true
set_option maxRecDepth 100000
set_option maxHeartbeats 8000000
set_option linter.all false
set_option Elab.async false
namespace K60
open PySem PySem.Spec PyProof.Rows L2 Ev
def top (i : Nat) : Stmt := PySem.Challenge.pw_tablewright_k60_whole_problems.main.body.getD i (.Pass ⟨0, 0, 0, 0⟩)
def N_holds_at : List Str := ["row", "scope", "rows", "at"]
def ir_holds_at : List IS := [.ret (.cmp .isin (.b1 .tuple (.comp [3] (.n 3) .seq [(.v 1)] .yes (.ix (.v 0) (.v 3)))) (.v 2))]
def N_can_go_on : List Str := ["row", "scope", "rows", "one", "values", "good", "at", "value"]
def ir_can_go_on : List IS := [.for (.n 3) .seq [(.v 2)] [.own 4 .dK (.dnew false), .set (.n 5) (.c (.bool true)), .for (.t [(.n 6), (.n 7)]) .zip [(.v 1), (.v 3)] [.set (.n 5) (.and (.v 5) (.and (.cmp .eq (.dget false (.v 4) (.v 6) (.v 7)) (.v 7)) (.or (.cmp .ge (.v 6) (.b1 .len (.v 0))) (.cmp .eq (.ix (.v 0) (.v 6)) (.v 7))))), .setd false 4 (.v 6) (.v 7)] [6, 7] [.p, .p, .p, .p, .dK, .p, .u, .u], .ite (.v 5) [.ret (.c (.bool true))] []] [3, 4, 5, 6, 7] [.p, .p, .p, .u, .u, .u, .u, .u], .ret (.c (.bool false))]
def N_stopped : List Str := ["limits", "row", "at", "scope", "rows"]
def ir_stopped : List IS := [.for (.t [(.n 2), (.t [(.n 3), (.n 4)])]) .enum [(.v 0)] [.ite (.not (.call 1 [(.v 1), (.v 3), (.v 4)])) [.ret (.v 2)] []] [2, 3, 4] [.p, .p, .u, .u, .u], .ret (.c .none)]
def N_least_from : List Str := ["size", "many", "limits", "row", "value", "found"]
def ir_least_from : List IS := [.ite (.notN (.call 2 [(.v 2), (.v 3)])) [.ret (.c .none)] [], .ite (.cmp .eq (.b1 .len (.v 3)) (.v 1)) [.ret (.v 3)] [], .for (.n 4) .r1 [(.v 0)] [.set (.n 5) (.call 3 [(.v 0), (.v 1), (.v 2), (.bin .add (.v 3) (.lst [(.v 4)]))]), .ite (.notN (.v 5)) [.ret (.v 5)] []] [4, 5] [.p, .p, .p, .p, .u, .u], .ret (.c .none)]
def N_tree_from : List Str := ["size", "many", "limits", "row", "at", "value"]
def ir_tree_from : List IS := [.set (.n 4) (.call 2 [(.v 2), (.v 3)]), .ite (.notN (.v 4)) [.ret (.tup [(.c (.str "stopped")), (.v 4)])] [], .ret (.tup [(.c (.str "split")), (.comp [5] (.n 5) .r1 [(.v 0)] .yes (.call 4 [(.v 0), (.v 1), (.v 2), (.bin .add (.v 3) (.lst [(.v 5)]))]))])]
def N_settle : List Str := ["size", "many", "limits", "found"]
def ir_settle : List IS := [.set (.n 3) (.call 3 [(.v 0), (.v 1), (.v 2), (.lst [])]), .ret (.ite (.isN (.v 3)) (.tup [(.c (.str "none")), (.call 4 [(.v 0), (.v 1), (.v 2), (.lst [])])]) (.tup [(.c (.str "least")), (.v 3)]))]
def N_all_values : List Str := ["size", "many", "limits", "found", "turn", "more", "row", "value"]
def ir_all_values : List IS := [.set (.n 3) (.ite (.isN (.call 2 [(.v 2), (.lst [])])) (.lst [(.lst [])]) (.lst [])), .for (.n 4) .r1 [(.v 1)] [.own 5 .o (.lst []), .for (.n 6) .seq [(.v 3)] [.ext 5 (.comp [7] (.n 7) .r1 [(.v 0)] (.isN (.call 2 [(.v 2), (.bin .add (.v 6) (.lst [(.v 7)]))])) (.bin .add (.v 6) (.lst [(.v 7)])))] [6] [.p, .p, .p, .p, .p, .o, .u, .u], .frz 5, .set (.n 3) (.v 5)] [4, 5, 6] [.p, .p, .p, .p, .u, .u, .u, .u], .ret (.v 3)]
def N_tree_fault : List Str := ["size", "many", "limits", "row", "tree", "value", "below", "right", "fault"]
def ir_tree_fault : List IS := [.ite (.cmp .eq (.ix (.v 4) (.c (.int 0))) (.c (.str "stopped"))) [.set (.n 7) (.and (.cmp2 .le .lt (.c (.int 0)) (.ix (.v 4) (.c (.int 1))) (.b1 .len (.v 2))) (.not (.call 1 [(.v 3), (.ix (.ix (.v 2) (.ix (.v 4) (.c (.int 1)))) (.c (.int 0))), (.ix (.ix (.v 2) (.ix (.v 4) (.c (.int 1)))) (.c (.int 1)))]))), .ret (.ite (.v 7) (.c .none) (.tup [(.c (.str "stopped")), (.v 3)]))] [], .ite (.or (.cmp .eq (.b1 .len (.v 3)) (.v 1)) (.cmp .ne (.b1 .len (.ix (.v 4) (.c (.int 1)))) (.v 0))) [.ret (.tup [(.c (.str "split")), (.v 3)])] [], .for (.t [(.n 5), (.n 6)]) .enum [(.ix (.v 4) (.c (.int 1)))] [.set (.n 8) (.call 7 [(.v 0), (.v 1), (.v 2), (.bin .add (.v 3) (.lst [(.v 5)])), (.v 6)]), .ite (.notN (.v 8)) [.ret (.v 8)] []] [5, 6, 8] [.p, .p, .p, .p, .p, .u, .u, .u, .u], .ret (.c .none)]
def N_settle_fault : List Str := ["size", "many", "limits", "told", "row", "at", "scope", "rows", "value"]
def ir_settle_fault : List IS := [.ite (.cmp .eq (.ix (.v 3) (.c (.int 0))) (.c (.str "none"))) [.ret (.call 7 [(.v 0), (.v 1), (.v 2), (.lst []), (.ix (.v 3) (.c (.int 1)))])] [], .set (.n 4) (.ix (.v 3) (.c (.int 1))), .ite (.or (.cmp .ne (.b1 .len (.v 4)) (.v 1)) (.not (.b1 .all (.comp [8] (.n 8) .seq [(.v 4)] .yes (.cmp2 .le .lt (.c (.int 0)) (.v 8) (.v 0)))))) [.ret (.tup [(.c (.str "values"))])] [], .for (.t [(.n 5), (.t [(.n 6), (.n 7)])]) .enum [(.v 2)] [.ite (.not (.call 0 [(.v 4), (.v 6), (.v 7)])) [.ret (.tup [(.c (.str "limit")), (.v 5)])] []] [5, 6, 7] [.p, .p, .p, .p, .p, .u, .u, .u, .u], .ret (.ite (.cmp .eq (.call 3 [(.v 0), (.v 1), (.v 2), (.lst [])]) (.v 4)) (.c .none) (.tup [(.c (.str "least"))]))]
def N__law_take : List Str := ["state", "most", "cells", "at", "cell", "mixed"]
def ir__law_take : List IS := [.cget 2 0 1, .set (.n 3) (.bin .mod (.stx 0 0) (.clen 2)), .set (.n 4) (.cix 2 (.v 3)), .ite (.cmp .ge (.v 4) (.c (.int 1000000000000000000))) [.cset 2 (.v 3) (.bin .fdiv (.v 4) (.v 1)), .ret (.bin .mod (.v 4) (.v 1))] [], .sset 0 0 (.bin .add (.stx 0 0) (.c (.int 1))), .set (.n 5) (.bin .mod (.b1 .int (.bin .add (.bin .mul (.v 4) (.c (.int 48271))) (.bin .mul (.stx 0 0) (.c (.int 69621))))) (.c (.int 2147483647))), .set (.n 5) (.bin .mod (.b1 .int (.bin .add (.bin .mul (.v 5) (.c (.int 16807))) (.bin .mul (.stx 0 0) (.c (.int 7919))))) (.c (.int 1000000007))), .ret (.bin .mod (.bin .fdiv (.v 5) (.c (.int 7))) (.v 1))]
def N__law_problem : List Str := ["state", "most", "limits", "size", "many", "found", "k", "scope", "rows", "one", "rare", "more", "row", "j", "value"]
def ir__law_problem : List IS := [.set (.n 3) (.bin .add (.c (.int 2)) (.call 9 [(.v 0), (.c (.int 2))])), .set (.n 4) (.bin .add (.c (.int 1)) (.call 9 [(.v 0), (.v 1)])), .own 5 .o (.lst []), .for (.n 6) .r1 [(.call 9 [(.v 0), (.bin .add (.v 2) (.c (.int 1)))])] [.set (.n 7) (.b1 .tuple (.comp [13] (.n 13) .r1 [(.bin .add (.c (.int 1)) (.call 9 [(.v 0), (.c (.int 3))]))] .yes (.call 9 [(.v 0), (.v 4)]))), .set (.n 8) (.lst [(.tup [])]), .for (.n 9) .seq [(.v 7)] [.own 11 .o (.lst []), .for (.n 12) .seq [(.v 8)] [.ext 11 (.comp [14] (.n 14) .r1 [(.v 3)] .yes (.bin .add (.v 12) (.tup [(.v 14)])))] [12] [.st, .p, .p, .p, .p, .o, .p, .p, .p, .p, .u, .o, .u, .u, .u], .frz 11, .set (.n 8) (.v 11)] [9, 11, 12] [.st, .p, .p, .p, .p, .o, .p, .p, .p, .u, .u, .u, .u, .u, .u], .set (.n 10) (.ix (.lst [(.c (.int 2)), (.c (.int 3)), (.c (.int 6))]) (.call 9 [(.v 0), (.c (.int 3))])), .app 5 (.tup [(.v 7), (.comp [12] (.n 12) .seq [(.v 8)] (.cmp .gt (.call 9 [(.v 0), (.v 10)]) (.c (.int 0))) (.v 12))])] [6, 7, 8, 9, 10, 11, 12] [.st, .p, .p, .p, .p, .o, .u, .u, .u, .u, .u, .u, .u, .u, .u], .frz 5, .ret (.tup [(.v 3), (.v 4), (.v 5)])]
def N__law_agrees : List Str := ["scope", "row", "values", "told", "k"]
def ir__law_agrees : List IS := [.own 3 .dK (.dcp (.v 2)), .for (.n 4) .r1 [(.b1 .len (.v 0))] [.ite (.and (.din false false (.ix (.v 0) (.v 4)) (.v 3)) (.cmp .ne (.dix false (.v 3) (.ix (.v 0) (.v 4))) (.ix (.v 1) (.v 4)))) [.ret (.c (.bool false))] [], .setd false 3 (.ix (.v 0) (.v 4)) (.ix (.v 1) (.v 4))] [4] [.p, .p, .pK, .dK, .u], .ret (.c (.bool true))]
def N__law_open : List Str := ["limit", "values", "scope", "rows", "row"]
def ir__law_open : List IS := [.set (.t [(.n 2), (.n 3)]) (.v 0), .ret (.cmp .gt (.b1 .len (.comp [4] (.n 4) .seq [(.v 3)] (.call 11 [(.v 2), (.v 4), (.v 1)]) (.v 4))) (.c (.int 0)))]
def N__law_rows : List Str := ["size", "many", "limits", "found", "turn", "more", "row", "value", "scope", "rows", "k"]
def ir__law_rows : List IS := [.set (.n 3) (.lst [(.lst [])]), .for (.n 4) .r1 [(.v 1)] [.own 5 .o (.lst []), .for (.n 6) .seq [(.v 3)] [.ext 5 (.comp [7] (.n 7) .r1 [(.v 0)] .yes (.bin .add (.v 6) (.lst [(.v 7)])))] [6] [.p, .p, .p, .p, .p, .o, .u, .u, .u, .u, .u], .frz 5, .set (.n 3) (.v 5)] [4, 5, 6] [.p, .p, .p, .p, .u, .u, .u, .u, .u, .u, .u], .ret (.comp [6] (.n 6) .seq [(.v 3)] (.cmp .eq (.b1 .len (.comp [8, 9] (.t [(.n 8), (.n 9)]) .seq [(.v 2)] (.cmp .notin (.b1 .tuple (.comp [10] (.n 10) .seq [(.v 8)] .yes (.ix (.v 6) (.v 10)))) (.v 9)) (.c (.int 1)))) (.c (.int 0))) (.v 6))]
def N__law_tree_fault : List Str := ["size", "many", "limits", "row", "tree", "values", "k", "value", "found"]
def ir__law_tree_fault : List IS := [.own 5 .dK (.dnew false), .for (.n 6) .r1 [(.b1 .len (.v 3))] [.setd false 5 (.v 6) (.ix (.v 3) (.v 6))] [6] [.p, .p, .p, .p, .p, .dK, .u, .u, .u], .ite (.cmp .eq (.ix (.v 4) (.c (.int 0))) (.c (.str "stopped"))) [.frz 5, .ret (.ite (.and (.cmp2 .le .lt (.c (.int 0)) (.ix (.v 4) (.c (.int 1))) (.b1 .len (.v 2))) (.not (.call 12 [(.ix (.v 2) (.ix (.v 4) (.c (.int 1)))), (.v 5)]))) (.c .none) (.tup [(.c (.str "stopped")), (.v 3)]))] [], .ite (.or (.cmp .eq (.b1 .len (.v 3)) (.v 1)) (.cmp .ne (.b1 .len (.ix (.v 4) (.c (.int 1)))) (.v 0))) [.ret (.tup [(.c (.str "split")), (.v 3)])] [], .for (.n 7) .r1 [(.v 0)] [.set (.n 8) (.call 14 [(.v 0), (.v 1), (.v 2), (.bin .add (.v 3) (.lst [(.v 7)])), (.ix (.ix (.v 4) (.c (.int 1))) (.v 7))]), .ite (.notN (.v 8)) [.ret (.v 8)] []] [7, 8] [.p, .p, .p, .p, .p, .dK, .u, .u, .u], .ret (.c .none)]
def N__law_fault : List Str := ["size", "many", "limits", "good", "told", "row", "k", "one"]
def ir__law_fault : List IS := [.ite (.cmp .eq (.ix (.v 4) (.c (.int 0))) (.c (.str "none"))) [.ret (.call 14 [(.v 0), (.v 1), (.v 2), (.lst []), (.ix (.v 4) (.c (.int 1)))])] [], .set (.n 5) (.ix (.v 4) (.c (.int 1))), .ite (.or (.cmp .ne (.b1 .len (.v 5)) (.v 1)) (.cmp .gt (.b1 .len (.comp [7] (.n 7) .seq [(.v 5)] (.not (.cmp2 .le .lt (.c (.int 0)) (.v 7) (.v 0))) (.v 7))) (.c (.int 0)))) [.ret (.tup [(.c (.str "values"))])] [], .for (.n 6) .r1 [(.b1 .len (.v 2))] [.ite (.cmp .notin (.b1 .tuple (.comp [7] (.n 7) .seq [(.ix (.ix (.v 2) (.v 6)) (.c (.int 0)))] .yes (.ix (.v 5) (.v 7)))) (.ix (.ix (.v 2) (.v 6)) (.c (.int 1)))) [.ret (.tup [(.c (.str "limit")), (.v 6)])] []] [6] [.p, .p, .p, .p, .p, .p, .u, .u], .ret (.ite (.cmp .eq (.ix (.v 3) (.c (.int 0))) (.v 5)) (.c .none) (.tup [(.c (.str "least"))]))]
def N__law_bent_tree : List Str := ["state", "tree", "at"]
def ir__law_bent_tree : List IS := [.ite (.and (.cmp .eq (.ix (.v 1) (.c (.int 0))) (.c (.str "split"))) (.and (.cmp .gt (.b1 .len (.ix (.v 1) (.c (.int 1)))) (.c (.int 0))) (.cmp .gt (.call 9 [(.v 0), (.c (.int 3))]) (.c (.int 0))))) [.set (.n 2) (.call 9 [(.v 0), (.b1 .len (.ix (.v 1) (.c (.int 1))))]), .ret (.tup [(.c (.str "split")), (.bin .add (.bin .add (.slT (.ix (.v 1) (.c (.int 1))) (.v 2)) (.lst [(.call 16 [(.v 0), (.ix (.ix (.v 1) (.c (.int 1))) (.v 2))])])) (.slF (.ix (.v 1) (.c (.int 1))) (.bin .add (.v 2) (.c (.int 1)))))])] [], .ret (.ix (.lst [(.tup [(.c (.str "stopped")), (.bin .sub (.call 9 [(.v 0), (.c (.int 7))]) (.c (.int 1)))]), (.tup [(.c (.str "split")), (.lst [])]), (.tup [(.c (.str "split")), (.lst [(.v 1), (.v 1)])])]) (.call 9 [(.v 0), (.c (.int 3))]))]
def N_law : List Str := ["script", "state", "size", "many", "limits", "kept", "good", "told", "row", "k", "other"]
def ir_law : List IS := [.set (.t [(.n 2), (.n 3), (.n 4)]) (.call 10 [(.v 1), (.c (.int 5)), (.c (.int 5))]), .set (.n 5) (.b1 .repr (.v 4)), .set (.n 6) (.call 13 [(.v 2), (.v 3), (.v 4)]), .set (.n 7) (.call 5 [(.v 2), (.v 3), (.v 4)]), .ite (.or (.not (.isi .tup (.v 7))) (.or (.cmp .ne (.ix (.v 7) (.c (.int 0))) (.ite (.cmp .gt (.b1 .len (.v 6)) (.c (.int 0))) (.c (.str "least")) (.c (.str "none")))) (.cmp .ne (.call 6 [(.v 2), (.v 3), (.v 4)]) (.v 6)))) [.ret (.c (.bool false))] [], .ite (.or (.notN (.call 15 [(.v 2), (.v 3), (.v 4), (.v 6), (.v 7)])) (.or (.notN (.call 8 [(.v 2), (.v 3), (.v 4), (.v 7)])) (.cmp .ne (.b1 .repr (.v 4)) (.v 5)))) [.ret (.c (.bool false))] [], .for (.n 8) .seq [(.slT (.v 6) (.c (.int 5)))] [.ite (.cmp .ne (.call 8 [(.v 2), (.v 3), (.v 4), (.tup [(.c (.str "least")), (.v 8)])]) (.ite (.cmp .eq (.v 8) (.ix (.v 6) (.c (.int 0)))) (.c .none) (.tup [(.c (.str "least"))]))) [.ret (.c (.bool false))] []] [8] [.u, .st, .p, .p, .p, .p, .p, .p, .u, .u, .u], .for (.n 9) .r1 [(.c (.int 7))] [.ite (.cmp .eq (.ix (.v 7) (.c (.int 0))) (.c (.str "none"))) [.set (.n 10) (.tup [(.c (.str "none")), (.call 16 [(.v 1), (.ix (.v 7) (.c (.int 1)))])])] [.own 8 .o (.b1 .list (.ix (.v 7) (.c (.int 1)))), .setix 8 (.call 9 [(.v 1), (.b1 .len (.v 8))]) (.bin .sub (.call 9 [(.v 1), (.bin .add (.v 2) (.c (.int 2)))]) (.c (.int 1))), .frz 8, .set (.n 10) (.ix (.lst [(.tup [(.c (.str "least")), (.v 8)]), (.tup [(.c (.str "least")), (.v 8)]), (.tup [(.c (.str "least")), (.slF (.v 8) (.c (.int 1)))]), (.tup [(.c (.str "none")), (.tup [(.c (.str "stopped")), (.call 9 [(.v 1), (.c (.int 3))])])])]) (.call 9 [(.v 1), (.c (.int 4))]))], .ite (.cmp .ne (.call 8 [(.v 2), (.v 3), (.v 4), (.v 10)]) (.call 15 [(.v 2), (.v 3), (.v 4), (.v 6), (.v 10)])) [.ret (.c (.bool false))] []] [8, 9, 10] [.u, .st, .p, .p, .p, .p, .p, .p, .u, .u, .u], .ret (.cmp .eq (.b1 .repr (.v 4)) (.v 5))]
def P : Prg := [.body [.p, .p, .p] .p 4 ir_holds_at, .body [.p, .p, .p] .p 8 ir_can_go_on, .body [.p, .p] .p 5 ir_stopped, .body [.p, .p, .p, .p] .p 6 ir_least_from, .body [.p, .p, .p, .p] .p 6 ir_tree_from, .body [.p, .p, .p] .p 4 ir_settle, .body [.p, .p, .p] .p 8 ir_all_values, .body [.p, .p, .p, .p, .p] .p 9 ir_tree_fault, .body [.p, .p, .p, .p] .p 9 ir_settle_fault, .body [.st, .p] .p 6 ir__law_take, .body [.st, .p, .p] .p 15 ir__law_problem, .body [.p, .p, .pK] .p 5 ir__law_agrees, .body [.p, .pK] .p 5 ir__law_open, .body [.p, .p, .p] .p 11 ir__law_rows, .body [.p, .p, .p, .p, .p] .p 9 ir__law_tree_fault, .body [.p, .p, .p, .p, .p] .p 8 ir__law_fault, .body [.st, .p] .p 3 ir__law_bent_tree]
def fnn : List Str := ["holds_at", "can_go_on", "stopped", "least_from", "tree_from", "settle", "all_values", "tree_fault", "settle_fault", "_law_take", "_law_problem", "_law_agrees", "_law_open", "_law_rows", "_law_tree_fault", "_law_fault", "_law_bent_tree"]
def bls : List Str := ["abs", "all", "dict", "enumerate", "int", "isinstance", "len", "list", "range", "repr", "tuple", "zip"]
def G : PG0 := ⟨P, fnn, bls⟩
theorem ck_holds_at : chkD G N_holds_at ["row", "scope", "rows"] [.p, .p, .p] .p ir_holds_at (top 1) = true := by decide +kernel
theorem bo_holds_at : BindsOk "holds_at" (top 1) ["row", "scope", "rows"] := fun _ _ _ _ _ _ us hl => match us, hl with | [_, _, _], _ => rfl
theorem ck_can_go_on : chkD G N_can_go_on ["row", "scope", "rows"] [.p, .p, .p] .p ir_can_go_on (top 2) = true := by decide +kernel
theorem bo_can_go_on : BindsOk "can_go_on" (top 2) ["row", "scope", "rows"] := fun _ _ _ _ _ _ us hl => match us, hl with | [_, _, _], _ => rfl
theorem ck_stopped : chkD G N_stopped ["limits", "row"] [.p, .p] .p ir_stopped (top 3) = true := by decide +kernel
theorem bo_stopped : BindsOk "stopped" (top 3) ["limits", "row"] := fun _ _ _ _ _ _ us hl => match us, hl with | [_, _], _ => rfl
theorem ck_least_from : chkD G N_least_from ["size", "many", "limits", "row"] [.p, .p, .p, .p] .p ir_least_from (top 4) = true := by decide +kernel
theorem bo_least_from : BindsOk "least_from" (top 4) ["size", "many", "limits", "row"] := fun _ _ _ _ _ _ us hl => match us, hl with | [_, _, _, _], _ => rfl
theorem ck_tree_from : chkD G N_tree_from ["size", "many", "limits", "row"] [.p, .p, .p, .p] .p ir_tree_from (top 5) = true := by decide +kernel
theorem bo_tree_from : BindsOk "tree_from" (top 5) ["size", "many", "limits", "row"] := fun _ _ _ _ _ _ us hl => match us, hl with | [_, _, _, _], _ => rfl
theorem ck_settle : chkD G N_settle ["size", "many", "limits"] [.p, .p, .p] .p ir_settle (top 6) = true := by decide +kernel
theorem bo_settle : BindsOk "settle" (top 6) ["size", "many", "limits"] := fun _ _ _ _ _ _ us hl => match us, hl with | [_, _, _], _ => rfl
theorem ck_all_values : chkD G N_all_values ["size", "many", "limits"] [.p, .p, .p] .p ir_all_values (top 7) = true := by decide +kernel
theorem bo_all_values : BindsOk "all_values" (top 7) ["size", "many", "limits"] := fun _ _ _ _ _ _ us hl => match us, hl with | [_, _, _], _ => rfl
theorem ck_tree_fault : chkD G N_tree_fault ["size", "many", "limits", "row", "tree"] [.p, .p, .p, .p, .p] .p ir_tree_fault (top 8) = true := by decide +kernel
theorem bo_tree_fault : BindsOk "tree_fault" (top 8) ["size", "many", "limits", "row", "tree"] := fun _ _ _ _ _ _ us hl => match us, hl with | [_, _, _, _, _], _ => rfl
theorem ck_settle_fault : chkD G N_settle_fault ["size", "many", "limits", "told"] [.p, .p, .p, .p] .p ir_settle_fault (top 9) = true := by decide +kernel
theorem bo_settle_fault : BindsOk "settle_fault" (top 9) ["size", "many", "limits", "told"] := fun _ _ _ _ _ _ us hl => match us, hl with | [_, _, _, _], _ => rfl
theorem ck__law_take : chkD G N__law_take ["state", "most"] [.st, .p] .p ir__law_take (top 12) = true := by decide +kernel
theorem bo__law_take : BindsOk "_law_take" (top 12) ["state", "most"] := fun _ _ _ _ _ _ us hl => match us, hl with | [_, _], _ => rfl
theorem ck__law_problem : chkD G N__law_problem ["state", "most", "limits"] [.st, .p, .p] .p ir__law_problem (top 13) = true := by decide +kernel
theorem bo__law_problem : BindsOk "_law_problem" (top 13) ["state", "most", "limits"] := fun _ _ _ _ _ _ us hl => match us, hl with | [_, _, _], _ => rfl
theorem ck__law_agrees : chkD G N__law_agrees ["scope", "row", "values"] [.p, .p, .pK] .p ir__law_agrees (top 14) = true := by decide +kernel
theorem bo__law_agrees : BindsOk "_law_agrees" (top 14) ["scope", "row", "values"] := fun _ _ _ _ _ _ us hl => match us, hl with | [_, _, _], _ => rfl
theorem ck__law_open : chkD G N__law_open ["limit", "values"] [.p, .pK] .p ir__law_open (top 15) = true := by decide +kernel
theorem bo__law_open : BindsOk "_law_open" (top 15) ["limit", "values"] := fun _ _ _ _ _ _ us hl => match us, hl with | [_, _], _ => rfl
theorem ck__law_rows : chkD G N__law_rows ["size", "many", "limits"] [.p, .p, .p] .p ir__law_rows (top 16) = true := by decide +kernel
theorem bo__law_rows : BindsOk "_law_rows" (top 16) ["size", "many", "limits"] := fun _ _ _ _ _ _ us hl => match us, hl with | [_, _, _], _ => rfl
theorem ck__law_tree_fault : chkD G N__law_tree_fault ["size", "many", "limits", "row", "tree"] [.p, .p, .p, .p, .p] .p ir__law_tree_fault (top 17) = true := by decide +kernel
theorem bo__law_tree_fault : BindsOk "_law_tree_fault" (top 17) ["size", "many", "limits", "row", "tree"] := fun _ _ _ _ _ _ us hl => match us, hl with | [_, _, _, _, _], _ => rfl
theorem ck__law_fault : chkD G N__law_fault ["size", "many", "limits", "good", "told"] [.p, .p, .p, .p, .p] .p ir__law_fault (top 18) = true := by decide +kernel
theorem bo__law_fault : BindsOk "_law_fault" (top 18) ["size", "many", "limits", "good", "told"] := fun _ _ _ _ _ _ us hl => match us, hl with | [_, _, _, _, _], _ => rfl
theorem ck__law_bent_tree : chkD G N__law_bent_tree ["state", "tree"] [.st, .p] .p ir__law_bent_tree (top 19) = true := by decide +kernel
theorem bo__law_bent_tree : BindsOk "_law_bent_tree" (top 19) ["state", "tree"] := fun _ _ _ _ _ _ us hl => match us, hl with | [_, _], _ => rfl
def N_st : List Str := ["script", "cells", "cell"]
theorem ck_st1 : chkSc N_st ["script"] (top 11) = true := by decide +kernel
theorem ck_st2 : chkScr bls N_st (top 11) = true := by decide +kernel
theorem bo_st : BindsOk "_law_state" (top 11) ["script"] := fun _ _ _ _ _ _ us hl => match us, hl with | [_], _ => rfl
theorem ck_law1 : chkSc N_law ["script"] (top 20) = true := by decide +kernel
theorem ck_law2 : chkLaw G N_law "_law_state" ir_law (top 20) = true := by decide +kernel
theorem bo_law : BindsOk "law" (top 20) ["script"] := fun _ _ _ _ _ _ us hl => match us, hl with | [_], _ => rfl
def fnD : List He.DefD := [toD "holds_at" (top 1), toD "can_go_on" (top 2), toD "stopped" (top 3), toD "least_from" (top 4), toD "tree_from" (top 5), toD "settle" (top 6), toD "all_values" (top 7), toD "tree_fault" (top 8), toD "settle_fault" (top 9), toD "_law_take" (top 12), toD "_law_problem" (top 13), toD "_law_agrees" (top 14), toD "_law_open" (top 15), toD "_law_rows" (top 16), toD "_law_tree_fault" (top 17), toD "_law_fault" (top 18), toD "_law_bent_tree" (top 19), toD "_law_state" (top 11), toD "law" (top 20)]
def faD : List He.Fa := [.glo "holds_at", .glo "can_go_on", .glo "stopped", .glo "least_from", .glo "tree_from", .glo "settle", .glo "all_values", .glo "tree_fault", .glo "settle_fault", .glo "_law_take", .glo "_law_problem", .glo "_law_agrees", .glo "_law_open", .glo "_law_rows", .glo "_law_tree_fault", .glo "_law_fault", .glo "_law_bent_tree", .glo "_law_state", .glo "law", .free "abs", .free "all", .free "dict", .free "enumerate", .free "int", .free "isinstance", .free "len", .free "list", .free "range", .free "repr", .free "tuple", .free "zip"]
section
variable {Q : Program} {w : World} {K : PySem.W.Frag} {mg : Str → Option Value} {h : Heap}
theorem bl_ok (c : He.SaysD faD fnD K) (KX : K.In h) (hG : h.Ns mainGlobals mg) : ∀ x ∈ G.bl, mg x = none := fun x hx => by
  have hx : x ∈ bls := hx
  simp only [bls, List.mem_cons, List.not_mem_nil, or_false] at hx
  rcases hx with rfl | rfl | rfl | rfl | rfl | rfl | rfl | rfl | rfl | rfl | rfl | rfl
  · exact He.free_ok KX hG (c.fact 19 rfl)
  · exact He.free_ok KX hG (c.fact 20 rfl)
  · exact He.free_ok KX hG (c.fact 21 rfl)
  · exact He.free_ok KX hG (c.fact 22 rfl)
  · exact He.free_ok KX hG (c.fact 23 rfl)
  · exact He.free_ok KX hG (c.fact 24 rfl)
  · exact He.free_ok KX hG (c.fact 25 rfl)
  · exact He.free_ok KX hG (c.fact 26 rfl)
  · exact He.free_ok KX hG (c.fact 27 rfl)
  · exact He.free_ok KX hG (c.fact 28 rfl)
  · exact He.free_ok KX hG (c.fact 29 rfl)
  · exact He.free_ok KX hG (c.fact 30 rfl)
theorem defs_ok {base : Heap} (c : He.SaysD faD fnD K) (KX : K.In h) (hG : h.Ns mainGlobals mg) : ∀ f fd x, G.P[f]? = some fd → G.fn[f]? = some x → DefOk Q w K mg base G f fd x := by
  intro f fd x h1 h2
  have hb := bl_ok c KX hG
  match f, h1, h2 with
  | 0, h1, h2 => cases (show some _ = some fd from h1); cases (show some _ = some x from h2); exact defOk_mk c KX hG hb (i := 0) (j := 0) rfl rfl rfl rfl bo_holds_at ck_holds_at
  | 1, h1, h2 => cases (show some _ = some fd from h1); cases (show some _ = some x from h2); exact defOk_mk c KX hG hb (i := 1) (j := 1) rfl rfl rfl rfl bo_can_go_on ck_can_go_on
  | 2, h1, h2 => cases (show some _ = some fd from h1); cases (show some _ = some x from h2); exact defOk_mk c KX hG hb (i := 2) (j := 2) rfl rfl rfl rfl bo_stopped ck_stopped
  | 3, h1, h2 => cases (show some _ = some fd from h1); cases (show some _ = some x from h2); exact defOk_mk c KX hG hb (i := 3) (j := 3) rfl rfl rfl rfl bo_least_from ck_least_from
  | 4, h1, h2 => cases (show some _ = some fd from h1); cases (show some _ = some x from h2); exact defOk_mk c KX hG hb (i := 4) (j := 4) rfl rfl rfl rfl bo_tree_from ck_tree_from
  | 5, h1, h2 => cases (show some _ = some fd from h1); cases (show some _ = some x from h2); exact defOk_mk c KX hG hb (i := 5) (j := 5) rfl rfl rfl rfl bo_settle ck_settle
  | 6, h1, h2 => cases (show some _ = some fd from h1); cases (show some _ = some x from h2); exact defOk_mk c KX hG hb (i := 6) (j := 6) rfl rfl rfl rfl bo_all_values ck_all_values
  | 7, h1, h2 => cases (show some _ = some fd from h1); cases (show some _ = some x from h2); exact defOk_mk c KX hG hb (i := 7) (j := 7) rfl rfl rfl rfl bo_tree_fault ck_tree_fault
  | 8, h1, h2 => cases (show some _ = some fd from h1); cases (show some _ = some x from h2); exact defOk_mk c KX hG hb (i := 8) (j := 8) rfl rfl rfl rfl bo_settle_fault ck_settle_fault
  | 9, h1, h2 => cases (show some _ = some fd from h1); cases (show some _ = some x from h2); exact defOk_mk c KX hG hb (i := 9) (j := 9) rfl rfl rfl rfl bo__law_take ck__law_take
  | 10, h1, h2 => cases (show some _ = some fd from h1); cases (show some _ = some x from h2); exact defOk_mk c KX hG hb (i := 10) (j := 10) rfl rfl rfl rfl bo__law_problem ck__law_problem
  | 11, h1, h2 => cases (show some _ = some fd from h1); cases (show some _ = some x from h2); exact defOk_mk c KX hG hb (i := 11) (j := 11) rfl rfl rfl rfl bo__law_agrees ck__law_agrees
  | 12, h1, h2 => cases (show some _ = some fd from h1); cases (show some _ = some x from h2); exact defOk_mk c KX hG hb (i := 12) (j := 12) rfl rfl rfl rfl bo__law_open ck__law_open
  | 13, h1, h2 => cases (show some _ = some fd from h1); cases (show some _ = some x from h2); exact defOk_mk c KX hG hb (i := 13) (j := 13) rfl rfl rfl rfl bo__law_rows ck__law_rows
  | 14, h1, h2 => cases (show some _ = some fd from h1); cases (show some _ = some x from h2); exact defOk_mk c KX hG hb (i := 14) (j := 14) rfl rfl rfl rfl bo__law_tree_fault ck__law_tree_fault
  | 15, h1, h2 => cases (show some _ = some fd from h1); cases (show some _ = some x from h2); exact defOk_mk c KX hG hb (i := 15) (j := 15) rfl rfl rfl rfl bo__law_fault ck__law_fault
  | 16, h1, h2 => cases (show some _ = some fd from h1); cases (show some _ = some x from h2); exact defOk_mk c KX hG hb (i := 16) (j := 16) rfl rfl rfl rfl bo__law_bent_tree ck__law_bent_tree
  | k + 17, h1, h2 => cases (show none = some fd from h1)
theorem facts {f : Addr} {n : Nat} (hR : Room (n + 2) callerA) (c : He.SaysD faD fnD K) (KX : K.In h) (hG : h.Ns mainGlobals mg) (hfa : mg "law" = some (.ref f)) (run : ∀ ns : List Int, ns.length ≤ 63 → ∃ τ', execSs (callF P (n + 1)) ir_law (gaL N_law) (some (tape0 ns)) = some (.rt (.bool true) τ')) :
    ∀ base : Heap, K.In base → base.Ns mainGlobals mg → LawRun Q w K mg base f := by
  obtain ⟨fdL, FL⟩ := def_at c 18 (x := "law") (st := top 20) rfl
  obtain ⟨fdS, FS⟩ := def_at c 17 (x := "_law_state") (st := top 11) rfl
  have e := hfa.symm.trans (He.glo_ok KX hG (c.fact 18 (f := .glo "law") rfl))
  cases e
  have b := FL.bindsA (ps := ["script"]) bo_law
  have hb := bl_ok c KX hG
  intro base _ _
  exact law_run FL (fnScope_ok ck_law1).1 hR (fun s v => b s [v] rfl) fun cdv s H vs Q' E hr sp => law_body (G := G) (y := "_law_state") hb (calls_all (defs_ok c KX hG) (n + 1)) FL (state_ok (n := n) (bl := bls) hb FS ck_st1 ck_st2) (He.glo_ok KX hG (c.fact 17 (f := .glo "_law_state") rfl)) FS.kp (FS.bindsN bo_st) ck_law1 ck_law2 run rfl hr sp
end
abbrev R : PySem.W.OpenRow := PySem.W.OpenLaw.row PySem.Challenge.rw_tablewright_k60_whole_problems
abbrev hk : PySem.W.Hook := He.hookD 4 faD fnD
def ob (s : PySem.W.SharedT) : He.AlD := He.obsDG 4 faD fnD (HandSHeadRun.getT s)
theorem ob_eq (s : PySem.W.SharedT) : ob s = hk.obs s.abs := He.obsDG_eq (HandSHeadRun.getT_eq s)
def loose : List Str := ["holds_at", "can_go_on", "stopped", "least_from", "tree_from", "settle", "all_values", "tree_fault", "settle_fault", "_law_take", "_law_problem", "_law_agrees", "_law_open", "_law_rows", "_law_tree_fault", "_law_fault", "_law_bent_tree", "_law_state"]
theorem run (w : World) : HandSHeadRun.RunEq R (PySem.W.view R.prog [20]) hk ob 4000 loose w := by
  intro os
  kernel_rfl
end K60
set_option autoImplicit false
set_option maxRecDepth 100000
set_option maxHeartbeats 8000000
set_option linter.all false
set_option Elab.async false
namespace K60
open PySem Ev
open Ev.Enc (enc)
open Ev.Dec (dec)
theorem take_c (N : Nat) (h : 1 ≤ N) : C2 (callF P N) 9 (fun (_ : Unit) (n : Nat) => takeM n) := take_call (p := [.st, .p]) (r := .p) (i := 9) rfl N h
def m_holds_at (row : (List Nat)) (scope : (Tu Nat)) (rows : (List (Tu Nat))) : M Bool := ((((((pure scope) >>= fun (x7 : (Tu Nat)) => pure x7.l) >>= fun (xs11 : List Nat) => mapL (fun (i8 : Nat) => ((pure row) >>= fun (x9 : (List Nat)) => (pure i8) >>= fun (x10 : Nat) => atL x9 x10)) xs11) >>= fun (x12 : (List Nat)) => pure (Tu.mk x12)) >>= fun (x13 : (Tu Nat)) => (pure rows) >>= fun (x14 : (List (Tu Nat))) => pure (decide (x13 ∈ x14))) >>= fun (x15 : Bool) => pure x15)
theorem ok_holds_at : ∀ (N : Nat), 1 ≤ N → C3 (callF P N) 0 m_holds_at
  | N + 1, hN => fun row scope rows _ _ _ e => by
    exact call_ok (γ0 := [some (enc (row : (List Nat))), some (enc (scope : (Tu Nat))), some (enc (rows : (List (Tu Nat)))), none]) (rfl : P[0]? = some (.body _ _ 4 ir_holds_at)) rfl ((S_ret (wrap := fun x => x) (E_cmp (o_inL (by decide)) (E_b1 o_tupL (E_map (g := (fun (i8 : Nat) => ([some (enc (row : (List Nat))), some (enc (scope : (Tu Nat))), some (enc (rows : (List (Tu Nat)))), some (enc (i8 : Nat))] : En))) (W_T (E_v rfl)) (fun _ => rfl) (fun i8 => (E_ix o_atL (E_v rfl) (E_v rfl))))) (E_v rfl)) (fun x τ => (kF_rt x τ)))) e
def m_can_go_on (row : (List Nat)) (scope : (Tu Nat)) (rows : (List (Tu Nat))) : M Bool := ((pure rows) >>= fun (xs39 : List (Tu Nat)) => loopL (fun (s1 : Unit) (i3 : (Tu Nat)) => ((pure (Dm.mk [] : (Dm Nat Nat))) >>= fun (values4 : (Dm Nat Nat)) => ((pure true) >>= fun (good5 : Bool) => (((pure scope) >>= fun (x8 : (Tu Nat)) => (pure i3) >>= fun (x9 : (Tu Nat)) => pure (x8.l.zip x9.l)) >>= fun (xs34 : List (Nat × Nat)) => foldL (fun (s6 : (Dm Nat Nat) × Bool) (i10 : (Nat × Nat)) => (((pure s6.2) >>= fun (q25 : Bool) => if q25 = true then ((((pure s6.1) >>= fun (x11 : (Dm Nat Nat)) => (pure i10.1) >>= fun (x12 : Nat) => (pure i10.2) >>= fun (x13 : Nat) => pure ((Dm.get x11 x12).getD x13)) >>= fun (x14 : Nat) => (pure i10.2) >>= fun (x15 : Nat) => pure (decide (x14 = x15))) >>= fun (q24 : Bool) => if q24 = true then (((pure i10.1) >>= fun (x17 : Nat) => ((pure row) >>= fun (x16 : (List Nat)) => pure x16.length) >>= fun (x18 : Nat) => pure (decide (x18 ≤ x17))) >>= fun (q23 : Bool) => if q23 = true then pure true else (((pure row) >>= fun (x19 : (List Nat)) => (pure i10.1) >>= fun (x20 : Nat) => atL x19 x20) >>= fun (x21 : Nat) => (pure i10.2) >>= fun (x22 : Nat) => pure (decide (x21 = x22)))) else pure false) else pure false) >>= fun (good26 : Bool) => ((pure i10.2) >>= fun (x27 : Nat) => (pure i10.1) >>= fun (x28 : Nat) => putM s6.1 x28 x27 >>= fun (values29 : (Dm Nat Nat)) => (pure (values29, good26))))) (values4, good5) xs34 >>= fun (s30 : (Dm Nat Nat) × Bool) => ((pure s30.2) >>= fun (q32 : Bool) => if q32 = true then ((pure true) >>= fun (x33 : Bool) => pure (Fw.rt x33)) else (pure (Fw.nx ()))))))) () xs39 >>= fun z40 => caseS z40 (fun (s36 : Unit) => ((pure false) >>= fun (x38 : Bool) => pure x38)))
theorem ok_can_go_on : ∀ (N : Nat), 1 ≤ N → C3 (callF P N) 1 m_can_go_on
  | N + 1, hN => fun row scope rows _ _ _ e => by
    exact call_ok (γ0 := [some (enc (row : (List Nat))), some (enc (scope : (Tu Nat))), some (enc (rows : (List (Tu Nat)))), none, none, none, none, none]) (rfl : P[1]? = some (.body _ _ 8 ir_can_go_on)) rfl ((S_forL (env := (fun (s1 : Unit) (js : J) => ([some (enc (row : (List Nat))), some (enc (scope : (Tu Nat))), some (enc (rows : (List (Tu Nat)))), js 3, js 4, js 5, js 6, js 7] : En))) (g := (fun (i3 : (Tu Nat)) (s1 : Unit) (js2 : J) => ([some (enc (row : (List Nat))), some (enc (scope : (Tu Nat))), some (enc (rows : (List (Tu Nat)))), some (enc (i3 : (Tu Nat))), js2 4, js2 5, js2 6, js2 7] : En))) (W_L (E_v rfl)) rfl (fun _ _ => rfl) (fun _ _ _ => rfl) (fun i3 s1 js2 => (S_own (g := fun (values4 : (Dm Nat Nat)) => ([some (enc (row : (List Nat))), some (enc (scope : (Tu Nat))), some (enc (rows : (List (Tu Nat)))), some (enc (i3 : (Tu Nat))), some (enc (values4 : (Dm Nat Nat))), js2 5, js2 6, js2 7] : En)) E_dnew (fun _ => rfl) (fun values4 => (S_set (g := fun (good5 : Bool) => ([some (enc (row : (List Nat))), some (enc (scope : (Tu Nat))), some (enc (rows : (List (Tu Nat)))), some (enc (i3 : (Tu Nat))), some (enc (values4 : (Dm Nat Nat))), some (enc (good5 : Bool)), js2 6, js2 7] : En)) (E_c rfl) (fun _ => rfl) (fun good5 => (S_for (env := (fun (s6 : (Dm Nat Nat) × Bool) (js : J) => ([some (enc (row : (List Nat))), some (enc (scope : (Tu Nat))), some (enc (rows : (List (Tu Nat)))), some (enc (i3 : (Tu Nat))), some (enc (s6.1 : (Dm Nat Nat))), some (enc (s6.2 : Bool)), js 6, js 7] : En))) (g := (fun (i10 : (Nat × Nat)) (s6 : (Dm Nat Nat) × Bool) (js7 : J) => ([some (enc (row : (List Nat))), some (enc (scope : (Tu Nat))), some (enc (rows : (List (Tu Nat)))), some (enc (i3 : (Tu Nat))), some (enc (s6.1 : (Dm Nat Nat))), some (enc (s6.2 : Bool)), some (enc (i10.1 : Nat)), some (enc (i10.2 : Nat))] : En))) (W_zT (E_v rfl) (E_v rfl)) rfl (fun _ _ => rfl) (fun _ _ _ => rfl) (fun i10 s6 js7 => (S_set (g := fun (good26 : Bool) => ([some (enc (row : (List Nat))), some (enc (scope : (Tu Nat))), some (enc (rows : (List (Tu Nat)))), some (enc (i3 : (Tu Nat))), some (enc (s6.1 : (Dm Nat Nat))), some (enc (good26 : Bool)), some (enc (i10.1 : Nat)), some (enc (i10.2 : Nat))] : En)) (E_and (E_v rfl) (E_and (E_cmp (o_eq (by decide)) (E_dget (E_v rfl) (E_v rfl) (E_v rfl)) (E_v rfl)) (E_or (E_cmp o_geN (E_v rfl) (E_b1 o_lenL (E_v rfl))) (E_cmp (o_eq (by decide)) (E_ix o_atL (E_v rfl) (E_v rfl)) (E_v rfl))))) (fun _ => rfl) (fun good26 => (S_setd (g := fun (values29 : (Dm Nat Nat)) => ([some (enc (row : (List Nat))), some (enc (scope : (Tu Nat))), some (enc (rows : (List (Tu Nat)))), some (enc (i3 : (Tu Nat))), some (enc (values29 : (Dm Nat Nat))), some (enc (good26 : Bool)), some (enc (i10.1 : Nat)), some (enc (i10.2 : Nat))] : En)) (E_v rfl) (E_v rfl) rfl (fun _ => rfl) (fun values29 => (S_nil (fun τ => kI_nx rfl τ))))))) (fun s30 js31 => (S_ifl (C_b (E_v rfl)) (S_ret (wrap := fun x33 => (Fw.rt x33)) (E_c rfl) (fun x τ => (kX_rt (kL_rt (kF_rt x τ))))) (S_nil (fun τ => kL_nx rfl τ)))))))))) (fun s36 js37 => (S_ret (wrap := fun x => x) (E_c rfl) (fun x τ => (kF_rt x τ)))))) e
def m_stopped (limits : (List ((Tu Nat) × (List (Tu Nat))))) (row : (List Nat)) : M (Option Nat) := (((pure limits) >>= fun (x3 : (List ((Tu Nat) × (List (Tu Nat))))) => pure (enumL x3)) >>= fun (xs14 : List (Nat × ((Tu Nat) × (List (Tu Nat))))) => loopL (fun (s1 : Unit) (i4 : (Nat × ((Tu Nat) × (List (Tu Nat))))) => ((((pure row) >>= fun (x5 : (List Nat)) => (pure i4.2.1) >>= fun (x6 : (Tu Nat)) => (pure i4.2.2) >>= fun (x7 : (List (Tu Nat))) => m_can_go_on x5 x6 x7) >>= fun (x8 : Bool) => pure (!x8)) >>= fun (q9 : Bool) => if q9 = true then (((pure i4.1) >>= fun x => pure ((fun (x : Nat) => some x) x)) >>= fun (x10 : (Option Nat)) => pure (Fw.rt x10)) else (pure (Fw.nx ())))) () xs14 >>= fun z15 => caseS z15 (fun (s11 : Unit) => ((pure (none : (Option Nat))) >>= fun (x13 : (Option Nat)) => pure x13)))
theorem ok_stopped : ∀ (N : Nat), 2 ≤ N → C2 (callF P N) 2 m_stopped
  | N + 1, hN => fun limits row _ _ _ e => by
    exact call_ok (γ0 := [some (enc (limits : (List ((Tu Nat) × (List (Tu Nat)))))), some (enc (row : (List Nat))), none, none, none]) (rfl : P[2]? = some (.body _ _ 5 ir_stopped)) rfl ((S_forL (env := (fun (s1 : Unit) (js : J) => ([some (enc (limits : (List ((Tu Nat) × (List (Tu Nat)))))), some (enc (row : (List Nat))), js 2, js 3, js 4] : En))) (g := (fun (i4 : (Nat × ((Tu Nat) × (List (Tu Nat))))) (s1 : Unit) (js2 : J) => ([some (enc (limits : (List ((Tu Nat) × (List (Tu Nat)))))), some (enc (row : (List Nat))), some (enc (i4.1 : Nat)), some (enc (i4.2.1 : (Tu Nat))), some (enc (i4.2.2 : (List (Tu Nat))))] : En))) (W_en (E_v rfl)) rfl (fun _ _ => rfl) (fun _ _ _ => rfl) (fun i4 s1 js2 => (S_ifl (C_b (E_not (C_b (E_call3 (ok_can_go_on N (by omega)) (E_v rfl) (E_v rfl) (E_v rfl))))) (S_ret (wrap := fun x10 => (Fw.rt x10)) (E_up (f := (fun (x : Nat) => some x)) (fun _ => rfl) (E_v rfl)) (fun x τ => (kX_rt (kL_rt (kF_rt x τ))))) (S_nil (fun τ => kL_nx rfl τ)))) (fun s11 js12 => (S_ret (wrap := fun x => x) (E_c rfl) (fun x τ => (kF_rt x τ)))))) e
def m_least_from : Nat → Nat → Nat → (List ((Tu Nat) × (List (Tu Nat)))) → (List Nat) → M (Option (List Nat))
  | 0 => fun _ _ _ _ => failM
  | k + 1 => fun (size : Nat) (many : Nat) (limits : (List ((Tu Nat) × (List (Tu Nat))))) (row : (List Nat)) => ((((pure limits) >>= fun (x1 : (List ((Tu Nat) × (List (Tu Nat))))) => (pure row) >>= fun (x2 : (List Nat)) => m_stopped x1 x2) >>= fun (x3 : (Option Nat)) => pure x3.isSome) >>= fun (q4 : Bool) => if q4 = true then ((pure (none : (Option (List Nat)))) >>= fun (x5 : (Option (List Nat))) => pure x5) else ((((pure row) >>= fun (x6 : (List Nat)) => pure x6.length) >>= fun (x7 : Nat) => (pure many) >>= fun (x8 : Nat) => pure (decide (x7 = x8))) >>= fun (q9 : Bool) => if q9 = true then (((pure row) >>= fun x => pure ((fun (x : (List Nat)) => some x) x)) >>= fun (x10 : (Option (List Nat))) => pure x10) else (((pure size) >>= fun (x13 : Nat) => rangeM x13) >>= fun (xs30 : List Nat) => loopL (fun (s11 : Unit) (i14 : Nat) => (((pure size) >>= fun (x19 : Nat) => (pure many) >>= fun (x20 : Nat) => (pure limits) >>= fun (x21 : (List ((Tu Nat) × (List (Tu Nat))))) => ((pure row) >>= fun (x17 : (List Nat)) => ((pure i14) >>= fun (x15 : Nat) => (pure ([] : List Nat)) >>= fun (l16 : List Nat) => pure (x15 :: l16)) >>= fun (x18 : (List Nat)) => appL x17 x18) >>= fun (x22 : (List Nat)) => (m_least_from k) x19 x20 x21 x22) >>= fun (found23 : (Option (List Nat))) => (((pure found23) >>= fun (x24 : (Option (List Nat))) => pure x24.isSome) >>= fun (q25 : Bool) => if q25 = true then ((pure found23) >>= fun (x26 : (Option (List Nat))) => pure (Fw.rt x26)) else (pure (Fw.nx ()))))) () xs30 >>= fun z31 => caseS z31 (fun (s27 : Unit) => ((pure (none : (Option (List Nat)))) >>= fun (x29 : (Option (List Nat))) => pure x29)))))
theorem ok_least_from : ∀ (k N : Nat), k + 3 ≤ N → C4 (callF P N) 3 (m_least_from k)
  | 0, _, _ => fun _ _ _ _ _ _ _ e => (nomatch (show (none : Option ((Option (List Nat)) × Tape)) = some _ from e))
  | k + 1, N + 1, hN => fun size many limits row _ _ _ e => by
    have ih : ∀ N, k + 3 ≤ N → C4 (callF P N) 3 (m_least_from k) := fun N h => ok_least_from k N h
    exact call_ok (γ0 := [some (enc (size : Nat)), some (enc (many : Nat)), some (enc (limits : (List ((Tu Nat) × (List (Tu Nat)))))), some (enc (row : (List Nat))), none, none]) (rfl : P[3]? = some (.body _ _ 6 ir_least_from)) rfl ((S_ifl (C_b (E_notN (fun _ => rfl) (E_call2 (ok_stopped N (by omega)) (E_v rfl) (E_v rfl)))) (S_ret (wrap := fun x => x) (E_c rfl) (fun x τ => (kX_rt (kF_rt x τ)))) (S_ifl (C_b (E_cmp (o_eq (by decide)) (E_b1 o_lenL (E_v rfl)) (E_v rfl))) (S_ret (wrap := fun x => x) (E_up (f := (fun (x : (List Nat)) => some x)) (fun _ => rfl) (E_v rfl)) (fun x τ => (kX_rt (kF_rt x τ)))) (S_forL (env := (fun (s11 : Unit) (js : J) => ([some (enc (size : Nat)), some (enc (many : Nat)), some (enc (limits : (List ((Tu Nat) × (List (Tu Nat)))))), some (enc (row : (List Nat))), js 4, js 5] : En))) (g := (fun (i14 : Nat) (s11 : Unit) (js12 : J) => ([some (enc (size : Nat)), some (enc (many : Nat)), some (enc (limits : (List ((Tu Nat) × (List (Tu Nat)))))), some (enc (row : (List Nat))), some (enc (i14 : Nat)), js12 5] : En))) (W_r1 (E_v rfl)) rfl (fun _ _ => rfl) (fun _ _ _ => rfl) (fun i14 s11 js12 => (S_set (g := fun (found23 : (Option (List Nat))) => ([some (enc (size : Nat)), some (enc (many : Nat)), some (enc (limits : (List ((Tu Nat) × (List (Tu Nat)))))), some (enc (row : (List Nat))), some (enc (i14 : Nat)), some (enc (found23 : (Option (List Nat))))] : En)) (E_call4 (ih N (by omega)) (E_v rfl) (E_v rfl) (E_v rfl) (E_bin o_appL (E_v rfl) (E_lst (Al_cons (E_v rfl) Al_nil)))) (fun _ => rfl) (fun found23 => (S_ifl (C_b (E_notN (fun _ => rfl) (E_v rfl))) (S_ret (wrap := fun x26 => (Fw.rt x26)) (E_v rfl) (fun x τ => (kX_rt (kL_rt (kF_rt x τ))))) (S_nil (fun τ => kL_nx rfl τ)))))) (fun s27 js28 => (S_ret (wrap := fun x => x) (E_c rfl) (fun x τ => (kF_rt x τ)))))))) e
def m_tree_from : Nat → Nat → Nat → (List ((Tu Nat) × (List (Tu Nat)))) → (List Nat) → M D
  | 0 => fun _ _ _ _ => failM
  | k + 1 => fun (size : Nat) (many : Nat) (limits : (List ((Tu Nat) × (List (Tu Nat))))) (row : (List Nat)) => (((pure limits) >>= fun (x1 : (List ((Tu Nat) × (List (Tu Nat))))) => (pure row) >>= fun (x2 : (List Nat)) => m_stopped x1 x2) >>= fun (at_3 : (Option Nat)) => (((pure at_3) >>= fun (x4 : (Option Nat)) => pure x4.isSome) >>= fun (q5 : Bool) => if q5 = true then ((((pure ("stopped" : Str)) >>= fun (x8 : Str) => ((pure at_3) >>= fun (x6 : (Option Nat)) => (pure ([] : List D)) >>= fun (l7 : List D) => pure (enc x6 :: l7)) >>= fun (l9 : List D) => pure (enc x8 :: l9)) >>= fun (x10 : (List D)) => pure (PyData.tuple x10)) >>= fun (x11 : D) => pure x11) else ((((pure ("split" : Str)) >>= fun (x25 : Str) => ((((pure size) >>= fun (x12 : Nat) => rangeM x12) >>= fun (xs22 : List Nat) => mapL (fun (i13 : Nat) => ((pure size) >>= fun (x18 : Nat) => (pure many) >>= fun (x19 : Nat) => (pure limits) >>= fun (x20 : (List ((Tu Nat) × (List (Tu Nat))))) => ((pure row) >>= fun (x16 : (List Nat)) => ((pure i13) >>= fun (x14 : Nat) => (pure ([] : List Nat)) >>= fun (l15 : List Nat) => pure (x14 :: l15)) >>= fun (x17 : (List Nat)) => appL x16 x17) >>= fun (x21 : (List Nat)) => (m_tree_from k) x18 x19 x20 x21)) xs22) >>= fun (x23 : (List D)) => (pure ([] : List D)) >>= fun (l24 : List D) => pure (enc x23 :: l24)) >>= fun (l26 : List D) => pure (enc x25 :: l26)) >>= fun (x27 : (List D)) => pure (PyData.tuple x27)) >>= fun (x28 : D) => pure x28)))
theorem ok_tree_from : ∀ (k N : Nat), k + 3 ≤ N → C4 (callF P N) 4 (m_tree_from k)
  | 0, _, _ => fun _ _ _ _ _ _ _ e => (nomatch (show (none : Option (D × Tape)) = some _ from e))
  | k + 1, N + 1, hN => fun size many limits row _ _ _ e => by
    have ih : ∀ N, k + 3 ≤ N → C4 (callF P N) 4 (m_tree_from k) := fun N h => ok_tree_from k N h
    exact call_ok (γ0 := [some (enc (size : Nat)), some (enc (many : Nat)), some (enc (limits : (List ((Tu Nat) × (List (Tu Nat)))))), some (enc (row : (List Nat))), none, none]) (rfl : P[4]? = some (.body _ _ 6 ir_tree_from)) rfl ((S_set (g := fun (at_3 : (Option Nat)) => ([some (enc (size : Nat)), some (enc (many : Nat)), some (enc (limits : (List ((Tu Nat) × (List (Tu Nat)))))), some (enc (row : (List Nat))), some (enc (at_3 : (Option Nat))), none] : En)) (E_call2 (ok_stopped N (by omega)) (E_v rfl) (E_v rfl)) (fun _ => rfl) (fun at_3 => (S_ifl (C_b (E_notN (fun _ => rfl) (E_v rfl))) (S_ret (wrap := fun x => x) (E_tupD (A_cons (E_c rfl) (A_cons (E_v rfl) A_nil))) (fun x τ => (kX_rt (kF_rt x τ)))) (S_ret (wrap := fun x => x) (E_tupD (A_cons (E_c rfl) (A_cons (E_map (g := (fun (i13 : Nat) => ([some (enc (size : Nat)), some (enc (many : Nat)), some (enc (limits : (List ((Tu Nat) × (List (Tu Nat)))))), some (enc (row : (List Nat))), some (enc (at_3 : (Option Nat))), some (enc (i13 : Nat))] : En))) (W_r1 (E_v rfl)) (fun _ => rfl) (fun i13 => (E_call4 (ih N (by omega)) (E_v rfl) (E_v rfl) (E_v rfl) (E_bin o_appL (E_v rfl) (E_lst (Al_cons (E_v rfl) Al_nil)))))) A_nil))) (fun x τ => (kF_rt x τ))))))) e
def m_settle (size : Nat) (many : Nat) (limits : (List ((Tu Nat) × (List (Tu Nat))))) : M D := (((pure size) >>= fun (x1 : Nat) => (pure many) >>= fun (x2 : Nat) => (pure limits) >>= fun (x3 : (List ((Tu Nat) × (List (Tu Nat))))) => (pure ([] : List Nat)) >>= fun (x4 : (List Nat)) => (m_least_from 12) x1 x2 x3 x4) >>= fun (found5 : (Option (List Nat))) => ((((pure found5) >>= fun (x6 : (Option (List Nat))) => pure x6.isNone) >>= fun (q21 : Bool) => if q21 = true then (((pure ("none" : Str)) >>= fun (x13 : Str) => (((pure size) >>= fun (x7 : Nat) => (pure many) >>= fun (x8 : Nat) => (pure limits) >>= fun (x9 : (List ((Tu Nat) × (List (Tu Nat))))) => (pure ([] : List Nat)) >>= fun (x10 : (List Nat)) => (m_tree_from 12) x7 x8 x9 x10) >>= fun (x11 : D) => (pure ([] : List D)) >>= fun (l12 : List D) => pure (enc x11 :: l12)) >>= fun (l14 : List D) => pure (enc x13 :: l14)) >>= fun (x15 : (List D)) => pure (PyData.tuple x15)) else (((pure ("least" : Str)) >>= fun (x18 : Str) => ((pure found5) >>= fun (x16 : (Option (List Nat))) => (pure ([] : List D)) >>= fun (l17 : List D) => pure (enc x16 :: l17)) >>= fun (l19 : List D) => pure (enc x18 :: l19)) >>= fun (x20 : (List D)) => pure (PyData.tuple x20))) >>= fun (x22 : D) => pure x22))
theorem ok_settle : ∀ (N : Nat), 16 ≤ N → C3 (callF P N) 5 m_settle
  | N + 1, hN => fun size many limits _ _ _ e => by
    exact call_ok (γ0 := [some (enc (size : Nat)), some (enc (many : Nat)), some (enc (limits : (List ((Tu Nat) × (List (Tu Nat)))))), none]) (rfl : P[5]? = some (.body _ _ 4 ir_settle)) rfl ((S_set (g := fun (found5 : (Option (List Nat))) => ([some (enc (size : Nat)), some (enc (many : Nat)), some (enc (limits : (List ((Tu Nat) × (List (Tu Nat)))))), some (enc (found5 : (Option (List Nat))))] : En)) (E_call4 (ok_least_from 12 N (by omega)) (E_v rfl) (E_v rfl) (E_v rfl) (E_lst Al_nil)) (fun _ => rfl) (fun found5 => (S_ret (wrap := fun x => x) (E_ite (C_b (E_isN (fun _ => rfl) (E_v rfl))) (E_tupD (A_cons (E_c rfl) (A_cons (E_call4 (ok_tree_from 12 N (by omega)) (E_v rfl) (E_v rfl) (E_v rfl) (E_lst Al_nil)) A_nil))) (E_tupD (A_cons (E_c rfl) (A_cons (E_v rfl) A_nil)))) (fun x τ => (kF_rt x τ)))))) e
def m_all_values (size : Nat) (many : Nat) (limits : (List ((Tu Nat) × (List (Tu Nat))))) : M (List (List Nat)) := (((((pure limits) >>= fun (x1 : (List ((Tu Nat) × (List (Tu Nat))))) => (pure ([] : List Nat)) >>= fun (x2 : (List Nat)) => m_stopped x1 x2) >>= fun (x3 : (Option Nat)) => pure x3.isNone) >>= fun (q6 : Bool) => if q6 = true then ((pure ([] : List Nat)) >>= fun (x4 : (List Nat)) => (pure ([] : List (List Nat))) >>= fun (l5 : List (List Nat)) => pure (x4 :: l5)) else (pure ([] : List (List Nat)))) >>= fun (found7 : (List (List Nat))) => (((pure many) >>= fun (x10 : Nat) => rangeM x10) >>= fun (xs40 : List Nat) => foldL (fun (s8 : (List (List Nat))) (i11 : Nat) => ((pure ([] : List (List Nat))) >>= fun (more12 : (List (List Nat))) => ((pure s8) >>= fun (xs35 : List (List Nat)) => foldL (fun (s13 : (List (List Nat))) (i15 : (List Nat)) => ((((pure size) >>= fun (x16 : Nat) => rangeM x16) >>= fun (xs22 : List Nat) => filL (fun (i17 : Nat) => (((pure limits) >>= fun (x27 : (List ((Tu Nat) × (List (Tu Nat))))) => ((pure i15) >>= fun (x25 : (List Nat)) => ((pure i17) >>= fun (x23 : Nat) => (pure ([] : List Nat)) >>= fun (l24 : List Nat) => pure (x23 :: l24)) >>= fun (x26 : (List Nat)) => appL x25 x26) >>= fun (x28 : (List Nat)) => m_stopped x27 x28) >>= fun (x29 : (Option Nat)) => pure x29.isNone)) (fun (i17 : Nat) => ((pure i15) >>= fun (x20 : (List Nat)) => ((pure i17) >>= fun (x18 : Nat) => (pure ([] : List Nat)) >>= fun (l19 : List Nat) => pure (x18 :: l19)) >>= fun (x21 : (List Nat)) => appL x20 x21)) xs22) >>= fun (x30 : (List (List Nat))) => appL s13 x30 >>= fun (more31 : (List (List Nat))) => (pure more31))) more12 xs35 >>= fun (s32 : (List (List Nat))) => ((pure s32) >>= fun (found34 : (List (List Nat))) => (pure found34))))) found7 xs40 >>= fun (s37 : (List (List Nat))) => ((pure s37) >>= fun (x39 : (List (List Nat))) => pure x39)))
theorem ok_all_values : ∀ (N : Nat), 3 ≤ N → C3 (callF P N) 6 m_all_values
  | N + 1, hN => fun size many limits _ _ _ e => by
    exact call_ok (γ0 := [some (enc (size : Nat)), some (enc (many : Nat)), some (enc (limits : (List ((Tu Nat) × (List (Tu Nat)))))), none, none, none, none, none]) (rfl : P[6]? = some (.body _ _ 8 ir_all_values)) rfl ((S_set (g := fun (found7 : (List (List Nat))) => ([some (enc (size : Nat)), some (enc (many : Nat)), some (enc (limits : (List ((Tu Nat) × (List (Tu Nat)))))), some (enc (found7 : (List (List Nat)))), none, none, none, none] : En)) (E_ite (C_b (E_isN (fun _ => rfl) (E_call2 (ok_stopped N (by omega)) (E_v rfl) (E_lst Al_nil)))) (E_lst (Al_cons (E_lst Al_nil) Al_nil)) (E_lst Al_nil)) (fun _ => rfl) (fun found7 => (S_for (env := (fun (s8 : (List (List Nat))) (js : J) => ([some (enc (size : Nat)), some (enc (many : Nat)), some (enc (limits : (List ((Tu Nat) × (List (Tu Nat)))))), some (enc (s8 : (List (List Nat)))), js 4, js 5, js 6, none] : En))) (g := (fun (i11 : Nat) (s8 : (List (List Nat))) (js9 : J) => ([some (enc (size : Nat)), some (enc (many : Nat)), some (enc (limits : (List ((Tu Nat) × (List (Tu Nat)))))), some (enc (s8 : (List (List Nat)))), some (enc (i11 : Nat)), js9 5, js9 6, none] : En))) (W_r1 (E_v rfl)) rfl (fun _ _ => rfl) (fun _ _ _ => rfl) (fun i11 s8 js9 => (S_own (g := fun (more12 : (List (List Nat))) => ([some (enc (size : Nat)), some (enc (many : Nat)), some (enc (limits : (List ((Tu Nat) × (List (Tu Nat)))))), some (enc (s8 : (List (List Nat)))), some (enc (i11 : Nat)), some (enc (more12 : (List (List Nat)))), js9 6, none] : En)) (E_lst Al_nil) (fun _ => rfl) (fun more12 => (S_for (env := (fun (s13 : (List (List Nat))) (js : J) => ([some (enc (size : Nat)), some (enc (many : Nat)), some (enc (limits : (List ((Tu Nat) × (List (Tu Nat)))))), some (enc (s8 : (List (List Nat)))), some (enc (i11 : Nat)), some (enc (s13 : (List (List Nat)))), js 6, none] : En))) (g := (fun (i15 : (List Nat)) (s13 : (List (List Nat))) (js14 : J) => ([some (enc (size : Nat)), some (enc (many : Nat)), some (enc (limits : (List ((Tu Nat) × (List (Tu Nat)))))), some (enc (s8 : (List (List Nat)))), some (enc (i11 : Nat)), some (enc (s13 : (List (List Nat)))), some (enc (i15 : (List Nat))), none] : En))) (W_L (E_v rfl)) rfl (fun _ _ => rfl) (fun _ _ _ => rfl) (fun i15 s13 js14 => (S_ext (g := fun (more31 : (List (List Nat))) => ([some (enc (size : Nat)), some (enc (many : Nat)), some (enc (limits : (List ((Tu Nat) × (List (Tu Nat)))))), some (enc (s8 : (List (List Nat)))), some (enc (i11 : Nat)), some (enc (more31 : (List (List Nat)))), some (enc (i15 : (List Nat))), none] : En)) (E_fil (g := (fun (i17 : Nat) => ([some (enc (size : Nat)), some (enc (many : Nat)), some (enc (limits : (List ((Tu Nat) × (List (Tu Nat)))))), some (enc (s8 : (List (List Nat)))), some (enc (i11 : Nat)), some (enc (s13 : (List (List Nat)))), some (enc (i15 : (List Nat))), some (enc (i17 : Nat))] : En))) (W_r1 (E_v rfl)) (fun _ => rfl) (fun i17 => (C_b (E_isN (fun _ => rfl) (E_call2 (ok_stopped N (by omega)) (E_v rfl) (E_bin o_appL (E_v rfl) (E_lst (Al_cons (E_v rfl) Al_nil))))))) (fun i17 => (E_bin o_appL (E_v rfl) (E_lst (Al_cons (E_v rfl) Al_nil))))) rfl (fun _ => rfl) (fun more31 => (S_nil (fun τ => kI_nx rfl τ))))) (fun s32 js33 => (S_frz (S_set (g := fun (found34 : (List (List Nat))) => ([some (enc (size : Nat)), some (enc (many : Nat)), some (enc (limits : (List ((Tu Nat) × (List (Tu Nat)))))), some (enc (found34 : (List (List Nat)))), some (enc (i11 : Nat)), some (enc (s32 : (List (List Nat)))), js33 6, none] : En)) (E_v rfl) (fun _ => rfl) (fun found34 => (S_nil (fun τ => kI_nx rfl τ)))))))))) (fun s37 js38 => (S_ret (wrap := fun x => x) (E_v rfl) (fun x τ => (kF_rt x τ)))))))) e
def m_tree_fault : Nat → Nat → Nat → (List ((Tu Nat) × (List (Tu Nat)))) → (List Nat) → D → M (Option (Str × (List Nat)))
  | 0 => fun _ _ _ _ _ => failM
  | k + 1 => fun (size : Nat) (many : Nat) (limits : (List ((Tu Nat) × (List (Tu Nat))))) (row : (List Nat)) (tree : D) => ((((pure tree) >>= fun (x1 : D) => (pure (0 : Nat)) >>= fun (x2 : Nat) => dIx x1 x2) >>= fun (x3 : D) => ((pure ("stopped" : Str)) >>= fun x => pure ((fun (x : Str) => (enc x : D)) x)) >>= fun (x4 : D) => ofO (cEq x3 x4)) >>= fun (q5 : Bool) => if q5 = true then ((((pure (0 : Int)) >>= fun (x9 : Int) => (((pure tree) >>= fun (x6 : D) => (pure (1 : Nat)) >>= fun (x7 : Nat) => dIx x6 x7) >>= fun (x : D) => ofO (dec x : Option Int)) >>= fun (x10 : Int) => pure (decide (x9 ≤ x10)) >>= fun (q12 : Bool) => if q12 = true then (((pure limits) >>= fun (x8 : (List ((Tu Nat) × (List (Tu Nat))))) => pure x8.length) >>= fun x => pure ((fun (x : Nat) => (x : Int)) x)) >>= fun (x11 : Int) => pure (decide (x10 < x11)) else pure false) >>= fun (q27 : Bool) => if q27 = true then (((pure row) >>= fun (x23 : (List Nat)) => (((pure limits) >>= fun (x15 : (List ((Tu Nat) × (List (Tu Nat))))) => (((pure tree) >>= fun (x13 : D) => (pure (1 : Nat)) >>= fun (x14 : Nat) => dIx x13 x14) >>= fun (x : D) => ofO (dec x : Option Nat)) >>= fun (x16 : Nat) => atL x15 x16) >>= fun (x17 : ((Tu Nat) × (List (Tu Nat)))) => pure x17.1) >>= fun (x24 : (Tu Nat)) => (((pure limits) >>= fun (x20 : (List ((Tu Nat) × (List (Tu Nat))))) => (((pure tree) >>= fun (x18 : D) => (pure (1 : Nat)) >>= fun (x19 : Nat) => dIx x18 x19) >>= fun (x : D) => ofO (dec x : Option Nat)) >>= fun (x21 : Nat) => atL x20 x21) >>= fun (x22 : ((Tu Nat) × (List (Tu Nat)))) => pure x22.2) >>= fun (x25 : (List (Tu Nat))) => m_can_go_on x23 x24 x25) >>= fun (x26 : Bool) => pure (!x26)) else pure false) >>= fun (right28 : Bool) => (((pure right28) >>= fun (q31 : Bool) => if q31 = true then (pure (none : (Option (Str × (List Nat))))) else (((pure ("stopped" : Str)) >>= fun (x29 : Str) => (pure row) >>= fun (x30 : (List Nat)) => pure (x29, x30)) >>= fun x => pure ((fun (x : (Str × (List Nat))) => some x) x))) >>= fun (x32 : (Option (Str × (List Nat)))) => pure x32)) else (((((pure row) >>= fun (x33 : (List Nat)) => pure x33.length) >>= fun (x34 : Nat) => (pure many) >>= fun (x35 : Nat) => pure (decide (x34 = x35))) >>= fun (q41 : Bool) => if q41 = true then pure true else ((((pure tree) >>= fun (x36 : D) => (pure (1 : Nat)) >>= fun (x37 : Nat) => dIx x36 x37) >>= fun (x38 : D) => ofO (lenD x38)) >>= fun (x39 : Nat) => (pure size) >>= fun (x40 : Nat) => pure (!decide (x39 = x40)))) >>= fun (q42 : Bool) => if q42 = true then ((((pure ("split" : Str)) >>= fun (x43 : Str) => (pure row) >>= fun (x44 : (List Nat)) => pure (x43, x44)) >>= fun x => pure ((fun (x : (Str × (List Nat))) => some x) x)) >>= fun (x45 : (Option (Str × (List Nat)))) => pure x45) else ((((pure tree) >>= fun (x48 : D) => (pure (1 : Nat)) >>= fun (x49 : Nat) => dIx x48 x49) >>= fun (x50 : D) => ofO (enumD x50)) >>= fun (xs68 : List (Nat × D)) => loopL (fun (s46 : Unit) (i51 : (Nat × D)) => (((pure size) >>= fun (x56 : Nat) => (pure many) >>= fun (x57 : Nat) => (pure limits) >>= fun (x58 : (List ((Tu Nat) × (List (Tu Nat))))) => ((pure row) >>= fun (x54 : (List Nat)) => ((pure i51.1) >>= fun (x52 : Nat) => (pure ([] : List Nat)) >>= fun (l53 : List Nat) => pure (x52 :: l53)) >>= fun (x55 : (List Nat)) => appL x54 x55) >>= fun (x59 : (List Nat)) => (pure i51.2) >>= fun (x60 : D) => (m_tree_fault k) x56 x57 x58 x59 x60) >>= fun (fault61 : (Option (Str × (List Nat)))) => (((pure fault61) >>= fun (x62 : (Option (Str × (List Nat)))) => pure x62.isSome) >>= fun (q63 : Bool) => if q63 = true then ((pure fault61) >>= fun (x64 : (Option (Str × (List Nat)))) => pure (Fw.rt x64)) else (pure (Fw.nx ()))))) () xs68 >>= fun z69 => caseS z69 (fun (s65 : Unit) => ((pure (none : (Option (Str × (List Nat))))) >>= fun (x67 : (Option (Str × (List Nat)))) => pure x67)))))
theorem ok_tree_fault : ∀ (k N : Nat), k + 2 ≤ N → C5 (callF P N) 7 (m_tree_fault k)
  | 0, _, _ => fun _ _ _ _ _ _ _ _ e => (nomatch (show (none : Option ((Option (Str × (List Nat))) × Tape)) = some _ from e))
  | k + 1, N + 1, hN => fun size many limits row tree _ _ _ e => by
    have ih : ∀ N, k + 2 ≤ N → C5 (callF P N) 7 (m_tree_fault k) := fun N h => ok_tree_fault k N h
    exact call_ok (γ0 := [some (enc (size : Nat)), some (enc (many : Nat)), some (enc (limits : (List ((Tu Nat) × (List (Tu Nat)))))), some (enc (row : (List Nat))), some (enc (tree : D)), none, none, none, none]) (rfl : P[7]? = some (.body _ _ 9 ir_tree_fault)) rfl ((S_ifl (C_b (E_cmp o_eqD (E_ix o_atD (E_v rfl) (E_c rfl)) (E_up (f := (fun (x : Str) => (enc x : D))) (fun _ => rfl) (E_c rfl)))) (S_set (g := fun (right28 : Bool) => ([some (enc (size : Nat)), some (enc (many : Nat)), some (enc (limits : (List ((Tu Nat) × (List (Tu Nat)))))), some (enc (row : (List Nat))), some (enc (tree : D)), none, none, some (enc (right28 : Bool)), none] : En)) (E_and (E_cmp2 o_leZ o_ltZ (E_c rfl) (E_dn (E_ix o_atD (E_v rfl) (E_c rfl))) (E_up (f := (fun (x : Nat) => (x : Int))) (fun _ => rfl) (E_b1 o_lenL (E_v rfl)))) (E_not (C_b (E_call3 (ok_can_go_on N (by omega)) (E_v rfl) (E_ixc (f := fun (x : ((Tu Nat) × (List (Tu Nat)))) => x.1) (fun _ => rfl) (E_ix o_atL (E_v rfl) (E_dn (E_ix o_atD (E_v rfl) (E_c rfl))))) (E_ixc (f := fun (x : ((Tu Nat) × (List (Tu Nat)))) => x.2) (fun _ => rfl) (E_ix o_atL (E_v rfl) (E_dn (E_ix o_atD (E_v rfl) (E_c rfl))))))))) (fun _ => rfl) (fun right28 => (S_ret (wrap := fun x => x) (E_ite (C_b (E_v rfl)) (E_c rfl) (E_up (f := (fun (x : (Str × (List Nat))) => some x)) (fun _ => rfl) (E_p2 (E_c rfl) (E_v rfl)))) (fun x τ => (kX_rt (kF_rt x τ)))))) (S_ifl (C_or (C_b (E_cmp (o_eq (by decide)) (E_b1 o_lenL (E_v rfl)) (E_v rfl))) (C_b (E_cmp (o_ne (by decide)) (E_b1 o_lenD (E_ix o_atD (E_v rfl) (E_c rfl))) (E_v rfl)))) (S_ret (wrap := fun x => x) (E_up (f := (fun (x : (Str × (List Nat))) => some x)) (fun _ => rfl) (E_p2 (E_c rfl) (E_v rfl))) (fun x τ => (kX_rt (kF_rt x τ)))) (S_forL (env := (fun (s46 : Unit) (js : J) => ([some (enc (size : Nat)), some (enc (many : Nat)), some (enc (limits : (List ((Tu Nat) × (List (Tu Nat)))))), some (enc (row : (List Nat))), some (enc (tree : D)), js 5, js 6, none, js 8] : En))) (g := (fun (i51 : (Nat × D)) (s46 : Unit) (js47 : J) => ([some (enc (size : Nat)), some (enc (many : Nat)), some (enc (limits : (List ((Tu Nat) × (List (Tu Nat)))))), some (enc (row : (List Nat))), some (enc (tree : D)), some (enc (i51.1 : Nat)), some (enc (i51.2 : D)), none, js47 8] : En))) (W_enD (E_ix o_atD (E_v rfl) (E_c rfl))) rfl (fun _ _ => rfl) (fun _ _ _ => rfl) (fun i51 s46 js47 => (S_set (g := fun (fault61 : (Option (Str × (List Nat)))) => ([some (enc (size : Nat)), some (enc (many : Nat)), some (enc (limits : (List ((Tu Nat) × (List (Tu Nat)))))), some (enc (row : (List Nat))), some (enc (tree : D)), some (enc (i51.1 : Nat)), some (enc (i51.2 : D)), none, some (enc (fault61 : (Option (Str × (List Nat)))))] : En)) (E_call5 (ih N (by omega)) (E_v rfl) (E_v rfl) (E_v rfl) (E_bin o_appL (E_v rfl) (E_lst (Al_cons (E_v rfl) Al_nil))) (E_v rfl)) (fun _ => rfl) (fun fault61 => (S_ifl (C_b (E_notN (fun _ => rfl) (E_v rfl))) (S_ret (wrap := fun x64 => (Fw.rt x64)) (E_v rfl) (fun x τ => (kX_rt (kL_rt (kF_rt x τ))))) (S_nil (fun τ => kL_nx rfl τ)))))) (fun s65 js66 => (S_ret (wrap := fun x => x) (E_c rfl) (fun x τ => (kF_rt x τ)))))))) e
def m_settle_fault (size : Nat) (many : Nat) (limits : (List ((Tu Nat) × (List (Tu Nat))))) (told : D) : M D := ((((pure told) >>= fun (x1 : D) => (pure (0 : Nat)) >>= fun (x2 : Nat) => dIx x1 x2) >>= fun (x3 : D) => ((pure ("none" : Str)) >>= fun x => pure ((fun (x : Str) => (enc x : D)) x)) >>= fun (x4 : D) => ofO (cEq x3 x4)) >>= fun (q5 : Bool) => if q5 = true then ((((pure size) >>= fun (x8 : Nat) => (pure many) >>= fun (x9 : Nat) => (pure limits) >>= fun (x10 : (List ((Tu Nat) × (List (Tu Nat))))) => (pure ([] : List Nat)) >>= fun (x11 : (List Nat)) => ((pure told) >>= fun (x6 : D) => (pure (1 : Nat)) >>= fun (x7 : Nat) => dIx x6 x7) >>= fun (x12 : D) => (m_tree_fault 12) x8 x9 x10 x11 x12) >>= fun x => pure ((fun (x : (Option (Str × (List Nat)))) => (enc x : D)) x)) >>= fun (x13 : D) => pure x13) else (((pure told) >>= fun (x14 : D) => (pure (1 : Nat)) >>= fun (x15 : Nat) => dIx x14 x15) >>= fun (row16 : D) => (((((pure row16) >>= fun (x17 : D) => ofO (lenD x17)) >>= fun (x18 : Nat) => (pure many) >>= fun (x19 : Nat) => pure (!decide (x18 = x19))) >>= fun (q29 : Bool) => if q29 = true then pure true else (((((pure row16) >>= fun (x20 : D) => ofO (seqOf x20)) >>= fun (xs26 : List D) => mapL (fun (i21 : D) => ((pure (0 : Int)) >>= fun (x22 : Int) => ((pure i21) >>= fun (x : D) => ofO (dec x : Option Int)) >>= fun (x23 : Int) => pure (decide (x22 ≤ x23)) >>= fun (q25 : Bool) => if q25 = true then ((pure size) >>= fun x => pure ((fun (x : Nat) => (x : Int)) x)) >>= fun (x24 : Int) => pure (decide (x23 < x24)) else pure false)) xs26) >>= fun (x27 : (List Bool)) => pure (x27.all id)) >>= fun (x28 : Bool) => pure (!x28))) >>= fun (q30 : Bool) => if q30 = true then ((((pure ("values" : Str)) >>= fun (x31 : Str) => (pure ([] : List D)) >>= fun (l32 : List D) => pure (enc x31 :: l32)) >>= fun (x33 : (List D)) => pure (PyData.tuple x33)) >>= fun (x34 : D) => pure x34) else (((pure limits) >>= fun (x37 : (List ((Tu Nat) × (List (Tu Nat))))) => pure (enumL x37)) >>= fun (xs63 : List (Nat × ((Tu Nat) × (List (Tu Nat))))) => loopL (fun (s35 : Unit) (i38 : (Nat × ((Tu Nat) × (List (Tu Nat))))) => (((((pure row16) >>= fun (x : D) => ofO (dec x : Option (List Nat))) >>= fun (x39 : (List Nat)) => (pure i38.2.1) >>= fun (x40 : (Tu Nat)) => (pure i38.2.2) >>= fun (x41 : (List (Tu Nat))) => m_holds_at x39 x40 x41) >>= fun (x42 : Bool) => pure (!x42)) >>= fun (q43 : Bool) => if q43 = true then ((((pure ("limit" : Str)) >>= fun (x46 : Str) => ((pure i38.1) >>= fun (x44 : Nat) => (pure ([] : List D)) >>= fun (l45 : List D) => pure (enc x44 :: l45)) >>= fun (l47 : List D) => pure (enc x46 :: l47)) >>= fun (x48 : (List D)) => pure (PyData.tuple x48)) >>= fun (x49 : D) => pure (Fw.rt x49)) else (pure (Fw.nx ())))) () xs63 >>= fun z64 => caseS z64 (fun (s50 : Unit) => ((((((pure size) >>= fun (x52 : Nat) => (pure many) >>= fun (x53 : Nat) => (pure limits) >>= fun (x54 : (List ((Tu Nat) × (List (Tu Nat))))) => (pure ([] : List Nat)) >>= fun (x55 : (List Nat)) => (m_least_from 12) x52 x53 x54 x55) >>= fun x => pure ((fun (x : (Option (List Nat))) => (enc x : D)) x)) >>= fun (x56 : D) => (pure row16) >>= fun (x57 : D) => ofO (cEq x56 x57)) >>= fun (q61 : Bool) => if q61 = true then ((pure ()) >>= fun x => pure ((fun (x : Unit) => (enc x : D)) x)) else (((pure ("least" : Str)) >>= fun (x58 : Str) => (pure ([] : List D)) >>= fun (l59 : List D) => pure (enc x58 :: l59)) >>= fun (x60 : (List D)) => pure (PyData.tuple x60))) >>= fun (x62 : D) => pure x62))))))
theorem ok_settle_fault : ∀ (N : Nat), 16 ≤ N → C4 (callF P N) 8 m_settle_fault
  | N + 1, hN => fun size many limits told _ _ _ e => by
    exact call_ok (γ0 := [some (enc (size : Nat)), some (enc (many : Nat)), some (enc (limits : (List ((Tu Nat) × (List (Tu Nat)))))), some (enc (told : D)), none, none, none, none, none]) (rfl : P[8]? = some (.body _ _ 9 ir_settle_fault)) rfl ((S_ifl (C_b (E_cmp o_eqD (E_ix o_atD (E_v rfl) (E_c rfl)) (E_up (f := (fun (x : Str) => (enc x : D))) (fun _ => rfl) (E_c rfl)))) (S_ret (wrap := fun x => x) (E_up (f := (fun (x : (Option (Str × (List Nat)))) => (enc x : D))) (fun _ => rfl) (E_call5 (ok_tree_fault 12 N (by omega)) (E_v rfl) (E_v rfl) (E_v rfl) (E_lst Al_nil) (E_ix o_atD (E_v rfl) (E_c rfl)))) (fun x τ => (kX_rt (kF_rt x τ)))) (S_set (g := fun (row16 : D) => ([some (enc (size : Nat)), some (enc (many : Nat)), some (enc (limits : (List ((Tu Nat) × (List (Tu Nat)))))), some (enc (told : D)), some (enc (row16 : D)), none, none, none, none] : En)) (E_ix o_atD (E_v rfl) (E_c rfl)) (fun _ => rfl) (fun row16 => (S_ifl (C_or (C_b (E_cmp (o_ne (by decide)) (E_b1 o_lenD (E_v rfl)) (E_v rfl))) (C_b (E_not (C_b (E_b1 o_all (E_map (g := (fun (i21 : D) => ([some (enc (size : Nat)), some (enc (many : Nat)), some (enc (limits : (List ((Tu Nat) × (List (Tu Nat)))))), some (enc (told : D)), some (enc (row16 : D)), none, none, none, some (enc (i21 : D))] : En))) (W_D (E_v rfl)) (fun _ => rfl) (fun i21 => (E_cmp2 o_leZ o_ltZ (E_c rfl) (E_dn (E_v rfl)) (E_up (f := (fun (x : Nat) => (x : Int))) (fun _ => rfl) (E_v rfl)))))))))) (S_ret (wrap := fun x => x) (E_tupD (A_cons (E_c rfl) A_nil)) (fun x τ => (kX_rt (kF_rt x τ)))) (S_forL (env := (fun (s35 : Unit) (js : J) => ([some (enc (size : Nat)), some (enc (many : Nat)), some (enc (limits : (List ((Tu Nat) × (List (Tu Nat)))))), some (enc (told : D)), some (enc (row16 : D)), js 5, js 6, js 7, none] : En))) (g := (fun (i38 : (Nat × ((Tu Nat) × (List (Tu Nat))))) (s35 : Unit) (js36 : J) => ([some (enc (size : Nat)), some (enc (many : Nat)), some (enc (limits : (List ((Tu Nat) × (List (Tu Nat)))))), some (enc (told : D)), some (enc (row16 : D)), some (enc (i38.1 : Nat)), some (enc (i38.2.1 : (Tu Nat))), some (enc (i38.2.2 : (List (Tu Nat)))), none] : En))) (W_en (E_v rfl)) rfl (fun _ _ => rfl) (fun _ _ _ => rfl) (fun i38 s35 js36 => (S_ifl (C_b (E_not (C_b (E_call3 (ok_holds_at N (by omega)) (E_dn (E_v rfl)) (E_v rfl) (E_v rfl))))) (S_ret (wrap := fun x49 => (Fw.rt x49)) (E_tupD (A_cons (E_c rfl) (A_cons (E_v rfl) A_nil))) (fun x τ => (kX_rt (kL_rt (kF_rt x τ))))) (S_nil (fun τ => kL_nx rfl τ)))) (fun s50 js51 => (S_ret (wrap := fun x => x) (E_ite (C_b (E_cmp o_eqD (E_up (f := (fun (x : (Option (List Nat))) => (enc x : D))) (fun _ => rfl) (E_call4 (ok_least_from 12 N (by omega)) (E_v rfl) (E_v rfl) (E_v rfl) (E_lst Al_nil))) (E_v rfl))) (E_up (f := (fun (x : Unit) => (enc x : D))) (fun _ => rfl) (E_c rfl)) (E_tupD (A_cons (E_c rfl) A_nil))) (fun x τ => (kF_rt x τ)))))))))) e
def m_law_problem (state : Unit) (most : Nat) (limits : Nat) : M (P3 Nat Nat (List ((Tu Nat) × (List (Tu Nat))))) := (((pure (2 : Nat)) >>= fun (x3 : Nat) => ((pure state) >>= fun (x1 : Unit) => (pure (2 : Nat)) >>= fun (x2 : Nat) => (fun (_ : Unit) (n : Nat) => takeM n) x1 x2) >>= fun (x4 : Nat) => pure (x3 + x4)) >>= fun (size5 : Nat) => (((pure (1 : Nat)) >>= fun (x8 : Nat) => ((pure state) >>= fun (x6 : Unit) => (pure most) >>= fun (x7 : Nat) => (fun (_ : Unit) (n : Nat) => takeM n) x6 x7) >>= fun (x9 : Nat) => pure (x8 + x9)) >>= fun (many10 : Nat) => ((pure ([] : List ((Tu Nat) × (List (Tu Nat))))) >>= fun (found11 : (List ((Tu Nat) × (List (Tu Nat))))) => ((((pure state) >>= fun (x16 : Unit) => ((pure limits) >>= fun (x14 : Nat) => (pure (1 : Nat)) >>= fun (x15 : Nat) => pure (x14 + x15)) >>= fun (x17 : Nat) => (fun (_ : Unit) (n : Nat) => takeM n) x16 x17) >>= fun (x18 : Nat) => rangeM x18) >>= fun (xs89 : List Nat) => foldL (fun (s12 : (List ((Tu Nat) × (List (Tu Nat))))) (i19 : Nat) => ((((((pure (1 : Nat)) >>= fun (x22 : Nat) => ((pure state) >>= fun (x20 : Unit) => (pure (3 : Nat)) >>= fun (x21 : Nat) => (fun (_ : Unit) (n : Nat) => takeM n) x20 x21) >>= fun (x23 : Nat) => pure (x22 + x23)) >>= fun (x24 : Nat) => rangeM x24) >>= fun (xs28 : List Nat) => mapL (fun (i25 : Nat) => ((pure state) >>= fun (x26 : Unit) => (pure many10) >>= fun (x27 : Nat) => (fun (_ : Unit) (n : Nat) => takeM n) x26 x27)) xs28) >>= fun (x29 : (List Nat)) => pure (Tu.mk x29)) >>= fun (scope30 : (Tu Nat)) => ((((pure ([] : List Nat)) >>= fun (x31 : (List Nat)) => pure (Tu.mk x31)) >>= fun (x32 : (Tu Nat)) => (pure ([] : List (Tu Nat))) >>= fun (l33 : List (Tu Nat)) => pure (x32 :: l33)) >>= fun (rows34 : (List (Tu Nat))) => (((pure scope30) >>= fun (x37 : (Tu Nat)) => pure x37.l) >>= fun (xs81 : List Nat) => foldL (fun (s35 : (List (Tu Nat))) (i38 : Nat) => ((pure ([] : List (Tu Nat))) >>= fun (more39 : (List (Tu Nat))) => ((pure s35) >>= fun (xs56 : List (Tu Nat)) => foldL (fun (s40 : (List (Tu Nat))) (i42 : (Tu Nat)) => ((((pure size5) >>= fun (x43 : Nat) => rangeM x43) >>= fun (xs50 : List Nat) => mapL (fun (i44 : Nat) => ((pure i42) >>= fun (x48 : (Tu Nat)) => (((pure i44) >>= fun (x45 : Nat) => (pure ([] : List Nat)) >>= fun (l46 : List Nat) => pure (x45 :: l46)) >>= fun (x47 : (List Nat)) => pure (Tu.mk x47)) >>= fun (x49 : (Tu Nat)) => appT x48 x49)) xs50) >>= fun (x51 : (List (Tu Nat))) => appL s40 x51 >>= fun (more52 : (List (Tu Nat))) => (pure more52))) more39 xs56 >>= fun (s53 : (List (Tu Nat))) => ((pure s53) >>= fun (rows55 : (List (Tu Nat))) => (pure rows55))))) rows34 xs81 >>= fun (s58 : (List (Tu Nat))) => ((((pure (2 : Nat)) >>= fun (x64 : Nat) => ((pure (3 : Nat)) >>= fun (x62 : Nat) => ((pure (6 : Nat)) >>= fun (x60 : Nat) => (pure ([] : List Nat)) >>= fun (l61 : List Nat) => pure (x60 :: l61)) >>= fun (l63 : List Nat) => pure (x62 :: l63)) >>= fun (l65 : List Nat) => pure (x64 :: l65)) >>= fun (x68 : (List Nat)) => ((pure state) >>= fun (x66 : Unit) => (pure (3 : Nat)) >>= fun (x67 : Nat) => (fun (_ : Unit) (n : Nat) => takeM n) x66 x67) >>= fun (x69 : Nat) => atL x68 x69) >>= fun (rare70 : Nat) => (((pure scope30) >>= fun (x77 : (Tu Nat)) => ((pure s58) >>= fun (xs72 : List (Tu Nat)) => filL (fun (i71 : (Tu Nat)) => (((pure state) >>= fun (x73 : Unit) => (pure rare70) >>= fun (x74 : Nat) => (fun (_ : Unit) (n : Nat) => takeM n) x73 x74) >>= fun (x75 : Nat) => (pure (0 : Nat)) >>= fun (x76 : Nat) => pure (decide (x76 < x75)))) (fun (i71 : (Tu Nat)) => (pure i71)) xs72) >>= fun (x78 : (List (Tu Nat))) => pure (x77, x78)) >>= fun (x79 : ((Tu Nat) × (List (Tu Nat)))) => pushL s12 x79 >>= fun (found80 : (List ((Tu Nat) × (List (Tu Nat))))) => (pure found80))))))) found11 xs89 >>= fun (s83 : (List ((Tu Nat) × (List (Tu Nat))))) => (((pure size5) >>= fun (x85 : Nat) => (pure many10) >>= fun (x86 : Nat) => (pure s83) >>= fun (x87 : (List ((Tu Nat) × (List (Tu Nat))))) => pure (P3.mk x85 x86 x87)) >>= fun (x88 : (P3 Nat Nat (List ((Tu Nat) × (List (Tu Nat)))))) => pure x88)))))
theorem ok_law_problem : ∀ (N : Nat), 2 ≤ N → C3 (callF P N) 10 m_law_problem
  | N + 1, hN => fun state most limits _ _ _ e => by
    exact call_ok (γ0 := [some (enc (state : Unit)), some (enc (most : Nat)), some (enc (limits : Nat)), none, none, none, none, none, none, none, none, none, none, none, none]) (rfl : P[10]? = some (.body _ _ 15 ir__law_problem)) rfl ((S_set (g := fun (size5 : Nat) => ([some (enc (state : Unit)), some (enc (most : Nat)), some (enc (limits : Nat)), some (enc (size5 : Nat)), none, none, none, none, none, none, none, none, none, none, none] : En)) (E_bin o_addN (E_c rfl) (E_call2 (take_c N (by omega)) (E_v rfl) (E_c rfl))) (fun _ => rfl) (fun size5 => (S_set (g := fun (many10 : Nat) => ([some (enc (state : Unit)), some (enc (most : Nat)), some (enc (limits : Nat)), some (enc (size5 : Nat)), some (enc (many10 : Nat)), none, none, none, none, none, none, none, none, none, none] : En)) (E_bin o_addN (E_c rfl) (E_call2 (take_c N (by omega)) (E_v rfl) (E_v rfl))) (fun _ => rfl) (fun many10 => (S_own (g := fun (found11 : (List ((Tu Nat) × (List (Tu Nat))))) => ([some (enc (state : Unit)), some (enc (most : Nat)), some (enc (limits : Nat)), some (enc (size5 : Nat)), some (enc (many10 : Nat)), some (enc (found11 : (List ((Tu Nat) × (List (Tu Nat)))))), none, none, none, none, none, none, none, none, none] : En)) (E_lst Al_nil) (fun _ => rfl) (fun found11 => (S_for (env := (fun (s12 : (List ((Tu Nat) × (List (Tu Nat))))) (js : J) => ([some (enc (state : Unit)), some (enc (most : Nat)), some (enc (limits : Nat)), some (enc (size5 : Nat)), some (enc (many10 : Nat)), some (enc (s12 : (List ((Tu Nat) × (List (Tu Nat)))))), js 6, js 7, js 8, js 9, js 10, js 11, js 12, none, none] : En))) (g := (fun (i19 : Nat) (s12 : (List ((Tu Nat) × (List (Tu Nat))))) (js13 : J) => ([some (enc (state : Unit)), some (enc (most : Nat)), some (enc (limits : Nat)), some (enc (size5 : Nat)), some (enc (many10 : Nat)), some (enc (s12 : (List ((Tu Nat) × (List (Tu Nat)))))), some (enc (i19 : Nat)), js13 7, js13 8, js13 9, js13 10, js13 11, js13 12, none, none] : En))) (W_r1 (E_call2 (take_c N (by omega)) (E_v rfl) (E_bin o_addN (E_v rfl) (E_c rfl)))) rfl (fun _ _ => rfl) (fun _ _ _ => rfl) (fun i19 s12 js13 => (S_set (g := fun (scope30 : (Tu Nat)) => ([some (enc (state : Unit)), some (enc (most : Nat)), some (enc (limits : Nat)), some (enc (size5 : Nat)), some (enc (many10 : Nat)), some (enc (s12 : (List ((Tu Nat) × (List (Tu Nat)))))), some (enc (i19 : Nat)), some (enc (scope30 : (Tu Nat))), js13 8, js13 9, js13 10, js13 11, js13 12, none, none] : En)) (E_b1 o_tupL (E_map (g := (fun (i25 : Nat) => ([some (enc (state : Unit)), some (enc (most : Nat)), some (enc (limits : Nat)), some (enc (size5 : Nat)), some (enc (many10 : Nat)), some (enc (s12 : (List ((Tu Nat) × (List (Tu Nat)))))), some (enc (i19 : Nat)), js13 7, js13 8, js13 9, js13 10, js13 11, js13 12, some (enc (i25 : Nat)), none] : En))) (W_r1 (E_bin o_addN (E_c rfl) (E_call2 (take_c N (by omega)) (E_v rfl) (E_c rfl)))) (fun _ => rfl) (fun i25 => (E_call2 (take_c N (by omega)) (E_v rfl) (E_v rfl))))) (fun _ => rfl) (fun scope30 => (S_set (g := fun (rows34 : (List (Tu Nat))) => ([some (enc (state : Unit)), some (enc (most : Nat)), some (enc (limits : Nat)), some (enc (size5 : Nat)), some (enc (many10 : Nat)), some (enc (s12 : (List ((Tu Nat) × (List (Tu Nat)))))), some (enc (i19 : Nat)), some (enc (scope30 : (Tu Nat))), some (enc (rows34 : (List (Tu Nat)))), js13 9, js13 10, js13 11, js13 12, none, none] : En)) (E_lst (Al_cons (E_tu Al_nil) Al_nil)) (fun _ => rfl) (fun rows34 => (S_for (env := (fun (s35 : (List (Tu Nat))) (js : J) => ([some (enc (state : Unit)), some (enc (most : Nat)), some (enc (limits : Nat)), some (enc (size5 : Nat)), some (enc (many10 : Nat)), some (enc (s12 : (List ((Tu Nat) × (List (Tu Nat)))))), some (enc (i19 : Nat)), some (enc (scope30 : (Tu Nat))), some (enc (s35 : (List (Tu Nat)))), js 9, js13 10, js 11, js 12, none, none] : En))) (g := (fun (i38 : Nat) (s35 : (List (Tu Nat))) (js36 : J) => ([some (enc (state : Unit)), some (enc (most : Nat)), some (enc (limits : Nat)), some (enc (size5 : Nat)), some (enc (many10 : Nat)), some (enc (s12 : (List ((Tu Nat) × (List (Tu Nat)))))), some (enc (i19 : Nat)), some (enc (scope30 : (Tu Nat))), some (enc (s35 : (List (Tu Nat)))), some (enc (i38 : Nat)), js13 10, js36 11, js36 12, none, none] : En))) (W_T (E_v rfl)) rfl (fun _ _ => rfl) (fun _ _ _ => rfl) (fun i38 s35 js36 => (S_own (g := fun (more39 : (List (Tu Nat))) => ([some (enc (state : Unit)), some (enc (most : Nat)), some (enc (limits : Nat)), some (enc (size5 : Nat)), some (enc (many10 : Nat)), some (enc (s12 : (List ((Tu Nat) × (List (Tu Nat)))))), some (enc (i19 : Nat)), some (enc (scope30 : (Tu Nat))), some (enc (s35 : (List (Tu Nat)))), some (enc (i38 : Nat)), js13 10, some (enc (more39 : (List (Tu Nat)))), js36 12, none, none] : En)) (E_lst Al_nil) (fun _ => rfl) (fun more39 => (S_for (env := (fun (s40 : (List (Tu Nat))) (js : J) => ([some (enc (state : Unit)), some (enc (most : Nat)), some (enc (limits : Nat)), some (enc (size5 : Nat)), some (enc (many10 : Nat)), some (enc (s12 : (List ((Tu Nat) × (List (Tu Nat)))))), some (enc (i19 : Nat)), some (enc (scope30 : (Tu Nat))), some (enc (s35 : (List (Tu Nat)))), some (enc (i38 : Nat)), js13 10, some (enc (s40 : (List (Tu Nat)))), js 12, none, none] : En))) (g := (fun (i42 : (Tu Nat)) (s40 : (List (Tu Nat))) (js41 : J) => ([some (enc (state : Unit)), some (enc (most : Nat)), some (enc (limits : Nat)), some (enc (size5 : Nat)), some (enc (many10 : Nat)), some (enc (s12 : (List ((Tu Nat) × (List (Tu Nat)))))), some (enc (i19 : Nat)), some (enc (scope30 : (Tu Nat))), some (enc (s35 : (List (Tu Nat)))), some (enc (i38 : Nat)), js13 10, some (enc (s40 : (List (Tu Nat)))), some (enc (i42 : (Tu Nat))), none, none] : En))) (W_L (E_v rfl)) rfl (fun _ _ => rfl) (fun _ _ _ => rfl) (fun i42 s40 js41 => (S_ext (g := fun (more52 : (List (Tu Nat))) => ([some (enc (state : Unit)), some (enc (most : Nat)), some (enc (limits : Nat)), some (enc (size5 : Nat)), some (enc (many10 : Nat)), some (enc (s12 : (List ((Tu Nat) × (List (Tu Nat)))))), some (enc (i19 : Nat)), some (enc (scope30 : (Tu Nat))), some (enc (s35 : (List (Tu Nat)))), some (enc (i38 : Nat)), js13 10, some (enc (more52 : (List (Tu Nat)))), some (enc (i42 : (Tu Nat))), none, none] : En)) (E_map (g := (fun (i44 : Nat) => ([some (enc (state : Unit)), some (enc (most : Nat)), some (enc (limits : Nat)), some (enc (size5 : Nat)), some (enc (many10 : Nat)), some (enc (s12 : (List ((Tu Nat) × (List (Tu Nat)))))), some (enc (i19 : Nat)), some (enc (scope30 : (Tu Nat))), some (enc (s35 : (List (Tu Nat)))), some (enc (i38 : Nat)), js13 10, some (enc (s40 : (List (Tu Nat)))), some (enc (i42 : (Tu Nat))), none, some (enc (i44 : Nat))] : En))) (W_r1 (E_v rfl)) (fun _ => rfl) (fun i44 => (E_bin o_appT (E_v rfl) (E_tu (Al_cons (E_v rfl) Al_nil))))) rfl (fun _ => rfl) (fun more52 => (S_nil (fun τ => kI_nx rfl τ))))) (fun s53 js54 => (S_frz (S_set (g := fun (rows55 : (List (Tu Nat))) => ([some (enc (state : Unit)), some (enc (most : Nat)), some (enc (limits : Nat)), some (enc (size5 : Nat)), some (enc (many10 : Nat)), some (enc (s12 : (List ((Tu Nat) × (List (Tu Nat)))))), some (enc (i19 : Nat)), some (enc (scope30 : (Tu Nat))), some (enc (rows55 : (List (Tu Nat)))), some (enc (i38 : Nat)), js13 10, some (enc (s53 : (List (Tu Nat)))), js54 12, none, none] : En)) (E_v rfl) (fun _ => rfl) (fun rows55 => (S_nil (fun τ => kI_nx rfl τ)))))))))) (fun s58 js59 => (S_set (g := fun (rare70 : Nat) => ([some (enc (state : Unit)), some (enc (most : Nat)), some (enc (limits : Nat)), some (enc (size5 : Nat)), some (enc (many10 : Nat)), some (enc (s12 : (List ((Tu Nat) × (List (Tu Nat)))))), some (enc (i19 : Nat)), some (enc (scope30 : (Tu Nat))), some (enc (s58 : (List (Tu Nat)))), js59 9, some (enc (rare70 : Nat)), js59 11, js59 12, none, none] : En)) (E_ix o_atL (E_lst (Al_cons (E_c rfl) (Al_cons (E_c rfl) (Al_cons (E_c rfl) Al_nil)))) (E_call2 (take_c N (by omega)) (E_v rfl) (E_c rfl))) (fun _ => rfl) (fun rare70 => (S_app (g := fun (found80 : (List ((Tu Nat) × (List (Tu Nat))))) => ([some (enc (state : Unit)), some (enc (most : Nat)), some (enc (limits : Nat)), some (enc (size5 : Nat)), some (enc (many10 : Nat)), some (enc (found80 : (List ((Tu Nat) × (List (Tu Nat)))))), some (enc (i19 : Nat)), some (enc (scope30 : (Tu Nat))), some (enc (s58 : (List (Tu Nat)))), js59 9, some (enc (rare70 : Nat)), js59 11, js59 12, none, none] : En)) (E_p2 (E_v rfl) (E_fil (g := (fun (i71 : (Tu Nat)) => ([some (enc (state : Unit)), some (enc (most : Nat)), some (enc (limits : Nat)), some (enc (size5 : Nat)), some (enc (many10 : Nat)), some (enc (s12 : (List ((Tu Nat) × (List (Tu Nat)))))), some (enc (i19 : Nat)), some (enc (scope30 : (Tu Nat))), some (enc (s58 : (List (Tu Nat)))), js59 9, some (enc (rare70 : Nat)), js59 11, some (enc (i71 : (Tu Nat))), none, none] : En))) (W_L (E_v rfl)) (fun _ => rfl) (fun i71 => (C_b (E_cmp o_gtN (E_call2 (take_c N (by omega)) (E_v rfl) (E_v rfl)) (E_c rfl)))) (fun i71 => (E_v rfl)))) rfl (fun _ => rfl) (fun found80 => (S_nil (fun τ => kI_nx rfl τ))))))))))))) (fun s83 js84 => (S_frz (S_ret (wrap := fun x => x) (E_p3 (E_v rfl) (E_v rfl) (E_v rfl)) (fun x τ => (kF_rt x τ))))))))))))) e
def m_law_agrees (scope : (Tu Nat)) (row : (Tu Nat)) (values : (Dm Nat Nat)) : M Bool := ((pure values) >>= fun (told1 : (Dm Nat Nat)) => ((((pure scope) >>= fun (x4 : (Tu Nat)) => pure x4.l.length) >>= fun (x5 : Nat) => rangeM x5) >>= fun (xs32 : List Nat) => loopL (fun (s2 : (Dm Nat Nat)) (i6 : Nat) => (((((pure scope) >>= fun (x7 : (Tu Nat)) => (pure i6) >>= fun (x8 : Nat) => atL x7.l x8) >>= fun (x9 : Nat) => (pure s2) >>= fun (x10 : (Dm Nat Nat)) => pure ((Dm.get x10 x9).isSome)) >>= fun (q19 : Bool) => if q19 = true then (((pure s2) >>= fun (x13 : (Dm Nat Nat)) => ((pure scope) >>= fun (x11 : (Tu Nat)) => (pure i6) >>= fun (x12 : Nat) => atL x11.l x12) >>= fun (x14 : Nat) => ofO (Dm.get x13 x14)) >>= fun (x17 : Nat) => ((pure row) >>= fun (x15 : (Tu Nat)) => (pure i6) >>= fun (x16 : Nat) => atL x15.l x16) >>= fun (x18 : Nat) => pure (!decide (x17 = x18))) else pure false) >>= fun (q20 : Bool) => if q20 = true then ((pure false) >>= fun (x21 : Bool) => pure (Fw.rt x21)) else (((pure row) >>= fun (x24 : (Tu Nat)) => (pure i6) >>= fun (x25 : Nat) => atL x24.l x25) >>= fun (x26 : Nat) => ((pure scope) >>= fun (x22 : (Tu Nat)) => (pure i6) >>= fun (x23 : Nat) => atL x22.l x23) >>= fun (x27 : Nat) => putM s2 x27 x26 >>= fun (told28 : (Dm Nat Nat)) => (pure (Fw.nx told28))))) told1 xs32 >>= fun z33 => caseS z33 (fun (s29 : (Dm Nat Nat)) => ((pure true) >>= fun (x31 : Bool) => pure x31))))
theorem ok_law_agrees : ∀ (N : Nat), 1 ≤ N → C3 (callF P N) 11 m_law_agrees
  | N + 1, hN => fun scope row values _ _ _ e => by
    exact call_ok (γ0 := [some (enc (scope : (Tu Nat))), some (enc (row : (Tu Nat))), some (enc (values : (Dm Nat Nat))), none, none]) (rfl : P[11]? = some (.body _ _ 5 ir__law_agrees)) rfl ((S_own (g := fun (told1 : (Dm Nat Nat)) => ([some (enc (scope : (Tu Nat))), some (enc (row : (Tu Nat))), some (enc (values : (Dm Nat Nat))), some (enc (told1 : (Dm Nat Nat))), none] : En)) (E_dcp (E_v rfl)) (fun _ => rfl) (fun told1 => (S_forL (env := (fun (s2 : (Dm Nat Nat)) (js : J) => ([some (enc (scope : (Tu Nat))), some (enc (row : (Tu Nat))), some (enc (values : (Dm Nat Nat))), some (enc (s2 : (Dm Nat Nat))), js 4] : En))) (g := (fun (i6 : Nat) (s2 : (Dm Nat Nat)) (js3 : J) => ([some (enc (scope : (Tu Nat))), some (enc (row : (Tu Nat))), some (enc (values : (Dm Nat Nat))), some (enc (s2 : (Dm Nat Nat))), some (enc (i6 : Nat))] : En))) (W_r1 (E_b1 o_lenT (E_v rfl))) rfl (fun _ _ => rfl) (fun _ _ _ => rfl) (fun i6 s2 js3 => (S_ifl (C_and (C_b (E_din (E_ix o_atT (E_v rfl) (E_v rfl)) (E_v rfl))) (C_b (E_cmp (o_ne (by decide)) (E_dix (E_v rfl) (E_ix o_atT (E_v rfl) (E_v rfl))) (E_ix o_atT (E_v rfl) (E_v rfl))))) (S_ret (wrap := fun x21 => (Fw.rt x21)) (E_c rfl) (fun x τ => (kX_rt (kL_rt (kF_rt x τ))))) (S_setd (g := fun (told28 : (Dm Nat Nat)) => ([some (enc (scope : (Tu Nat))), some (enc (row : (Tu Nat))), some (enc (values : (Dm Nat Nat))), some (enc (told28 : (Dm Nat Nat))), some (enc (i6 : Nat))] : En)) (E_ix o_atT (E_v rfl) (E_v rfl)) (E_ix o_atT (E_v rfl) (E_v rfl)) rfl (fun _ => rfl) (fun told28 => (S_nil (fun τ => kL_nx rfl τ)))))) (fun s29 js30 => (S_ret (wrap := fun x => x) (E_c rfl) (fun x τ => (kF_rt x τ)))))))) e
def m_law_open (limit : ((Tu Nat) × (List (Tu Nat)))) (values : (Dm Nat Nat)) : M Bool := ((pure limit) >>= fun (p1 : ((Tu Nat) × (List (Tu Nat)))) => (((((pure p1.2) >>= fun (xs3 : List (Tu Nat)) => filL (fun (i2 : (Tu Nat)) => ((pure p1.1) >>= fun (x4 : (Tu Nat)) => (pure i2) >>= fun (x5 : (Tu Nat)) => (pure values) >>= fun (x6 : (Dm Nat Nat)) => m_law_agrees x4 x5 x6)) (fun (i2 : (Tu Nat)) => (pure i2)) xs3) >>= fun (x7 : (List (Tu Nat))) => pure x7.length) >>= fun (x8 : Nat) => (pure (0 : Nat)) >>= fun (x9 : Nat) => pure (decide (x9 < x8))) >>= fun (x10 : Bool) => pure x10))
theorem ok_law_open : ∀ (N : Nat), 2 ≤ N → C2 (callF P N) 12 m_law_open
  | N + 1, hN => fun limit values _ _ _ e => by
    exact call_ok (γ0 := [some (enc (limit : ((Tu Nat) × (List (Tu Nat))))), some (enc (values : (Dm Nat Nat))), none, none, none]) (rfl : P[12]? = some (.body _ _ 5 ir__law_open)) rfl ((S_set (g := fun (p1 : ((Tu Nat) × (List (Tu Nat)))) => ([some (enc (limit : ((Tu Nat) × (List (Tu Nat))))), some (enc (values : (Dm Nat Nat))), some (enc (p1.1 : (Tu Nat))), some (enc (p1.2 : (List (Tu Nat)))), none] : En)) (E_v rfl) (fun _ => rfl) (fun p1 => (S_ret (wrap := fun x => x) (E_cmp o_gtN (E_b1 o_lenL (E_fil (g := (fun (i2 : (Tu Nat)) => ([some (enc (limit : ((Tu Nat) × (List (Tu Nat))))), some (enc (values : (Dm Nat Nat))), some (enc (p1.1 : (Tu Nat))), some (enc (p1.2 : (List (Tu Nat)))), some (enc (i2 : (Tu Nat)))] : En))) (W_L (E_v rfl)) (fun _ => rfl) (fun i2 => (C_b (E_call3 (ok_law_agrees N (by omega)) (E_v rfl) (E_v rfl) (E_v rfl)))) (fun i2 => (E_v rfl)))) (E_c rfl)) (fun x τ => (kF_rt x τ)))))) e
def m_law_rows (size : Nat) (many : Nat) (limits : (List ((Tu Nat) × (List (Tu Nat))))) : M (List (List Nat)) := (((pure ([] : List Nat)) >>= fun (x1 : (List Nat)) => (pure ([] : List (List Nat))) >>= fun (l2 : List (List Nat)) => pure (x1 :: l2)) >>= fun (found3 : (List (List Nat))) => (((pure many) >>= fun (x6 : Nat) => rangeM x6) >>= fun (xs50 : List Nat) => foldL (fun (s4 : (List (List Nat))) (i7 : Nat) => ((pure ([] : List (List Nat))) >>= fun (more8 : (List (List Nat))) => ((pure s4) >>= fun (xs24 : List (List Nat)) => foldL (fun (s9 : (List (List Nat))) (i11 : (List Nat)) => ((((pure size) >>= fun (x12 : Nat) => rangeM x12) >>= fun (xs18 : List Nat) => mapL (fun (i13 : Nat) => ((pure i11) >>= fun (x16 : (List Nat)) => ((pure i13) >>= fun (x14 : Nat) => (pure ([] : List Nat)) >>= fun (l15 : List Nat) => pure (x14 :: l15)) >>= fun (x17 : (List Nat)) => appL x16 x17)) xs18) >>= fun (x19 : (List (List Nat))) => appL s9 x19 >>= fun (more20 : (List (List Nat))) => (pure more20))) more8 xs24 >>= fun (s21 : (List (List Nat))) => ((pure s21) >>= fun (found23 : (List (List Nat))) => (pure found23))))) found3 xs50 >>= fun (s26 : (List (List Nat))) => (((pure s26) >>= fun (xs29 : List (List Nat)) => filL (fun (i28 : (List Nat)) => ((((pure limits) >>= fun (xs31 : List ((Tu Nat) × (List (Tu Nat)))) => filL (fun (i30 : ((Tu Nat) × (List (Tu Nat)))) => (((((pure i30.1) >>= fun (x38 : (Tu Nat)) => pure x38.l) >>= fun (xs42 : List Nat) => mapL (fun (i39 : Nat) => ((pure i28) >>= fun (x40 : (List Nat)) => (pure i39) >>= fun (x41 : Nat) => atL x40 x41)) xs42) >>= fun (x43 : (List Nat)) => pure (Tu.mk x43)) >>= fun (x44 : (Tu Nat)) => (pure i30.2) >>= fun (x45 : (List (Tu Nat))) => pure (!decide (x44 ∈ x45)))) (fun (i30 : ((Tu Nat) × (List (Tu Nat)))) => (pure (1 : Nat))) xs31) >>= fun (x46 : (List Nat)) => pure x46.length) >>= fun (x47 : Nat) => (pure (0 : Nat)) >>= fun (x48 : Nat) => pure (decide (x47 = x48)))) (fun (i28 : (List Nat)) => (pure i28)) xs29) >>= fun (x49 : (List (List Nat))) => pure x49)))
theorem ok_law_rows : ∀ (N : Nat), 1 ≤ N → C3 (callF P N) 13 m_law_rows
  | N + 1, hN => fun size many limits _ _ _ e => by
    exact call_ok (γ0 := [some (enc (size : Nat)), some (enc (many : Nat)), some (enc (limits : (List ((Tu Nat) × (List (Tu Nat)))))), none, none, none, none, none, none, none, none]) (rfl : P[13]? = some (.body _ _ 11 ir__law_rows)) rfl ((S_set (g := fun (found3 : (List (List Nat))) => ([some (enc (size : Nat)), some (enc (many : Nat)), some (enc (limits : (List ((Tu Nat) × (List (Tu Nat)))))), some (enc (found3 : (List (List Nat)))), none, none, none, none, none, none, none] : En)) (E_lst (Al_cons (E_lst Al_nil) Al_nil)) (fun _ => rfl) (fun found3 => (S_for (env := (fun (s4 : (List (List Nat))) (js : J) => ([some (enc (size : Nat)), some (enc (many : Nat)), some (enc (limits : (List ((Tu Nat) × (List (Tu Nat)))))), some (enc (s4 : (List (List Nat)))), js 4, js 5, js 6, none, none, none, none] : En))) (g := (fun (i7 : Nat) (s4 : (List (List Nat))) (js5 : J) => ([some (enc (size : Nat)), some (enc (many : Nat)), some (enc (limits : (List ((Tu Nat) × (List (Tu Nat)))))), some (enc (s4 : (List (List Nat)))), some (enc (i7 : Nat)), js5 5, js5 6, none, none, none, none] : En))) (W_r1 (E_v rfl)) rfl (fun _ _ => rfl) (fun _ _ _ => rfl) (fun i7 s4 js5 => (S_own (g := fun (more8 : (List (List Nat))) => ([some (enc (size : Nat)), some (enc (many : Nat)), some (enc (limits : (List ((Tu Nat) × (List (Tu Nat)))))), some (enc (s4 : (List (List Nat)))), some (enc (i7 : Nat)), some (enc (more8 : (List (List Nat)))), js5 6, none, none, none, none] : En)) (E_lst Al_nil) (fun _ => rfl) (fun more8 => (S_for (env := (fun (s9 : (List (List Nat))) (js : J) => ([some (enc (size : Nat)), some (enc (many : Nat)), some (enc (limits : (List ((Tu Nat) × (List (Tu Nat)))))), some (enc (s4 : (List (List Nat)))), some (enc (i7 : Nat)), some (enc (s9 : (List (List Nat)))), js 6, none, none, none, none] : En))) (g := (fun (i11 : (List Nat)) (s9 : (List (List Nat))) (js10 : J) => ([some (enc (size : Nat)), some (enc (many : Nat)), some (enc (limits : (List ((Tu Nat) × (List (Tu Nat)))))), some (enc (s4 : (List (List Nat)))), some (enc (i7 : Nat)), some (enc (s9 : (List (List Nat)))), some (enc (i11 : (List Nat))), none, none, none, none] : En))) (W_L (E_v rfl)) rfl (fun _ _ => rfl) (fun _ _ _ => rfl) (fun i11 s9 js10 => (S_ext (g := fun (more20 : (List (List Nat))) => ([some (enc (size : Nat)), some (enc (many : Nat)), some (enc (limits : (List ((Tu Nat) × (List (Tu Nat)))))), some (enc (s4 : (List (List Nat)))), some (enc (i7 : Nat)), some (enc (more20 : (List (List Nat)))), some (enc (i11 : (List Nat))), none, none, none, none] : En)) (E_map (g := (fun (i13 : Nat) => ([some (enc (size : Nat)), some (enc (many : Nat)), some (enc (limits : (List ((Tu Nat) × (List (Tu Nat)))))), some (enc (s4 : (List (List Nat)))), some (enc (i7 : Nat)), some (enc (s9 : (List (List Nat)))), some (enc (i11 : (List Nat))), some (enc (i13 : Nat)), none, none, none] : En))) (W_r1 (E_v rfl)) (fun _ => rfl) (fun i13 => (E_bin o_appL (E_v rfl) (E_lst (Al_cons (E_v rfl) Al_nil))))) rfl (fun _ => rfl) (fun more20 => (S_nil (fun τ => kI_nx rfl τ))))) (fun s21 js22 => (S_frz (S_set (g := fun (found23 : (List (List Nat))) => ([some (enc (size : Nat)), some (enc (many : Nat)), some (enc (limits : (List ((Tu Nat) × (List (Tu Nat)))))), some (enc (found23 : (List (List Nat)))), some (enc (i7 : Nat)), some (enc (s21 : (List (List Nat)))), js22 6, none, none, none, none] : En)) (E_v rfl) (fun _ => rfl) (fun found23 => (S_nil (fun τ => kI_nx rfl τ)))))))))) (fun s26 js27 => (S_ret (wrap := fun x => x) (E_fil (g := (fun (i28 : (List Nat)) => ([some (enc (size : Nat)), some (enc (many : Nat)), some (enc (limits : (List ((Tu Nat) × (List (Tu Nat)))))), some (enc (s26 : (List (List Nat)))), js27 4, js27 5, some (enc (i28 : (List Nat))), none, none, none, none] : En))) (W_L (E_v rfl)) (fun _ => rfl) (fun i28 => (C_b (E_cmp (o_eq (by decide)) (E_b1 o_lenL (E_fil (g := (fun (i30 : ((Tu Nat) × (List (Tu Nat)))) => ([some (enc (size : Nat)), some (enc (many : Nat)), some (enc (limits : (List ((Tu Nat) × (List (Tu Nat)))))), some (enc (s26 : (List (List Nat)))), js27 4, js27 5, some (enc (i28 : (List Nat))), none, some (enc (i30.1 : (Tu Nat))), some (enc (i30.2 : (List (Tu Nat)))), none] : En))) (W_L (E_v rfl)) (fun _ => rfl) (fun i30 => (C_b (E_cmp (o_niL (by decide)) (E_b1 o_tupL (E_map (g := (fun (i39 : Nat) => ([some (enc (size : Nat)), some (enc (many : Nat)), some (enc (limits : (List ((Tu Nat) × (List (Tu Nat)))))), some (enc (s26 : (List (List Nat)))), js27 4, js27 5, some (enc (i28 : (List Nat))), none, some (enc (i30.1 : (Tu Nat))), some (enc (i30.2 : (List (Tu Nat)))), some (enc (i39 : Nat))] : En))) (W_T (E_v rfl)) (fun _ => rfl) (fun i39 => (E_ix o_atL (E_v rfl) (E_v rfl))))) (E_v rfl)))) (fun i30 => (E_c rfl)))) (E_c rfl)))) (fun i28 => (E_v rfl))) (fun x τ => (kF_rt x τ)))))))) e
def m_law_tree_fault : Nat → Nat → Nat → (List ((Tu Nat) × (List (Tu Nat)))) → (List Nat) → D → M (Option (Str × (List Nat)))
  | 0 => fun _ _ _ _ _ => failM
  | k + 1 => fun (size : Nat) (many : Nat) (limits : (List ((Tu Nat) × (List (Tu Nat))))) (row : (List Nat)) (tree : D) => ((pure (Dm.mk [] : (Dm Nat Nat))) >>= fun (values1 : (Dm Nat Nat)) => ((((pure row) >>= fun (x4 : (List Nat)) => pure x4.length) >>= fun (x5 : Nat) => rangeM x5) >>= fun (xs77 : List Nat) => foldL (fun (s2 : (Dm Nat Nat)) (i6 : Nat) => (((pure row) >>= fun (x7 : (List Nat)) => (pure i6) >>= fun (x8 : Nat) => atL x7 x8) >>= fun (x9 : Nat) => (pure i6) >>= fun (x10 : Nat) => putM s2 x10 x9 >>= fun (values11 : (Dm Nat Nat)) => (pure values11))) values1 xs77 >>= fun (s12 : (Dm Nat Nat)) => ((((pure tree) >>= fun (x14 : D) => (pure (0 : Nat)) >>= fun (x15 : Nat) => dIx x14 x15) >>= fun (x16 : D) => ((pure ("stopped" : Str)) >>= fun x => pure ((fun (x : Str) => (enc x : D)) x)) >>= fun (x17 : D) => ofO (cEq x16 x17)) >>= fun (q18 : Bool) => if q18 = true then (((((pure (0 : Int)) >>= fun (x22 : Int) => (((pure tree) >>= fun (x19 : D) => (pure (1 : Nat)) >>= fun (x20 : Nat) => dIx x19 x20) >>= fun (x : D) => ofO (dec x : Option Int)) >>= fun (x23 : Int) => pure (decide (x22 ≤ x23)) >>= fun (q25 : Bool) => if q25 = true then (((pure limits) >>= fun (x21 : (List ((Tu Nat) × (List (Tu Nat))))) => pure x21.length) >>= fun x => pure ((fun (x : Nat) => (x : Int)) x)) >>= fun (x24 : Int) => pure (decide (x23 < x24)) else pure false) >>= fun (q33 : Bool) => if q33 = true then ((((pure limits) >>= fun (x28 : (List ((Tu Nat) × (List (Tu Nat))))) => (((pure tree) >>= fun (x26 : D) => (pure (1 : Nat)) >>= fun (x27 : Nat) => dIx x26 x27) >>= fun (x : D) => ofO (dec x : Option Nat)) >>= fun (x29 : Nat) => atL x28 x29) >>= fun (x30 : ((Tu Nat) × (List (Tu Nat)))) => (pure s12) >>= fun (x31 : (Dm Nat Nat)) => m_law_open x30 x31) >>= fun (x32 : Bool) => pure (!x32)) else pure false) >>= fun (q36 : Bool) => if q36 = true then (pure (none : (Option (Str × (List Nat))))) else (((pure ("stopped" : Str)) >>= fun (x34 : Str) => (pure row) >>= fun (x35 : (List Nat)) => pure (x34, x35)) >>= fun x => pure ((fun (x : (Str × (List Nat))) => some x) x))) >>= fun (x37 : (Option (Str × (List Nat)))) => pure x37) else (((((pure row) >>= fun (x38 : (List Nat)) => pure x38.length) >>= fun (x39 : Nat) => (pure many) >>= fun (x40 : Nat) => pure (decide (x39 = x40))) >>= fun (q46 : Bool) => if q46 = true then pure true else ((((pure tree) >>= fun (x41 : D) => (pure (1 : Nat)) >>= fun (x42 : Nat) => dIx x41 x42) >>= fun (x43 : D) => ofO (lenD x43)) >>= fun (x44 : Nat) => (pure size) >>= fun (x45 : Nat) => pure (!decide (x44 = x45)))) >>= fun (q47 : Bool) => if q47 = true then ((((pure ("split" : Str)) >>= fun (x48 : Str) => (pure row) >>= fun (x49 : (List Nat)) => pure (x48, x49)) >>= fun x => pure ((fun (x : (Str × (List Nat))) => some x) x)) >>= fun (x50 : (Option (Str × (List Nat)))) => pure x50) else (((pure size) >>= fun (x53 : Nat) => rangeM x53) >>= fun (xs75 : List Nat) => loopL (fun (s51 : Unit) (i54 : Nat) => (((pure size) >>= fun (x63 : Nat) => (pure many) >>= fun (x64 : Nat) => (pure limits) >>= fun (x65 : (List ((Tu Nat) × (List (Tu Nat))))) => ((pure row) >>= fun (x57 : (List Nat)) => ((pure i54) >>= fun (x55 : Nat) => (pure ([] : List Nat)) >>= fun (l56 : List Nat) => pure (x55 :: l56)) >>= fun (x58 : (List Nat)) => appL x57 x58) >>= fun (x66 : (List Nat)) => (((pure tree) >>= fun (x59 : D) => (pure (1 : Nat)) >>= fun (x60 : Nat) => dIx x59 x60) >>= fun (x61 : D) => (pure i54) >>= fun (x62 : Nat) => dIx x61 x62) >>= fun (x67 : D) => (m_law_tree_fault k) x63 x64 x65 x66 x67) >>= fun (found68 : (Option (Str × (List Nat)))) => (((pure found68) >>= fun (x69 : (Option (Str × (List Nat)))) => pure x69.isSome) >>= fun (q70 : Bool) => if q70 = true then ((pure found68) >>= fun (x71 : (Option (Str × (List Nat)))) => pure (Fw.rt x71)) else (pure (Fw.nx ()))))) () xs75 >>= fun z76 => caseS z76 (fun (s72 : Unit) => ((pure (none : (Option (Str × (List Nat))))) >>= fun (x74 : (Option (Str × (List Nat)))) => pure x74)))))))
theorem ok_law_tree_fault : ∀ (k N : Nat), k + 3 ≤ N → C5 (callF P N) 14 (m_law_tree_fault k)
  | 0, _, _ => fun _ _ _ _ _ _ _ _ e => (nomatch (show (none : Option ((Option (Str × (List Nat))) × Tape)) = some _ from e))
  | k + 1, N + 1, hN => fun size many limits row tree _ _ _ e => by
    have ih : ∀ N, k + 3 ≤ N → C5 (callF P N) 14 (m_law_tree_fault k) := fun N h => ok_law_tree_fault k N h
    exact call_ok (γ0 := [some (enc (size : Nat)), some (enc (many : Nat)), some (enc (limits : (List ((Tu Nat) × (List (Tu Nat)))))), some (enc (row : (List Nat))), some (enc (tree : D)), none, none, none, none]) (rfl : P[14]? = some (.body _ _ 9 ir__law_tree_fault)) rfl ((S_own (g := fun (values1 : (Dm Nat Nat)) => ([some (enc (size : Nat)), some (enc (many : Nat)), some (enc (limits : (List ((Tu Nat) × (List (Tu Nat)))))), some (enc (row : (List Nat))), some (enc (tree : D)), some (enc (values1 : (Dm Nat Nat))), none, none, none] : En)) E_dnew (fun _ => rfl) (fun values1 => (S_for (env := (fun (s2 : (Dm Nat Nat)) (js : J) => ([some (enc (size : Nat)), some (enc (many : Nat)), some (enc (limits : (List ((Tu Nat) × (List (Tu Nat)))))), some (enc (row : (List Nat))), some (enc (tree : D)), some (enc (s2 : (Dm Nat Nat))), js 6, none, none] : En))) (g := (fun (i6 : Nat) (s2 : (Dm Nat Nat)) (js3 : J) => ([some (enc (size : Nat)), some (enc (many : Nat)), some (enc (limits : (List ((Tu Nat) × (List (Tu Nat)))))), some (enc (row : (List Nat))), some (enc (tree : D)), some (enc (s2 : (Dm Nat Nat))), some (enc (i6 : Nat)), none, none] : En))) (W_r1 (E_b1 o_lenL (E_v rfl))) rfl (fun _ _ => rfl) (fun _ _ _ => rfl) (fun i6 s2 js3 => (S_setd (g := fun (values11 : (Dm Nat Nat)) => ([some (enc (size : Nat)), some (enc (many : Nat)), some (enc (limits : (List ((Tu Nat) × (List (Tu Nat)))))), some (enc (row : (List Nat))), some (enc (tree : D)), some (enc (values11 : (Dm Nat Nat))), some (enc (i6 : Nat)), none, none] : En)) (E_ix o_atL (E_v rfl) (E_v rfl)) (E_v rfl) rfl (fun _ => rfl) (fun values11 => (S_nil (fun τ => kI_nx rfl τ))))) (fun s12 js13 => (S_ifl (C_b (E_cmp o_eqD (E_ix o_atD (E_v rfl) (E_c rfl)) (E_up (f := (fun (x : Str) => (enc x : D))) (fun _ => rfl) (E_c rfl)))) (S_frz (S_ret (wrap := fun x => x) (E_ite (C_and (C_b (E_cmp2 o_leZ o_ltZ (E_c rfl) (E_dn (E_ix o_atD (E_v rfl) (E_c rfl))) (E_up (f := (fun (x : Nat) => (x : Int))) (fun _ => rfl) (E_b1 o_lenL (E_v rfl))))) (C_b (E_not (C_b (E_call2 (ok_law_open N (by omega)) (E_ix o_atL (E_v rfl) (E_dn (E_ix o_atD (E_v rfl) (E_c rfl)))) (E_v rfl)))))) (E_c rfl) (E_up (f := (fun (x : (Str × (List Nat))) => some x)) (fun _ => rfl) (E_p2 (E_c rfl) (E_v rfl)))) (fun x τ => (kX_rt (kF_rt x τ))))) (S_ifl (C_or (C_b (E_cmp (o_eq (by decide)) (E_b1 o_lenL (E_v rfl)) (E_v rfl))) (C_b (E_cmp (o_ne (by decide)) (E_b1 o_lenD (E_ix o_atD (E_v rfl) (E_c rfl))) (E_v rfl)))) (S_ret (wrap := fun x => x) (E_up (f := (fun (x : (Str × (List Nat))) => some x)) (fun _ => rfl) (E_p2 (E_c rfl) (E_v rfl))) (fun x τ => (kX_rt (kF_rt x τ)))) (S_forL (env := (fun (s51 : Unit) (js : J) => ([some (enc (size : Nat)), some (enc (many : Nat)), some (enc (limits : (List ((Tu Nat) × (List (Tu Nat)))))), some (enc (row : (List Nat))), some (enc (tree : D)), some (enc (s12 : (Dm Nat Nat))), js13 6, js 7, js 8] : En))) (g := (fun (i54 : Nat) (s51 : Unit) (js52 : J) => ([some (enc (size : Nat)), some (enc (many : Nat)), some (enc (limits : (List ((Tu Nat) × (List (Tu Nat)))))), some (enc (row : (List Nat))), some (enc (tree : D)), some (enc (s12 : (Dm Nat Nat))), js13 6, some (enc (i54 : Nat)), js52 8] : En))) (W_r1 (E_v rfl)) rfl (fun _ _ => rfl) (fun _ _ _ => rfl) (fun i54 s51 js52 => (S_set (g := fun (found68 : (Option (Str × (List Nat)))) => ([some (enc (size : Nat)), some (enc (many : Nat)), some (enc (limits : (List ((Tu Nat) × (List (Tu Nat)))))), some (enc (row : (List Nat))), some (enc (tree : D)), some (enc (s12 : (Dm Nat Nat))), js13 6, some (enc (i54 : Nat)), some (enc (found68 : (Option (Str × (List Nat)))))] : En)) (E_call5 (ih N (by omega)) (E_v rfl) (E_v rfl) (E_v rfl) (E_bin o_appL (E_v rfl) (E_lst (Al_cons (E_v rfl) Al_nil))) (E_ix o_atD (E_ix o_atD (E_v rfl) (E_c rfl)) (E_v rfl))) (fun _ => rfl) (fun found68 => (S_ifl (C_b (E_notN (fun _ => rfl) (E_v rfl))) (S_ret (wrap := fun x71 => (Fw.rt x71)) (E_v rfl) (fun x τ => (kX_rt (kL_rt (kF_rt x τ))))) (S_nil (fun τ => kL_nx rfl τ)))))) (fun s72 js73 => (S_ret (wrap := fun x => x) (E_c rfl) (fun x τ => (kF_rt x τ)))))))))))) e
def m_law_fault (size : Nat) (many : Nat) (limits : (List ((Tu Nat) × (List (Tu Nat))))) (good : (List (List Nat))) (told : D) : M D := ((((pure told) >>= fun (x1 : D) => (pure (0 : Nat)) >>= fun (x2 : Nat) => dIx x1 x2) >>= fun (x3 : D) => ((pure ("none" : Str)) >>= fun x => pure ((fun (x : Str) => (enc x : D)) x)) >>= fun (x4 : D) => ofO (cEq x3 x4)) >>= fun (q5 : Bool) => if q5 = true then ((((pure size) >>= fun (x8 : Nat) => (pure many) >>= fun (x9 : Nat) => (pure limits) >>= fun (x10 : (List ((Tu Nat) × (List (Tu Nat))))) => (pure ([] : List Nat)) >>= fun (x11 : (List Nat)) => ((pure told) >>= fun (x6 : D) => (pure (1 : Nat)) >>= fun (x7 : Nat) => dIx x6 x7) >>= fun (x12 : D) => (m_law_tree_fault 12) x8 x9 x10 x11 x12) >>= fun x => pure ((fun (x : (Option (Str × (List Nat)))) => (enc x : D)) x)) >>= fun (x13 : D) => pure x13) else (((pure told) >>= fun (x14 : D) => (pure (1 : Nat)) >>= fun (x15 : Nat) => dIx x14 x15) >>= fun (row16 : D) => (((((pure row16) >>= fun (x17 : D) => ofO (lenD x17)) >>= fun (x18 : Nat) => (pure many) >>= fun (x19 : Nat) => pure (!decide (x18 = x19))) >>= fun (q31 : Bool) => if q31 = true then pure true else (((((pure row16) >>= fun (x20 : D) => ofO (seqOf x20)) >>= fun (xs22 : List D) => filL (fun (i21 : D) => (((pure (0 : Int)) >>= fun (x23 : Int) => ((pure i21) >>= fun (x : D) => ofO (dec x : Option Int)) >>= fun (x24 : Int) => pure (decide (x23 ≤ x24)) >>= fun (q26 : Bool) => if q26 = true then ((pure size) >>= fun x => pure ((fun (x : Nat) => (x : Int)) x)) >>= fun (x25 : Int) => pure (decide (x24 < x25)) else pure false) >>= fun (x27 : Bool) => pure (!x27))) (fun (i21 : D) => (pure i21)) xs22) >>= fun (x28 : (List D)) => pure x28.length) >>= fun (x29 : Nat) => (pure (0 : Nat)) >>= fun (x30 : Nat) => pure (decide (x30 < x29)))) >>= fun (q32 : Bool) => if q32 = true then ((((pure ("values" : Str)) >>= fun (x33 : Str) => (pure ([] : List D)) >>= fun (l34 : List D) => pure (enc x33 :: l34)) >>= fun (x35 : (List D)) => pure (PyData.tuple x35)) >>= fun (x36 : D) => pure x36) else ((((pure limits) >>= fun (x39 : (List ((Tu Nat) × (List (Tu Nat))))) => pure x39.length) >>= fun (x40 : Nat) => rangeM x40) >>= fun (xs91 : List Nat) => loopL (fun (s37 : Unit) (i41 : Nat) => ((((((((pure limits) >>= fun (x62 : (List ((Tu Nat) × (List (Tu Nat))))) => (pure i41) >>= fun (x63 : Nat) => atL x62 x63) >>= fun (x64 : ((Tu Nat) × (List (Tu Nat)))) => pure x64.1) >>= fun (x65 : (Tu Nat)) => pure x65.l) >>= fun (xs69 : List Nat) => mapL (fun (i66 : Nat) => (((pure row16) >>= fun (x67 : D) => (pure i66) >>= fun (x68 : Nat) => dIx x67 x68) >>= fun (x : D) => ofO (dec x : Option Nat))) xs69) >>= fun (x70 : (List Nat)) => pure (Tu.mk x70)) >>= fun (x71 : (Tu Nat)) => (((pure limits) >>= fun (x42 : (List ((Tu Nat) × (List (Tu Nat))))) => (pure i41) >>= fun (x43 : Nat) => atL x42 x43) >>= fun (x44 : ((Tu Nat) × (List (Tu Nat)))) => pure x44.2) >>= fun (x72 : (List (Tu Nat))) => pure (!decide (x71 ∈ x72))) >>= fun (q73 : Bool) => if q73 = true then ((((pure ("limit" : Str)) >>= fun (x76 : Str) => ((pure i41) >>= fun (x74 : Nat) => (pure ([] : List D)) >>= fun (l75 : List D) => pure (enc x74 :: l75)) >>= fun (l77 : List D) => pure (enc x76 :: l77)) >>= fun (x78 : (List D)) => pure (PyData.tuple x78)) >>= fun (x79 : D) => pure (Fw.rt x79)) else (pure (Fw.nx ())))) () xs91 >>= fun z92 => caseS z92 (fun (s80 : Unit) => ((((((pure good) >>= fun (x82 : (List (List Nat))) => (pure (0 : Nat)) >>= fun (x83 : Nat) => atL x82 x83) >>= fun x => pure ((fun (x : (List Nat)) => (enc x : D)) x)) >>= fun (x84 : D) => (pure row16) >>= fun (x85 : D) => ofO (cEq x84 x85)) >>= fun (q89 : Bool) => if q89 = true then ((pure ()) >>= fun x => pure ((fun (x : Unit) => (enc x : D)) x)) else (((pure ("least" : Str)) >>= fun (x86 : Str) => (pure ([] : List D)) >>= fun (l87 : List D) => pure (enc x86 :: l87)) >>= fun (x88 : (List D)) => pure (PyData.tuple x88))) >>= fun (x90 : D) => pure x90))))))
theorem ok_law_fault : ∀ (N : Nat), 16 ≤ N → C5 (callF P N) 15 m_law_fault
  | N + 1, hN => fun size many limits good told _ _ _ e => by
    exact call_ok (γ0 := [some (enc (size : Nat)), some (enc (many : Nat)), some (enc (limits : (List ((Tu Nat) × (List (Tu Nat)))))), some (enc (good : (List (List Nat)))), some (enc (told : D)), none, none, none]) (rfl : P[15]? = some (.body _ _ 8 ir__law_fault)) rfl ((S_ifl (C_b (E_cmp o_eqD (E_ix o_atD (E_v rfl) (E_c rfl)) (E_up (f := (fun (x : Str) => (enc x : D))) (fun _ => rfl) (E_c rfl)))) (S_ret (wrap := fun x => x) (E_up (f := (fun (x : (Option (Str × (List Nat)))) => (enc x : D))) (fun _ => rfl) (E_call5 (ok_law_tree_fault 12 N (by omega)) (E_v rfl) (E_v rfl) (E_v rfl) (E_lst Al_nil) (E_ix o_atD (E_v rfl) (E_c rfl)))) (fun x τ => (kX_rt (kF_rt x τ)))) (S_set (g := fun (row16 : D) => ([some (enc (size : Nat)), some (enc (many : Nat)), some (enc (limits : (List ((Tu Nat) × (List (Tu Nat)))))), some (enc (good : (List (List Nat)))), some (enc (told : D)), some (enc (row16 : D)), none, none] : En)) (E_ix o_atD (E_v rfl) (E_c rfl)) (fun _ => rfl) (fun row16 => (S_ifl (C_or (C_b (E_cmp (o_ne (by decide)) (E_b1 o_lenD (E_v rfl)) (E_v rfl))) (C_b (E_cmp o_gtN (E_b1 o_lenL (E_fil (g := (fun (i21 : D) => ([some (enc (size : Nat)), some (enc (many : Nat)), some (enc (limits : (List ((Tu Nat) × (List (Tu Nat)))))), some (enc (good : (List (List Nat)))), some (enc (told : D)), some (enc (row16 : D)), none, some (enc (i21 : D))] : En))) (W_D (E_v rfl)) (fun _ => rfl) (fun i21 => (C_b (E_not (C_b (E_cmp2 o_leZ o_ltZ (E_c rfl) (E_dn (E_v rfl)) (E_up (f := (fun (x : Nat) => (x : Int))) (fun _ => rfl) (E_v rfl))))))) (fun i21 => (E_v rfl)))) (E_c rfl)))) (S_ret (wrap := fun x => x) (E_tupD (A_cons (E_c rfl) A_nil)) (fun x τ => (kX_rt (kF_rt x τ)))) (S_forL (env := (fun (s37 : Unit) (js : J) => ([some (enc (size : Nat)), some (enc (many : Nat)), some (enc (limits : (List ((Tu Nat) × (List (Tu Nat)))))), some (enc (good : (List (List Nat)))), some (enc (told : D)), some (enc (row16 : D)), js 6, none] : En))) (g := (fun (i41 : Nat) (s37 : Unit) (js38 : J) => ([some (enc (size : Nat)), some (enc (many : Nat)), some (enc (limits : (List ((Tu Nat) × (List (Tu Nat)))))), some (enc (good : (List (List Nat)))), some (enc (told : D)), some (enc (row16 : D)), some (enc (i41 : Nat)), none] : En))) (W_r1 (E_b1 o_lenL (E_v rfl))) rfl (fun _ _ => rfl) (fun _ _ _ => rfl) (fun i41 s37 js38 => (S_ifl (C_b (E_cmp (o_niL (by decide)) (E_b1 o_tupL (E_map (g := (fun (i66 : Nat) => ([some (enc (size : Nat)), some (enc (many : Nat)), some (enc (limits : (List ((Tu Nat) × (List (Tu Nat)))))), some (enc (good : (List (List Nat)))), some (enc (told : D)), some (enc (row16 : D)), some (enc (i41 : Nat)), some (enc (i66 : Nat))] : En))) (W_T (E_ixc (f := fun (x : ((Tu Nat) × (List (Tu Nat)))) => x.1) (fun _ => rfl) (E_ix o_atL (E_v rfl) (E_v rfl)))) (fun _ => rfl) (fun i66 => (E_dn (E_ix o_atD (E_v rfl) (E_v rfl)))))) (E_ixc (f := fun (x : ((Tu Nat) × (List (Tu Nat)))) => x.2) (fun _ => rfl) (E_ix o_atL (E_v rfl) (E_v rfl))))) (S_ret (wrap := fun x79 => (Fw.rt x79)) (E_tupD (A_cons (E_c rfl) (A_cons (E_v rfl) A_nil))) (fun x τ => (kX_rt (kL_rt (kF_rt x τ))))) (S_nil (fun τ => kL_nx rfl τ)))) (fun s80 js81 => (S_ret (wrap := fun x => x) (E_ite (C_b (E_cmp o_eqD (E_up (f := (fun (x : (List Nat)) => (enc x : D))) (fun _ => rfl) (E_ix o_atL (E_v rfl) (E_c rfl))) (E_v rfl))) (E_up (f := (fun (x : Unit) => (enc x : D))) (fun _ => rfl) (E_c rfl)) (E_tupD (A_cons (E_c rfl) A_nil))) (fun x τ => (kF_rt x τ)))))))))) e
def m_law_bent_tree : Nat → Unit → D → M D
  | 0 => fun _ _ => failM
  | k + 1 => fun (state : Unit) (tree : D) => (((((pure tree) >>= fun (x1 : D) => (pure (0 : Nat)) >>= fun (x2 : Nat) => dIx x1 x2) >>= fun (x3 : D) => ((pure ("split" : Str)) >>= fun x => pure ((fun (x : Str) => (enc x : D)) x)) >>= fun (x4 : D) => ofO (cEq x3 x4)) >>= fun (q15 : Bool) => if q15 = true then (((((pure tree) >>= fun (x5 : D) => (pure (1 : Nat)) >>= fun (x6 : Nat) => dIx x5 x6) >>= fun (x7 : D) => ofO (lenD x7)) >>= fun (x8 : Nat) => (pure (0 : Nat)) >>= fun (x9 : Nat) => pure (decide (x9 < x8))) >>= fun (q14 : Bool) => if q14 = true then (((pure state) >>= fun (x10 : Unit) => (pure (3 : Nat)) >>= fun (x11 : Nat) => (fun (_ : Unit) (n : Nat) => takeM n) x10 x11) >>= fun (x12 : Nat) => (pure (0 : Nat)) >>= fun (x13 : Nat) => pure (decide (x13 < x12))) else pure false) else pure false) >>= fun (q16 : Bool) => if q16 = true then (((pure state) >>= fun (x20 : Unit) => (((pure tree) >>= fun (x17 : D) => (pure (1 : Nat)) >>= fun (x18 : Nat) => dIx x17 x18) >>= fun (x19 : D) => ofO (lenD x19)) >>= fun (x21 : Nat) => (fun (_ : Unit) (n : Nat) => takeM n) x20 x21) >>= fun (at_22 : Nat) => ((((pure ("split" : Str)) >>= fun (x47 : Str) => (((((((pure tree) >>= fun (x23 : D) => (pure (1 : Nat)) >>= fun (x24 : Nat) => dIx x23 x24) >>= fun (x : D) => ofO (dec x : Option (List D))) >>= fun (x25 : (List D)) => (pure at_22) >>= fun (x26 : Nat) => pure (x25.take x26)) >>= fun (x35 : (List D)) => (((pure state) >>= fun (x31 : Unit) => (((pure tree) >>= fun (x27 : D) => (pure (1 : Nat)) >>= fun (x28 : Nat) => dIx x27 x28) >>= fun (x29 : D) => (pure at_22) >>= fun (x30 : Nat) => dIx x29 x30) >>= fun (x32 : D) => (m_law_bent_tree k) x31 x32) >>= fun (x33 : D) => (pure ([] : List D)) >>= fun (l34 : List D) => pure (x33 :: l34)) >>= fun (x36 : (List D)) => appL x35 x36) >>= fun (x43 : (List D)) => ((((pure tree) >>= fun (x37 : D) => (pure (1 : Nat)) >>= fun (x38 : Nat) => dIx x37 x38) >>= fun (x : D) => ofO (dec x : Option (List D))) >>= fun (x41 : (List D)) => ((pure at_22) >>= fun (x39 : Nat) => (pure (1 : Nat)) >>= fun (x40 : Nat) => pure (x39 + x40)) >>= fun (x42 : Nat) => pure (x41.drop x42)) >>= fun (x44 : (List D)) => appL x43 x44) >>= fun (x45 : (List D)) => (pure ([] : List D)) >>= fun (l46 : List D) => pure (enc x45 :: l46)) >>= fun (l48 : List D) => pure (enc x47 :: l48)) >>= fun (x49 : (List D)) => pure (PyData.tuple x49)) >>= fun (x50 : D) => pure x50)) else ((((((pure ("stopped" : Str)) >>= fun (x71 : Str) => (((((pure state) >>= fun (x65 : Unit) => (pure (7 : Nat)) >>= fun (x66 : Nat) => (fun (_ : Unit) (n : Nat) => takeM n) x65 x66) >>= fun x => pure ((fun (x : Nat) => (x : Int)) x)) >>= fun (x67 : Int) => ((pure (1 : Nat)) >>= fun x => pure ((fun (x : Nat) => (x : Int)) x)) >>= fun (x68 : Int) => pure (x67 - x68)) >>= fun (x69 : Int) => (pure ([] : List D)) >>= fun (l70 : List D) => pure (enc x69 :: l70)) >>= fun (l72 : List D) => pure (enc x71 :: l72)) >>= fun (x73 : (List D)) => pure (PyData.tuple x73)) >>= fun (x92 : D) => ((((pure ("split" : Str)) >>= fun (x76 : Str) => ((pure ([] : List D)) >>= fun (x74 : (List D)) => (pure ([] : List D)) >>= fun (l75 : List D) => pure (enc x74 :: l75)) >>= fun (l77 : List D) => pure (enc x76 :: l77)) >>= fun (x78 : (List D)) => pure (PyData.tuple x78)) >>= fun (x90 : D) => ((((pure ("split" : Str)) >>= fun (x85 : Str) => (((pure tree) >>= fun (x81 : D) => ((pure tree) >>= fun (x79 : D) => (pure ([] : List D)) >>= fun (l80 : List D) => pure (x79 :: l80)) >>= fun (l82 : List D) => pure (x81 :: l82)) >>= fun (x83 : (List D)) => (pure ([] : List D)) >>= fun (l84 : List D) => pure (enc x83 :: l84)) >>= fun (l86 : List D) => pure (enc x85 :: l86)) >>= fun (x87 : (List D)) => pure (PyData.tuple x87)) >>= fun (x88 : D) => (pure ([] : List D)) >>= fun (l89 : List D) => pure (x88 :: l89)) >>= fun (l91 : List D) => pure (x90 :: l91)) >>= fun (l93 : List D) => pure (x92 :: l93)) >>= fun (x96 : (List D)) => ((pure state) >>= fun (x94 : Unit) => (pure (3 : Nat)) >>= fun (x95 : Nat) => (fun (_ : Unit) (n : Nat) => takeM n) x94 x95) >>= fun (x97 : Nat) => atL x96 x97) >>= fun (x98 : D) => pure x98))
theorem ok_law_bent_tree : ∀ (k N : Nat), k + 2 ≤ N → C2 (callF P N) 16 (m_law_bent_tree k)
  | 0, _, _ => fun _ _ _ _ _ e => (nomatch (show (none : Option (D × Tape)) = some _ from e))
  | k + 1, N + 1, hN => fun state tree _ _ _ e => by
    have ih : ∀ N, k + 2 ≤ N → C2 (callF P N) 16 (m_law_bent_tree k) := fun N h => ok_law_bent_tree k N h
    exact call_ok (γ0 := [some (enc (state : Unit)), some (enc (tree : D)), none]) (rfl : P[16]? = some (.body _ _ 3 ir__law_bent_tree)) rfl ((S_ifl (C_and (C_b (E_cmp o_eqD (E_ix o_atD (E_v rfl) (E_c rfl)) (E_up (f := (fun (x : Str) => (enc x : D))) (fun _ => rfl) (E_c rfl)))) (C_and (C_b (E_cmp o_gtN (E_b1 o_lenD (E_ix o_atD (E_v rfl) (E_c rfl))) (E_c rfl))) (C_b (E_cmp o_gtN (E_call2 (take_c N (by omega)) (E_v rfl) (E_c rfl)) (E_c rfl))))) (S_set (g := fun (at_22 : Nat) => ([some (enc (state : Unit)), some (enc (tree : D)), some (enc (at_22 : Nat))] : En)) (E_call2 (take_c N (by omega)) (E_v rfl) (E_b1 o_lenD (E_ix o_atD (E_v rfl) (E_c rfl)))) (fun _ => rfl) (fun at_22 => (S_ret (wrap := fun x => x) (E_tupD (A_cons (E_c rfl) (A_cons (E_bin o_appL (E_bin o_appL (E_slT o_slTL (E_dn (E_ix o_atD (E_v rfl) (E_c rfl))) (E_v rfl)) (E_lst (Al_cons (E_call2 (ih N (by omega)) (E_v rfl) (E_ix o_atD (E_ix o_atD (E_v rfl) (E_c rfl)) (E_v rfl))) Al_nil))) (E_slF o_slFL (E_dn (E_ix o_atD (E_v rfl) (E_c rfl))) (E_bin o_addN (E_v rfl) (E_c rfl)))) A_nil))) (fun x τ => (kX_rt (kF_rt x τ)))))) (S_ret (wrap := fun x => x) (E_ix o_atL (E_lst (Al_cons (E_tupD (A_cons (E_c rfl) (A_cons (E_bin o_subZ (E_up (f := (fun (x : Nat) => (x : Int))) (fun _ => rfl) (E_call2 (take_c N (by omega)) (E_v rfl) (E_c rfl))) (E_up (f := (fun (x : Nat) => (x : Int))) (fun _ => rfl) (E_c rfl))) A_nil))) (Al_cons (E_tupD (A_cons (E_c rfl) (A_cons (E_lst Al_nil) A_nil))) (Al_cons (E_tupD (A_cons (E_c rfl) (A_cons (E_lst (Al_cons (E_v rfl) (Al_cons (E_v rfl) Al_nil))) A_nil))) Al_nil)))) (E_call2 (take_c N (by omega)) (E_v rfl) (E_c rfl))) (fun x τ => (kF_rt x τ))))) e
def m_law : M Bool := (((pure ()) >>= fun (x1 : Unit) => (pure (5 : Nat)) >>= fun (x2 : Nat) => (pure (5 : Nat)) >>= fun (x3 : Nat) => m_law_problem x1 x2 x3) >>= fun (p4 : (P3 Nat Nat (List ((Tu Nat) × (List (Tu Nat)))))) => ((((pure p4.c) >>= fun x => pure ((fun (x : (List ((Tu Nat) × (List (Tu Nat))))) => (enc x : D)) x)) >>= fun (x5 : D) => ofO (reprS x5)) >>= fun (kept6 : Str) => (((pure p4.a) >>= fun (x7 : Nat) => (pure p4.b) >>= fun (x8 : Nat) => (pure p4.c) >>= fun (x9 : (List ((Tu Nat) × (List (Tu Nat))))) => m_law_rows x7 x8 x9) >>= fun (good10 : (List (List Nat))) => (((pure p4.a) >>= fun (x11 : Nat) => (pure p4.b) >>= fun (x12 : Nat) => (pure p4.c) >>= fun (x13 : (List ((Tu Nat) × (List (Tu Nat))))) => m_settle x11 x12 x13) >>= fun (told14 : D) => (((((pure told14) >>= fun (x15 : D) => pure (isiB Kc.tup (enc x15))) >>= fun (x16 : Bool) => pure (!x16)) >>= fun (q31 : Bool) => if q31 = true then pure true else ((((pure told14) >>= fun (x17 : D) => (pure (0 : Nat)) >>= fun (x18 : Nat) => dIx x17 x18) >>= fun (x23 : D) => (((((pure good10) >>= fun (x19 : (List (List Nat))) => pure x19.length) >>= fun (x20 : Nat) => (pure (0 : Nat)) >>= fun (x21 : Nat) => pure (decide (x21 < x20))) >>= fun (q22 : Bool) => if q22 = true then (pure ("least" : Str)) else (pure ("none" : Str))) >>= fun x => pure ((fun (x : Str) => (enc x : D)) x)) >>= fun (x24 : D) => ofO ((cEq x23 x24).map (!·))) >>= fun (q30 : Bool) => if q30 = true then pure true else (((pure p4.a) >>= fun (x25 : Nat) => (pure p4.b) >>= fun (x26 : Nat) => (pure p4.c) >>= fun (x27 : (List ((Tu Nat) × (List (Tu Nat))))) => m_all_values x25 x26 x27) >>= fun (x28 : (List (List Nat))) => (pure good10) >>= fun (x29 : (List (List Nat))) => pure (!decide (x28 = x29))))) >>= fun (q32 : Bool) => if q32 = true then ((pure false) >>= fun (x33 : Bool) => pure x33) else (((((pure p4.a) >>= fun (x34 : Nat) => (pure p4.b) >>= fun (x35 : Nat) => (pure p4.c) >>= fun (x36 : (List ((Tu Nat) × (List (Tu Nat))))) => (pure good10) >>= fun (x37 : (List (List Nat))) => (pure told14) >>= fun (x38 : D) => m_law_fault x34 x35 x36 x37 x38) >>= fun (x39 : D) => pure (!isNoneD x39)) >>= fun (q49 : Bool) => if q49 = true then pure true else ((((pure p4.a) >>= fun (x40 : Nat) => (pure p4.b) >>= fun (x41 : Nat) => (pure p4.c) >>= fun (x42 : (List ((Tu Nat) × (List (Tu Nat))))) => (pure told14) >>= fun (x43 : D) => m_settle_fault x40 x41 x42 x43) >>= fun (x44 : D) => pure (!isNoneD x44)) >>= fun (q48 : Bool) => if q48 = true then pure true else ((((pure p4.c) >>= fun x => pure ((fun (x : (List ((Tu Nat) × (List (Tu Nat))))) => (enc x : D)) x)) >>= fun (x45 : D) => ofO (reprS x45)) >>= fun (x46 : Str) => (pure kept6) >>= fun (x47 : Str) => pure (!decide (x46 = x47))))) >>= fun (q50 : Bool) => if q50 = true then ((pure false) >>= fun (x51 : Bool) => pure x51) else (((pure good10) >>= fun (x54 : (List (List Nat))) => (pure (5 : Nat)) >>= fun (x55 : Nat) => pure (x54.take x55)) >>= fun (xs191 : List (List Nat)) => loopL (fun (s52 : Unit) (i56 : (List Nat)) => ((((pure p4.a) >>= fun (x62 : Nat) => (pure p4.b) >>= fun (x63 : Nat) => (pure p4.c) >>= fun (x64 : (List ((Tu Nat) × (List (Tu Nat))))) => (((pure ("least" : Str)) >>= fun (x59 : Str) => ((pure i56) >>= fun (x57 : (List Nat)) => (pure ([] : List D)) >>= fun (l58 : List D) => pure (enc x57 :: l58)) >>= fun (l60 : List D) => pure (enc x59 :: l60)) >>= fun (x61 : (List D)) => pure (PyData.tuple x61)) >>= fun (x65 : D) => m_settle_fault x62 x63 x64 x65) >>= fun (x74 : D) => ((((pure i56) >>= fun (x68 : (List Nat)) => ((pure good10) >>= fun (x66 : (List (List Nat))) => (pure (0 : Nat)) >>= fun (x67 : Nat) => atL x66 x67) >>= fun (x69 : (List Nat)) => pure (decide (x68 = x69))) >>= fun (q73 : Bool) => if q73 = true then ((pure ()) >>= fun x => pure ((fun (_ : Unit) => (none : (Option (Tu Str)))) x)) else ((((pure ("least" : Str)) >>= fun (x70 : Str) => (pure ([] : List Str)) >>= fun (l71 : List Str) => pure (x70 :: l71)) >>= fun (x72 : (List Str)) => pure (Tu.mk x72)) >>= fun x => pure ((fun (x : (Tu Str)) => some x) x))) >>= fun x => pure ((fun (x : (Option (Tu Str))) => (enc x : D)) x)) >>= fun (x75 : D) => ofO ((cEq x74 x75).map (!·))) >>= fun (q76 : Bool) => if q76 = true then ((pure false) >>= fun (x77 : Bool) => pure (Fw.rt x77)) else (pure (Fw.nx ())))) () xs191 >>= fun z192 => caseS z192 (fun (s78 : Unit) => (((pure (7 : Nat)) >>= fun (x82 : Nat) => rangeM x82) >>= fun (xs189 : List Nat) => loopL (fun (s80 : Unit) (i83 : Nat) => ((((pure told14) >>= fun (x84 : D) => (pure (0 : Nat)) >>= fun (x85 : Nat) => dIx x84 x85) >>= fun (x86 : D) => ((pure ("none" : Str)) >>= fun x => pure ((fun (x : Str) => (enc x : D)) x)) >>= fun (x87 : D) => ofO (cEq x86 x87)) >>= fun (q88 : Bool) => (if q88 = true then ((((pure ("none" : Str)) >>= fun (x95 : Str) => (((pure ()) >>= fun (x91 : Unit) => ((pure told14) >>= fun (x89 : D) => (pure (1 : Nat)) >>= fun (x90 : Nat) => dIx x89 x90) >>= fun (x92 : D) => (m_law_bent_tree 12) x91 x92) >>= fun (x93 : D) => (pure ([] : List D)) >>= fun (l94 : List D) => pure (enc x93 :: l94)) >>= fun (l96 : List D) => pure (enc x95 :: l96)) >>= fun (x97 : (List D)) => pure (PyData.tuple x97)) >>= fun (other98 : D) => (pure other98)) else ((((pure told14) >>= fun (x99 : D) => (pure (1 : Nat)) >>= fun (x100 : Nat) => dIx x99 x100) >>= fun (x101 : D) => ofO (seqOf x101)) >>= fun (row102 : (List D)) => ((((((pure ()) >>= fun (x105 : Unit) => ((pure p4.a) >>= fun (x103 : Nat) => (pure (2 : Nat)) >>= fun (x104 : Nat) => pure (x103 + x104)) >>= fun (x106 : Nat) => (fun (_ : Unit) (n : Nat) => takeM n) x105 x106) >>= fun x => pure ((fun (x : Nat) => (x : Int)) x)) >>= fun (x107 : Int) => ((pure (1 : Nat)) >>= fun x => pure ((fun (x : Nat) => (x : Int)) x)) >>= fun (x108 : Int) => pure (x107 - x108)) >>= fun x => pure ((fun (x : Int) => (enc x : D)) x)) >>= fun (x112 : D) => ((pure ()) >>= fun (x110 : Unit) => ((pure row102) >>= fun (x109 : (List D)) => pure x109.length) >>= fun (x111 : Nat) => (fun (_ : Unit) (n : Nat) => takeM n) x110 x111) >>= fun (x113 : Nat) => setL row102 x113 x112 >>= fun (row114 : (List D)) => ((((((pure ("least" : Str)) >>= fun (x131 : Str) => ((pure row114) >>= fun (x129 : (List D)) => (pure ([] : List D)) >>= fun (l130 : List D) => pure (enc x129 :: l130)) >>= fun (l132 : List D) => pure (enc x131 :: l132)) >>= fun (x133 : (List D)) => pure (PyData.tuple x133)) >>= fun (x161 : D) => ((((pure ("least" : Str)) >>= fun (x136 : Str) => ((pure row114) >>= fun (x134 : (List D)) => (pure ([] : List D)) >>= fun (l135 : List D) => pure (enc x134 :: l135)) >>= fun (l137 : List D) => pure (enc x136 :: l137)) >>= fun (x138 : (List D)) => pure (PyData.tuple x138)) >>= fun (x159 : D) => ((((pure ("least" : Str)) >>= fun (x143 : Str) => (((pure row114) >>= fun (x139 : (List D)) => (pure (1 : Nat)) >>= fun (x140 : Nat) => pure (x139.drop x140)) >>= fun (x141 : (List D)) => (pure ([] : List D)) >>= fun (l142 : List D) => pure (enc x141 :: l142)) >>= fun (l144 : List D) => pure (enc x143 :: l144)) >>= fun (x145 : (List D)) => pure (PyData.tuple x145)) >>= fun (x157 : D) => ((((pure ("none" : Str)) >>= fun (x152 : Str) => (((pure ("stopped" : Str)) >>= fun (x148 : Str) => ((pure ()) >>= fun (x146 : Unit) => (pure (3 : Nat)) >>= fun (x147 : Nat) => (fun (_ : Unit) (n : Nat) => takeM n) x146 x147) >>= fun (x149 : Nat) => pure (x148, x149)) >>= fun (x150 : (Str × Nat)) => (pure ([] : List D)) >>= fun (l151 : List D) => pure (enc x150 :: l151)) >>= fun (l153 : List D) => pure (enc x152 :: l153)) >>= fun (x154 : (List D)) => pure (PyData.tuple x154)) >>= fun (x155 : D) => (pure ([] : List D)) >>= fun (l156 : List D) => pure (x155 :: l156)) >>= fun (l158 : List D) => pure (x157 :: l158)) >>= fun (l160 : List D) => pure (x159 :: l160)) >>= fun (l162 : List D) => pure (x161 :: l162)) >>= fun (x165 : (List D)) => ((pure ()) >>= fun (x163 : Unit) => (pure (4 : Nat)) >>= fun (x164 : Nat) => (fun (_ : Unit) (n : Nat) => takeM n) x163 x164) >>= fun (x166 : Nat) => atL x165 x166) >>= fun (other167 : D) => (pure other167))))) >>= fun (s168 : D) => ((((pure p4.a) >>= fun (x170 : Nat) => (pure p4.b) >>= fun (x171 : Nat) => (pure p4.c) >>= fun (x172 : (List ((Tu Nat) × (List (Tu Nat))))) => (pure s168) >>= fun (x173 : D) => m_settle_fault x170 x171 x172 x173) >>= fun (x179 : D) => ((pure p4.a) >>= fun (x174 : Nat) => (pure p4.b) >>= fun (x175 : Nat) => (pure p4.c) >>= fun (x176 : (List ((Tu Nat) × (List (Tu Nat))))) => (pure good10) >>= fun (x177 : (List (List Nat))) => (pure s168) >>= fun (x178 : D) => m_law_fault x174 x175 x176 x177 x178) >>= fun (x180 : D) => ofO ((cEq x179 x180).map (!·))) >>= fun (q181 : Bool) => if q181 = true then ((pure false) >>= fun (x182 : Bool) => pure (Fw.rt x182)) else (pure (Fw.nx ()))))) () xs189 >>= fun z190 => caseS z190 (fun (s183 : Unit) => (((((pure p4.c) >>= fun x => pure ((fun (x : (List ((Tu Nat) × (List (Tu Nat))))) => (enc x : D)) x)) >>= fun (x185 : D) => ofO (reprS x185)) >>= fun (x186 : Str) => (pure kept6) >>= fun (x187 : Str) => pure (decide (x186 = x187))) >>= fun (x188 : Bool) => pure x188)))))))))))
def depth : Nat := 17
theorem ok_law (N : Nat) (hN : 17 ≤ N) : SY (callF P N) ir_law (gaL N_law) KF m_law := by
  show SY (callF P N) ir_law [none, some (enc (() : Unit)), none, none, none, none, none, none, none, none, none] KF m_law
  exact (S_set (g := fun (p4 : (P3 Nat Nat (List ((Tu Nat) × (List (Tu Nat)))))) => ([none, some (enc (() : Unit)), some (enc (p4.a : Nat)), some (enc (p4.b : Nat)), some (enc (p4.c : (List ((Tu Nat) × (List (Tu Nat)))))), none, none, none, none, none, none] : En)) (E_call3 (ok_law_problem N (by omega)) (E_v rfl) (E_c rfl) (E_c rfl)) (fun _ => rfl) (fun p4 => (S_set (g := fun (kept6 : Str) => ([none, some (enc (() : Unit)), some (enc (p4.a : Nat)), some (enc (p4.b : Nat)), some (enc (p4.c : (List ((Tu Nat) × (List (Tu Nat)))))), some (enc (kept6 : Str)), none, none, none, none, none] : En)) (E_b1 o_repr (E_up (f := (fun (x : (List ((Tu Nat) × (List (Tu Nat))))) => (enc x : D))) (fun _ => rfl) (E_v rfl))) (fun _ => rfl) (fun kept6 => (S_set (g := fun (good10 : (List (List Nat))) => ([none, some (enc (() : Unit)), some (enc (p4.a : Nat)), some (enc (p4.b : Nat)), some (enc (p4.c : (List ((Tu Nat) × (List (Tu Nat)))))), some (enc (kept6 : Str)), some (enc (good10 : (List (List Nat)))), none, none, none, none] : En)) (E_call3 (ok_law_rows N (by omega)) (E_v rfl) (E_v rfl) (E_v rfl)) (fun _ => rfl) (fun good10 => (S_set (g := fun (told14 : D) => ([none, some (enc (() : Unit)), some (enc (p4.a : Nat)), some (enc (p4.b : Nat)), some (enc (p4.c : (List ((Tu Nat) × (List (Tu Nat)))))), some (enc (kept6 : Str)), some (enc (good10 : (List (List Nat)))), some (enc (told14 : D)), none, none, none] : En)) (E_call3 (ok_settle N (by omega)) (E_v rfl) (E_v rfl) (E_v rfl)) (fun _ => rfl) (fun told14 => (S_ifl (C_or (C_b (E_not (C_b (E_isi (E_v rfl))))) (C_or (C_b (E_cmp o_neD (E_ix o_atD (E_v rfl) (E_c rfl)) (E_up (f := (fun (x : Str) => (enc x : D))) (fun _ => rfl) (E_ite (C_b (E_cmp o_gtN (E_b1 o_lenL (E_v rfl)) (E_c rfl))) (E_c rfl) (E_c rfl))))) (C_b (E_cmp (o_ne (by decide)) (E_call3 (ok_all_values N (by omega)) (E_v rfl) (E_v rfl) (E_v rfl)) (E_v rfl))))) (S_ret (wrap := fun x => x) (E_c rfl) (fun x τ => (kX_rt (kF_rt x τ)))) (S_ifl (C_or (C_b (E_notND (E_call5 (ok_law_fault N (by omega)) (E_v rfl) (E_v rfl) (E_v rfl) (E_v rfl) (E_v rfl)))) (C_or (C_b (E_notND (E_call4 (ok_settle_fault N (by omega)) (E_v rfl) (E_v rfl) (E_v rfl) (E_v rfl)))) (C_b (E_cmp (o_ne (by decide)) (E_b1 o_repr (E_up (f := (fun (x : (List ((Tu Nat) × (List (Tu Nat))))) => (enc x : D))) (fun _ => rfl) (E_v rfl))) (E_v rfl))))) (S_ret (wrap := fun x => x) (E_c rfl) (fun x τ => (kX_rt (kF_rt x τ)))) (S_forL (env := (fun (s52 : Unit) (js : J) => ([none, some (enc (() : Unit)), some (enc (p4.a : Nat)), some (enc (p4.b : Nat)), some (enc (p4.c : (List ((Tu Nat) × (List (Tu Nat)))))), some (enc (kept6 : Str)), some (enc (good10 : (List (List Nat)))), some (enc (told14 : D)), js 8, none, none] : En))) (g := (fun (i56 : (List Nat)) (s52 : Unit) (js53 : J) => ([none, some (enc (() : Unit)), some (enc (p4.a : Nat)), some (enc (p4.b : Nat)), some (enc (p4.c : (List ((Tu Nat) × (List (Tu Nat)))))), some (enc (kept6 : Str)), some (enc (good10 : (List (List Nat)))), some (enc (told14 : D)), some (enc (i56 : (List Nat))), none, none] : En))) (W_L (E_slT o_slTL (E_v rfl) (E_c rfl))) rfl (fun _ _ => rfl) (fun _ _ _ => rfl) (fun i56 s52 js53 => (S_ifl (C_b (E_cmp o_neD (E_call4 (ok_settle_fault N (by omega)) (E_v rfl) (E_v rfl) (E_v rfl) (E_tupD (A_cons (E_c rfl) (A_cons (E_v rfl) A_nil)))) (E_up (f := (fun (x : (Option (Tu Str))) => (enc x : D))) (fun _ => rfl) (E_ite (C_b (E_cmp (o_eq (by decide)) (E_v rfl) (E_ix o_atL (E_v rfl) (E_c rfl)))) (E_up (f := (fun (_ : Unit) => (none : (Option (Tu Str))))) (fun _ => rfl) (E_c rfl)) (E_up (f := (fun (x : (Tu Str)) => some x)) (fun _ => rfl) (E_tu (Al_cons (E_c rfl) Al_nil))))))) (S_ret (wrap := fun x77 => (Fw.rt x77)) (E_c rfl) (fun x τ => (kX_rt (kL_rt (kF_rt x τ))))) (S_nil (fun τ => kL_nx rfl τ)))) (fun s78 js79 => (S_forL (env := (fun (s80 : Unit) (js : J) => ([none, some (enc (() : Unit)), some (enc (p4.a : Nat)), some (enc (p4.b : Nat)), some (enc (p4.c : (List ((Tu Nat) × (List (Tu Nat)))))), some (enc (kept6 : Str)), some (enc (good10 : (List (List Nat)))), some (enc (told14 : D)), js 8, js 9, js 10] : En))) (g := (fun (i83 : Nat) (s80 : Unit) (js81 : J) => ([none, some (enc (() : Unit)), some (enc (p4.a : Nat)), some (enc (p4.b : Nat)), some (enc (p4.c : (List ((Tu Nat) × (List (Tu Nat)))))), some (enc (kept6 : Str)), some (enc (good10 : (List (List Nat)))), some (enc (told14 : D)), js81 8, some (enc (i83 : Nat)), js81 10] : En))) (W_r1 (E_c rfl)) rfl (fun _ _ => rfl) (fun _ _ _ => rfl) (fun i83 s80 js81 => (S_ifj (env := (fun (s168 : D) (js : J) => ([none, some (enc (() : Unit)), some (enc (p4.a : Nat)), some (enc (p4.b : Nat)), some (enc (p4.c : (List ((Tu Nat) × (List (Tu Nat)))))), some (enc (kept6 : Str)), some (enc (good10 : (List (List Nat)))), some (enc (told14 : D)), js 8, some (enc (i83 : Nat)), some (enc (s168 : D))] : En))) (C_b (E_cmp o_eqD (E_ix o_atD (E_v rfl) (E_c rfl)) (E_up (f := (fun (x : Str) => (enc x : D))) (fun _ => rfl) (E_c rfl)))) (S_set (g := fun (other98 : D) => ([none, some (enc (() : Unit)), some (enc (p4.a : Nat)), some (enc (p4.b : Nat)), some (enc (p4.c : (List ((Tu Nat) × (List (Tu Nat)))))), some (enc (kept6 : Str)), some (enc (good10 : (List (List Nat)))), some (enc (told14 : D)), js81 8, some (enc (i83 : Nat)), some (enc (other98 : D))] : En)) (E_tupD (A_cons (E_c rfl) (A_cons (E_call2 (ok_law_bent_tree 12 N (by omega)) (E_v rfl) (E_ix o_atD (E_v rfl) (E_c rfl))) A_nil))) (fun _ => rfl) (fun other98 => (S_nil (fun τ => kJ_nx rfl τ)))) (S_own (g := fun (row102 : (List D)) => ([none, some (enc (() : Unit)), some (enc (p4.a : Nat)), some (enc (p4.b : Nat)), some (enc (p4.c : (List ((Tu Nat) × (List (Tu Nat)))))), some (enc (kept6 : Str)), some (enc (good10 : (List (List Nat)))), some (enc (told14 : D)), some (enc (row102 : (List D))), some (enc (i83 : Nat)), js81 10] : En)) (E_b1 o_lstD (E_ix o_atD (E_v rfl) (E_c rfl))) (fun _ => rfl) (fun row102 => (S_setix (g := fun (row114 : (List D)) => ([none, some (enc (() : Unit)), some (enc (p4.a : Nat)), some (enc (p4.b : Nat)), some (enc (p4.c : (List ((Tu Nat) × (List (Tu Nat)))))), some (enc (kept6 : Str)), some (enc (good10 : (List (List Nat)))), some (enc (told14 : D)), some (enc (row114 : (List D))), some (enc (i83 : Nat)), js81 10] : En)) (E_up (f := (fun (x : Int) => (enc x : D))) (fun _ => rfl) (E_bin o_subZ (E_up (f := (fun (x : Nat) => (x : Int))) (fun _ => rfl) (E_call2 (take_c N (by omega)) (E_v rfl) (E_bin o_addN (E_v rfl) (E_c rfl)))) (E_up (f := (fun (x : Nat) => (x : Int))) (fun _ => rfl) (E_c rfl)))) (E_call2 (take_c N (by omega)) (E_v rfl) (E_b1 o_lenL (E_v rfl))) rfl (fun _ => rfl) (fun row114 => (S_frz (S_set (g := fun (other167 : D) => ([none, some (enc (() : Unit)), some (enc (p4.a : Nat)), some (enc (p4.b : Nat)), some (enc (p4.c : (List ((Tu Nat) × (List (Tu Nat)))))), some (enc (kept6 : Str)), some (enc (good10 : (List (List Nat)))), some (enc (told14 : D)), some (enc (row114 : (List D))), some (enc (i83 : Nat)), some (enc (other167 : D))] : En)) (E_ix o_atL (E_lst (Al_cons (E_tupD (A_cons (E_c rfl) (A_cons (E_v rfl) A_nil))) (Al_cons (E_tupD (A_cons (E_c rfl) (A_cons (E_v rfl) A_nil))) (Al_cons (E_tupD (A_cons (E_c rfl) (A_cons (E_slF o_slFL (E_v rfl) (E_c rfl)) A_nil))) (Al_cons (E_tupD (A_cons (E_c rfl) (A_cons (E_p2 (E_c rfl) (E_call2 (take_c N (by omega)) (E_v rfl) (E_c rfl))) A_nil))) Al_nil))))) (E_call2 (take_c N (by omega)) (E_v rfl) (E_c rfl))) (fun _ => rfl) (fun other167 => (S_nil (fun τ => kJ_nx rfl τ))))))))) (fun s168 js169 => (S_ifl (C_b (E_cmp o_neD (E_call4 (ok_settle_fault N (by omega)) (E_v rfl) (E_v rfl) (E_v rfl) (E_v rfl)) (E_call5 (ok_law_fault N (by omega)) (E_v rfl) (E_v rfl) (E_v rfl) (E_v rfl) (E_v rfl)))) (S_ret (wrap := fun x182 => (Fw.rt x182)) (E_c rfl) (fun x τ => (kX_rt (kL_rt (kF_rt x τ))))) (S_nil (fun τ => kL_nx rfl τ)))))) (fun s183 js184 => (S_ret (wrap := fun x => x) (E_cmp (o_eq (by decide)) (E_b1 o_repr (E_up (f := (fun (x : (List ((Tu Nat) × (List (Tu Nat))))) => (enc x : D))) (fun _ => rfl) (E_v rfl))) (E_v rfl)) (fun x τ => (kF_rt x τ)))))))))))))))))
theorem plain_of (h : ∀ τ, TP τ → ∃ τ', m_law τ = some (true, τ')) : ∀ ns : List Int, ns.length ≤ 63 → ∃ τ', execSs (callF P (depth + 1)) ir_law (gaL N_law) (some (tape0 ns)) = some (.rt (.bool true) τ') := fun ns _ => by
  obtain ⟨τ', e⟩ := h _ (tape0_ok ns)
  obtain ⟨o, h1, h2⟩ := ok_law (depth + 1) (by unfold depth; omega) _ _ _ e
  rcases h2 with rfl | ⟨h2, _⟩
  · exact ⟨τ', h1⟩
  · exact (nomatch (show PyData.bool true = PyData.none from h2))
end K60
set_option maxRecDepth 100000
set_option maxHeartbeats 4000000
set_option linter.all false
set_option Elab.async false
namespace K60
open PySem Ev
open Ev.Enc (enc)
open Ev.Dec (dec)
abbrev Lim := Tu Nat × List (Tu Nat)
abbrev PF := Nat → Option Nat
def upd (f : PF) (a v : Nat) : PF := fun b => if b = a then some v else f b
def okv (o : Option Nat) (v : Nat) : Bool := match o with
  | some w => decide (w = v)
  | none => true
/-- may these values stand -/
def agR : List (Nat × Nat) → PF → Bool
  | [], _ => true
  | z :: r, f => okv (f z.1) z.2 && agR r (upd f z.1 z.2)
def rowF (row : List Nat) : PF := fun a => row[a]?
def can (row : List Nat) (l : Lim) : Bool := l.2.any fun one => agR (l.1.l.zip one.l) (rowF row)
/-! ### the program's reading -/
def gd (row : List Nat) : List (Nat × Nat) → PF → Bool
  | [], _ => true
  | z :: r, f => (decide ((f z.1).getD z.2 = z.2) && (decide (row.length ≤ z.1) || decide (row.getD z.1 0 = z.2))) && gd row r (upd f z.1 z.2)
def comb (row : List Nat) (f : PF) : PF := fun a => match f a with
  | some w => some w
  | none => row[a]?
theorem gd_ag (row : List Nat) : ∀ (zs : List (Nat × Nat)) (f : PF), (∀ a w, f a = some w → row[a]? = none ∨ row[a]? = some w) → gd row zs f = agR zs (comb row f)
  | [], _, _ => rfl
  | z :: r, f, h => by
    obtain ⟨a, v⟩ := z
    rw [gd, agR]
    have hd : (decide ((f a).getD v = v) && (decide (row.length ≤ a) || decide (row.getD a 0 = v))) = okv (comb row f a) v := by
      unfold comb
      cases hf : f a with
      | some w =>
        show (decide (w = v) && _) = decide (w = v)
        by_cases e : w = v
        · subst e
          rcases h a w hf with h1 | h1
          · rw [List.getElem?_eq_none_iff] at h1
            simp [h1]
          · have hl : a < row.length := (List.getElem?_eq_some_iff.mp h1).1
            simp [List.getD_eq_getElem?_getD, h1]
        · simp [e]
      | none =>
        show (decide (v = v) && _) = okv row[a]? v
        by_cases hl : row.length ≤ a
        · rw [List.getElem?_eq_none hl]; simp [hl, okv]
        · have hl2 : a < row.length := by omega
          rw [List.getElem?_eq_getElem hl2]
          simp [hl, okv, List.getD_eq_getElem?_getD, List.getElem?_eq_getElem hl2]
    show ((decide ((f a).getD v = v) && (decide (row.length ≤ a) || decide (row.getD a 0 = v))) && _) = (okv (comb row f a) v && _)
    rw [hd]
    by_cases hk : okv (comb row f a) v = true
    · rw [hk, Bool.true_and, Bool.true_and]
      have hk2 : row[a]? = none ∨ row[a]? = some v := by
        unfold comb at hk
        cases hf : f a with
        | some w =>
          rw [hf] at hk
          have : w = v := of_decide_eq_true hk
          subst this
          exact h a w hf
        | none =>
          rw [hf] at hk
          cases hr : row[a]? with
          | none => exact .inl rfl
          | some w =>
            rw [show (match (none : Option Nat) with | some w => some w | none => row[a]?) = row[a]? from rfl, hr] at hk
            have : w = v := of_decide_eq_true hk
            subst this
            exact .inr rfl
      rw [gd_ag row r (upd f a v) fun b w hb => by
        unfold upd at hb
        by_cases e : b = a
        · rw [if_pos e] at hb; cases hb; subst e; exact hk2
        · rw [if_neg e] at hb; exact h b w hb]
      congr 1
      funext b
      unfold comb upd
      by_cases e : b = a
      · simp [e]
      · simp [e]
    · rw [Bool.not_eq_true] at hk
      rw [hk]; rfl
theorem get_fun (m : Dm Nat Nat) (a v : Nat) : (m.put a v).get = upd m.get a v := by
  funext b
  rw [Dm.get_put]
  rfl
def goStep (row : List Nat) : Dm Nat Nat × Bool → Nat × Nat → M (Dm Nat Nat × Bool) := fun s z => (if s.2 = true then (if decide ((s.1.get z.1).getD z.2 = z.2) = true then (if decide (row.length ≤ z.1) = true then pure true else atL row z.1 >>= fun x => pure (decide (x = z.2))) else pure false) else pure false) >>= fun g => putM s.1 z.1 z.2 >>= fun v => pure (v, g)
theorem fold_gd (row : List Nat) : ∀ (zs : List (Nat × Nat)) (m : Dm Nat Nat) (g : Bool), m.l.length + zs.length ≤ 1000 → ∃ m', foldL (goStep row) (m, g) zs = pure (m', g && gd row zs m.get)
  | [], m, g, _ => ⟨m, by rw [foldL, gd, Bool.and_true]⟩
  | z :: r, m, g, hl => by
    rw [List.length_cons] at hl
    have hp := Dm.put_len m z.1 z.2
    obtain ⟨m', e⟩ := fold_gd row r (m.put z.1 z.2) (g && (decide ((m.get z.1).getD z.2 = z.2) && (decide (row.length ≤ z.1) || decide (row.getD z.1 0 = z.2)))) (by omega)
    refine ⟨m', ?_⟩
    have e1 : goStep row (m, g) z = pure (m.put z.1 z.2, (g && (decide ((m.get z.1).getD z.2 = z.2) && (decide (row.length ≤ z.1) || decide (row.getD z.1 0 = z.2))))) := by
      unfold goStep
      simp only [putM_ok (show m.l.length < 1000000 by omega), pb]
      cases g with
      | false => rfl
      | true =>
        by_cases h1 : (m.get z.1).getD z.2 = z.2
        · by_cases h2 : row.length ≤ z.1
          · simp [h1, h2]
          · simp only [h1, h2, decide_true, decide_false, if_true, Bool.false_eq_true, if_false, Bool.true_and, Bool.false_or]
            rw [atL_getD 0 (by omega)]; rfl
        · simp [h1]
    rw [foldL, e1, pb, e, gd, get_fun, Bool.and_assoc]
theorem can_ok {row : List Nat} {l : Lim} (hs : l.1.l.length ≤ 100) : m_can_go_on row l.1 l.2 = pure (can row l) := by
  simp only [m_can_go_on, pb, ba, filL_id, mapL_id, if_tt, if_ff, caseS_inl, caseS_inr, mapL_p, filL_p, flaL_p, foldL_p, dIx_t, dIx_l, atL_0, atL_s, cEq_ss, cEq_nn, seqOf_l, seqOf_t, lenD_l, lenD_t, enumD_l, decS, decN, decB, dec_D, dec_LD, dec_TD, ofO_some', enc_S, enc_N, enc_D, enc_B, enc_U, enc_LD, enc_none, enc_some, Option.map_some, Option.map_none, Option.isSome_some, Option.isSome_none, Option.isNone_some, Option.isNone_none, ofString_inj, String.reduceEq, decide_true, decide_false, Bool.not_true, Bool.not_false, List.map_id', filt_true, any_id, all_id, Bool.false_eq_true, if_true, if_false]
  rw [loopL_find (p := fun one : Tu Nat => agR (l.1.l.zip one.l) (rowF row)) (r := fun _ => true) (fun one _ => by
    obtain ⟨m', e⟩ := fold_gd row (l.1.l.zip one.l) ⟨[]⟩ true (by simp; omega)
    unfold goStep at e
    simp only [e, pb, Bool.true_and]
    rw [gd_ag row _ _ fun a w h => by cases h]
    have : comb row (Dm.get ⟨[]⟩) = rowF row := by funext a; rfl
    rw [this])]
  rw [pb]
  unfold can
  cases h : l.2.find? fun one => agR (l.1.l.zip one.l) (rowF row) with
  | none =>
    simp only [caseS_inl]
    congr 1
    symm
    rw [List.any_eq_false]
    exact List.find?_eq_none.mp h
  | some x =>
    simp only [caseS_inr]
    congr 1
    symm
    rw [List.any_eq_true]
    exact ⟨x, List.mem_of_find?_eq_some h, List.find?_some (p := fun one : Tu Nat => agR (l.1.l.zip one.l) (rowF row)) h⟩
/-! ### the law's reading -/
theorem loopL_congr {α σ ω : Type} {f g : σ → α → M (Fw σ ω)} : ∀ {xs : List α} {s : σ}, (∀ x ∈ xs, ∀ s, f s x = g s x) → loopL f s xs = loopL g s xs
  | [], _, _ => rfl
  | x :: xs, s, h => by
    rw [loopL, loopL, h x List.mem_cons_self s]
    congr 1
    funext z
    cases z with
    | nx s => exact loopL_congr fun y hy => h y (List.mem_cons_of_mem _ hy)
    | _ => rfl
def agStep (s : Dm Nat Nat) (z : Nat × Nat) : M (Fw (Dm Nat Nat) Bool) := if okv (s.get z.1) z.2 = true then putM s z.1 z.2 >>= fun t => pure (Fw.nx t) else pure (Fw.rt false)
theorem agStep_ok : ∀ (zs : List (Nat × Nat)) (m : Dm Nat Nat), m.l.length + zs.length ≤ 1000 → (loopL agStep m zs >>= fun z => caseS z fun _ => pure true) = pure (agR zs m.get)
  | [], m, _ => rfl
  | z :: r, m, h => by
    rw [List.length_cons] at h
    have hp := Dm.put_len m z.1 z.2
    rw [loopL, agR]
    unfold agStep
    by_cases hk : okv (m.get z.1) z.2 = true
    · rw [if_pos hk, putM_ok (by omega), pb, pb, hk, Bool.true_and, ← get_fun]
      exact agStep_ok r (m.put z.1 z.2) (by omega)
    · rw [if_neg hk]
      rw [Bool.not_eq_true] at hk
      rw [hk]; rfl
theorem zip_range {a b : List Nat} (h : a.length = b.length) : a.zip b = (List.range a.length).map fun i => (a.getD i 0, b.getD i 0) := by
  apply List.ext_getElem
  · simp [h]
  · intro i h1 h2
    have ha : i < a.length := by simpa using h2
    simp [List.getElem_zip, ha, show i < b.length by omega]
theorem lagrees_ok {a b : Tu Nat} {c : Dm Nat Nat} (h : b.l.length = a.l.length) (hl : a.l.length ≤ 100) (hc : c.l.length ≤ 100) : m_law_agrees a b c = pure (agR (a.l.zip b.l) c.get) := by
  simp only [m_law_agrees, pb, ba, filL_id, mapL_id, if_tt, if_ff, caseS_inl, caseS_inr, mapL_p, filL_p, flaL_p, foldL_p, dIx_t, dIx_l, atL_0, atL_s, cEq_ss, cEq_nn, seqOf_l, seqOf_t, lenD_l, lenD_t, enumD_l, decS, decN, decB, dec_D, dec_LD, dec_TD, ofO_some', enc_S, enc_N, enc_D, enc_B, enc_U, enc_LD, enc_none, enc_some, Option.map_some, Option.map_none, Option.isSome_some, Option.isSome_none, Option.isNone_some, Option.isNone_none, ofString_inj, String.reduceEq, decide_true, decide_false, Bool.not_true, Bool.not_false, List.map_id', filt_true, any_id, all_id, Bool.false_eq_true, if_true, if_false]
  rw [rangeM_ok (by omega), pb]
  rw [loopL_congr (g := fun s i => agStep s (a.l.getD i 0, b.l.getD i 0)) (fun i hi s => by
    have hi := List.mem_range.mp hi
    simp only [atL_getD 0 hi, atL_getD 0 (show i < b.l.length by omega), pb]
    unfold agStep
    cases hg : s.get (a.l.getD i 0) with
    | none => simp only [pb, ba, filL_id, mapL_id, if_tt, if_ff, caseS_inl, caseS_inr, mapL_p, filL_p, flaL_p, foldL_p, dIx_t, dIx_l, atL_0, atL_s, cEq_ss, cEq_nn, seqOf_l, seqOf_t, lenD_l, lenD_t, enumD_l, decS, decN, decB, dec_D, dec_LD, dec_TD, ofO_some', enc_S, enc_N, enc_D, enc_B, enc_U, enc_LD, enc_none, enc_some, Option.map_some, Option.map_none, Option.isSome_some, Option.isSome_none, Option.isNone_some, Option.isNone_none, ofString_inj, String.reduceEq, decide_true, decide_false, Bool.not_true, Bool.not_false, List.map_id', filt_true, any_id, all_id, Bool.false_eq_true, if_true, if_false, okv]
    | some w =>
      simp only [pb, ba, filL_id, mapL_id, if_tt, if_ff, caseS_inl, caseS_inr, mapL_p, filL_p, flaL_p, foldL_p, dIx_t, dIx_l, atL_0, atL_s, cEq_ss, cEq_nn, seqOf_l, seqOf_t, lenD_l, lenD_t, enumD_l, decS, decN, decB, dec_D, dec_LD, dec_TD, ofO_some', enc_S, enc_N, enc_D, enc_B, enc_U, enc_LD, enc_none, enc_some, Option.map_some, Option.map_none, Option.isSome_some, Option.isSome_none, Option.isNone_some, Option.isNone_none, ofString_inj, String.reduceEq, decide_true, decide_false, Bool.not_true, Bool.not_false, List.map_id', filt_true, any_id, all_id, Bool.false_eq_true, if_true, if_false, okv]
      by_cases e : w = b.l.getD i 0
      · simp only [e, pb, ba, filL_id, mapL_id, if_tt, if_ff, caseS_inl, caseS_inr, mapL_p, filL_p, flaL_p, foldL_p, dIx_t, dIx_l, atL_0, atL_s, cEq_ss, cEq_nn, seqOf_l, seqOf_t, lenD_l, lenD_t, enumD_l, decS, decN, decB, dec_D, dec_LD, dec_TD, ofO_some', enc_S, enc_N, enc_D, enc_B, enc_U, enc_LD, enc_none, enc_some, Option.map_some, Option.map_none, Option.isSome_some, Option.isSome_none, Option.isNone_some, Option.isNone_none, ofString_inj, String.reduceEq, decide_true, decide_false, Bool.not_true, Bool.not_false, List.map_id', filt_true, any_id, all_id, Bool.false_eq_true, if_true, if_false]
      · simp only [e, pb, ba, filL_id, mapL_id, if_tt, if_ff, caseS_inl, caseS_inr, mapL_p, filL_p, flaL_p, foldL_p, dIx_t, dIx_l, atL_0, atL_s, cEq_ss, cEq_nn, seqOf_l, seqOf_t, lenD_l, lenD_t, enumD_l, decS, decN, decB, dec_D, dec_LD, dec_TD, ofO_some', enc_S, enc_N, enc_D, enc_B, enc_U, enc_LD, enc_none, enc_some, Option.map_some, Option.map_none, Option.isSome_some, Option.isSome_none, Option.isNone_some, Option.isNone_none, ofString_inj, String.reduceEq, decide_true, decide_false, Bool.not_true, Bool.not_false, List.map_id', filt_true, any_id, all_id, Bool.false_eq_true, if_true, if_false])]
  rw [← loopL_mapc agStep (fun i => (a.l.getD i 0, b.l.getD i 0)), ← zip_range h.symm]
  exact agStep_ok _ _ (by simp; omega)
theorem foldL_app {α σ : Type} (f : σ → α → M σ) : ∀ (xs ys : List α) (s : σ), foldL f s (xs ++ ys) = (foldL f s xs >>= fun t => foldL f t ys)
  | [], _, _ => rfl
  | x :: xs, ys, s => by
    rw [List.cons_append, foldL, foldL, ba]
    congr 1
    funext z
    exact foldL_app f xs ys z
theorem foldL_congr {α σ : Type} {f g : σ → α → M σ} : ∀ {xs : List α} {s : σ}, (∀ x ∈ xs, ∀ s, f s x = g s x) → foldL f s xs = foldL g s xs
  | [], _, _ => rfl
  | x :: xs, s, h => by
    rw [foldL, foldL, h x List.mem_cons_self s]
    congr 1
    funext z
    exact foldL_congr fun y hy => h y (List.mem_cons_of_mem _ hy)
/-- the first values as a dict -/
theorem vals_ok (row : List Nat) (hl : row.length ≤ 100) : ∃ m : Dm Nat Nat, m.get = rowF row ∧ m.l.length ≤ 100 ∧ foldL (fun (s2 : Dm Nat Nat) (i6 : Nat) => atL row i6 >>= fun x9 => putM s2 i6 x9) ⟨[]⟩ (List.range row.length) = pure m := by
  have key : ∀ n, n ≤ row.length → ∃ m : Dm Nat Nat, (∀ a, m.get a = if a < n then row[a]? else none) ∧ m.l.length ≤ n ∧ foldL (fun (s2 : Dm Nat Nat) (i6 : Nat) => atL row i6 >>= fun x9 => putM s2 i6 x9) ⟨[]⟩ (List.range n) = pure m := by
    intro n
    induction n with
    | zero => intro _; exact ⟨⟨[]⟩, fun a => by simp, Nat.le_refl _, rfl⟩
    | succ n ih =>
      intro hn
      obtain ⟨m, h1, h2, h3⟩ := ih (by omega)
      refine ⟨m.put n (row.getD n 0), fun a => ?_, by have := Dm.put_len m n (row.getD n 0); omega, ?_⟩
      · rw [Dm.get_put, h1]
        by_cases e : a = n
        · subst e
          rw [if_pos rfl, if_pos (by omega), getD_of (by omega)]
        · rw [if_neg e]
          by_cases h : a < n
          · rw [if_pos h, if_pos (by omega)]
          · rw [if_neg h, if_neg (by omega)]
      · rw [List.range_succ, foldL_app, h3, pb, foldL, atL_getD 0 (by omega), pb, putM_ok (by omega), pb]; rfl
  obtain ⟨m, h1, h2, h3⟩ := key row.length (Nat.le_refl _)
  refine ⟨m, ?_, by omega, h3⟩
  funext a
  rw [h1]
  by_cases h : a < row.length
  · rw [if_pos h]; rfl
  · rw [if_neg h]
    show none = row[a]?
    rw [List.getElem?_eq_none (by omega)]
/-- a limit: its rows have its length -/
structure LOk (n m : Nat) (l : Lim) : Prop where
  sc : ∀ a ∈ l.1.l, a < m
  sl : l.1.l.length ≤ 3
  rl : ∀ r ∈ l.2, r.l.length = l.1.l.length
  rv : ∀ r ∈ l.2, ∀ a ∈ r.l, a < n
  rn : l.2.length ≤ 100
theorem open_ok {n m : Nat} {l : Lim} {row : List Nat} {c : Dm Nat Nat} (h : LOk n m l) (hc : c.get = rowF row) (hl : c.l.length ≤ 100) : m_law_open l c = pure (can row l) := by
  have hs := h.sl
  simp only [m_law_open, pb, ba, filL_id, mapL_id, if_tt, if_ff, caseS_inl, caseS_inr, mapL_p, filL_p, flaL_p, foldL_p, dIx_t, dIx_l, atL_0, atL_s, cEq_ss, cEq_nn, seqOf_l, seqOf_t, lenD_l, lenD_t, enumD_l, decS, decN, decB, dec_D, dec_LD, dec_TD, ofO_some', enc_S, enc_N, enc_D, enc_B, enc_U, enc_LD, enc_none, enc_some, Option.map_some, Option.map_none, Option.isSome_some, Option.isSome_none, Option.isNone_some, Option.isNone_none, ofString_inj, String.reduceEq, decide_true, decide_false, Bool.not_true, Bool.not_false, List.map_id', filt_true, any_id, all_id, Bool.false_eq_true, if_true, if_false]
  have e : filL (fun i2 => m_law_agrees l.1 i2 c) (fun i2 => (pure i2 : M (Tu Nat))) l.2 = pure (l.2.filter fun one : Tu Nat => agR (l.1.l.zip one.l) (rowF row)) := (filL_eq (g := id) (fun one ho => by rw [lagrees_ok (h.rl one ho) (by omega) hl, hc]) fun _ _ _ => rfl).trans (by rw [List.map_id])
  rw [e, pb]
  congr 1
  unfold can
  rw [Bool.eq_iff_iff, decide_eq_true_iff, List.length_pos_iff, List.any_eq_true]
  constructor
  · intro hne
    obtain ⟨x, hx⟩ := List.exists_mem_of_ne_nil _ hne
    exact ⟨x, (List.mem_filter.mp hx).1, (List.mem_filter.mp hx).2⟩
  · rintro ⟨x, hx, e⟩
    exact List.ne_nil_of_mem (List.mem_filter.mpr ⟨hx, e⟩)
/-! ### more values -/
def PF.le (f g : PF) : Prop := ∀ a w, f a = some w → g a = some w
theorem agR_mono : ∀ (zs : List (Nat × Nat)) {f g : PF}, f.le g → agR zs g = true → agR zs f = true
  | [], _, _, _, _ => rfl
  | z :: r, f, g, h, e => by
    rw [agR, Bool.and_eq_true] at e ⊢
    refine ⟨?_, agR_mono r (f := upd f z.1 z.2) (g := upd g z.1 z.2) (fun a w hw => ?_) e.2⟩
    · cases hf : f z.1 with
      | none => rfl
      | some w =>
        have h1 := e.1
        rw [h z.1 w hf] at h1
        exact h1
    · unfold upd at hw ⊢
      split at hw
      · rename_i e; rw [if_pos e]; exact hw
      · rename_i e; rw [if_neg e]; exact h a w hw
theorem rowF_le (row : List Nat) (v : Nat) : (rowF row).le (rowF (row ++ [v])) := fun a w h => by
  have hl := (List.getElem?_eq_some_iff.mp h).1
  show (row ++ [v])[a]? = some w
  rw [List.getElem?_append_left hl]; exact h
theorem can_mono {row : List Nat} {v : Nat} {l : Lim} (h : can (row ++ [v]) l = true) : can row l = true := by
  unfold can at h ⊢
  obtain ⟨one, h1, h2⟩ := List.any_eq_true.mp h
  exact List.any_eq_true.mpr ⟨one, h1, agR_mono _ (rowF_le row v) h2⟩
/-- all its variables have values -/
theorem agR_full {row : List Nat} : ∀ {sc r : List Nat} {f : PF}, r.length = sc.length → (∀ a ∈ sc, a < row.length) → f = rowF row → (agR (sc.zip r) f = true ↔ r = sc.map fun a => row.getD a 0)
  | [], [], _, _, _, _ => by simp [agR]
  | a :: sc, v :: r, f, h, hs, hf => by
    have ha := hs a List.mem_cons_self
    have ea : f a = some (row.getD a 0) := by rw [hf]; exact getD_of ha
    rw [List.zip_cons_cons, agR, List.map_cons, Bool.and_eq_true]
    show okv (f a) v = true ∧ _ ↔ _
    rw [ea]
    constructor
    · rintro ⟨h1, h2⟩
      have e : row.getD a 0 = v := of_decide_eq_true h1
      have hu : upd f a v = rowF row := by
        funext b
        unfold upd
        by_cases eb : b = a
        · rw [if_pos eb, eb, ← e, ← ea, hf]
        · rw [if_neg eb, hf]
      rw [(agR_full (by simpa using h) (fun b hb => hs b (List.mem_cons_of_mem _ hb)) hu).mp h2, e]
    · intro h1
      injection h1 with h1 h2
      have hu : upd f a v = rowF row := by
        funext b
        unfold upd
        by_cases eb : b = a
        · rw [if_pos eb, eb, h1, ← ea, hf]
        · rw [if_neg eb, hf]
      exact ⟨decide_eq_true h1.symm, (agR_full (by simpa using h) (fun b hb => hs b (List.mem_cons_of_mem _ hb)) hu).mpr h2⟩
/-- a limit is kept -/
def keep (row : List Nat) (l : Lim) : Bool := decide ((⟨l.1.l.map fun a => row.getD a 0⟩ : Tu Nat) ∈ l.2)
theorem can_full {n m : Nat} {l : Lim} {row : List Nat} (h : LOk n m l) (hr : row.length = m) : can row l = keep row l := by
  unfold can keep
  rw [Bool.eq_iff_iff, List.any_eq_true, decide_eq_true_iff]
  constructor
  · rintro ⟨one, h1, h2⟩
    have := (agR_full (h.rl one h1) (fun a ha => by rw [hr]; exact h.sc a ha) rfl).mp h2
    rw [← this]; exact h1
  · intro h1
    refine ⟨_, h1, (agR_full (h.rl _ h1) (fun a ha => by rw [hr]; exact h.sc a ha) rfl).mpr rfl⟩
theorem holds_ok {n m : Nat} {l : Lim} {row : List Nat} (h : LOk n m l) (hr : row.length = m) : m_holds_at row l.1 l.2 = pure (keep row l) := by
  simp only [m_holds_at, pb, ba, filL_id, mapL_id, if_tt, if_ff, caseS_inl, caseS_inr, mapL_p, filL_p, flaL_p, foldL_p, dIx_t, dIx_l, atL_0, atL_s, cEq_ss, cEq_nn, seqOf_l, seqOf_t, lenD_l, lenD_t, enumD_l, decS, decN, decB, dec_D, dec_LD, dec_TD, ofO_some', enc_S, enc_N, enc_D, enc_B, enc_U, enc_LD, enc_none, enc_some, Option.map_some, Option.map_none, Option.isSome_some, Option.isSome_none, Option.isNone_some, Option.isNone_none, ofString_inj, String.reduceEq, decide_true, decide_false, Bool.not_true, Bool.not_false, List.map_id', filt_true, any_id, all_id, Bool.false_eq_true, if_true, if_false]
  rw [mapL_eq (g := fun a => row.getD a 0) fun a ha => atL_getD 0 (by rw [hr]; exact h.sc a ha)]
  rfl
end K60
set_option maxRecDepth 100000
set_option maxHeartbeats 4000000
set_option linter.all false
set_option Elab.async false
namespace K60
open PySem Ev
open Ev.Enc (enc)
open Ev.Dec (dec)
/-- a problem -/
structure POk (n m : Nat) (L : List Lim) : Prop where
  n0 : 0 < n
  n3 : n ≤ 3
  m0 : 0 < m
  m5 : m ≤ 5
  ln : L.length ≤ 100
  ok : ∀ l ∈ L, LOk n m l
def stopR (L : List Lim) (row : List Nat) : Option Nat := (enumL L).findSome? fun p => if can row p.2 = true then none else some p.1
def ns (L : List Lim) (row : List Nat) : Bool := L.all fun l => can row l
theorem enumL_snd {α : Type} (L : List α) : (enumL L).map (·.2) = L := by
  unfold enumL
  rw [List.map_map]
  show L.zipIdx.map (fun p => p.1) = L
  rw [List.zipIdx_map_fst]
theorem stop_ns (L : List Lim) (row : List Nat) : (stopR L row).isNone = ns L row := by
  have key : ∀ E : List (Nat × Lim), (E.findSome? fun p => if can row p.2 = true then none else some p.1).isNone = (E.map (·.2)).all fun l => can row l := by
    intro E
    induction E with
    | nil => rfl
    | cons x E ih =>
      rw [List.findSome?_cons, List.map_cons, List.all_cons]
      cases h : can row x.2 with
      | true => simp only [if_true, Bool.true_and]; exact ih
      | false => rfl
  unfold stopR ns
  rw [key, enumL_snd]
theorem stop_some (L : List Lim) (row : List Nat) : (stopR L row).isSome = !ns L row := by
  rw [← stop_ns]
  cases stopR L row <;> rfl
section
variable {n m : Nat} {L : List Lim}
theorem enumL_mem {α : Type} {L : List α} {p : Nat × α} (h : p ∈ enumL L) : p.2 ∈ L := by
  rw [← enumL_snd L]; exact List.mem_map_of_mem h
theorem enumL_get {α : Type} {xs : List α} {p : Nat × α} (h : p ∈ enumL xs) : p.1 < xs.length ∧ xs[p.1]? = some p.2 := by
  unfold enumL at h
  obtain ⟨q, hq, rfl⟩ := List.mem_map.mp h
  have := List.mem_zipIdx hq
  simp at this
  exact ⟨by omega, by rw [List.getElem?_eq_getElem (by omega)]; simp [this]⟩
theorem loop_ok {α ω : Type} {f : Unit → α → M (Fw Unit ω)} {r : α → Option ω} {xs : List α} {k : Unit → M ω} (h : ∀ x ∈ xs, f () x = match r x with | some w => pure (.rt w) | none => pure (.nx ())) : (loopL f () xs >>= fun z => caseS z k) = match xs.findSome? r with | some w => pure w | none => k () := by
  rw [loopL_some h, pb]
  cases xs.findSome? r <;> rfl
theorem stopped_ok (g : POk n m L) (row : List Nat) : m_stopped L row = pure (stopR L row) := by
  simp only [m_stopped, pb, ba, filL_id, mapL_id, if_tt, if_ff, caseS_inl, caseS_inr, mapL_p, filL_p, flaL_p, foldL_p, dIx_t, dIx_l, atL_0, atL_s, cEq_ss, cEq_nn, seqOf_l, seqOf_t, lenD_l, lenD_t, enumD_l, decS, decN, decB, dec_D, dec_LD, dec_TD, ofO_some', enc_S, enc_N, enc_D, enc_B, enc_U, enc_LD, enc_none, enc_some, Option.map_some, Option.map_none, Option.isSome_some, Option.isSome_none, Option.isNone_some, Option.isNone_none, ofString_inj, String.reduceEq, decide_true, decide_false, Bool.not_true, Bool.not_false, List.map_id', filt_true, any_id, all_id, Bool.false_eq_true, if_true, if_false]
  rw [loop_ok (r := fun p : Nat × Lim => if can row p.2 = true then none else some (some p.1)) (fun p hp => by
    have := (g.ok p.2 (enumL_mem hp)).sl
    rw [can_ok (by omega), pb]
    cases can row p.2 <;> rfl)]
  unfold stopR
  generalize enumL L = E
  induction E with
  | nil => rfl
  | cons x E ih =>
    rw [List.findSome?_cons, List.findSome?_cons]
    cases can row x.2 with
    | true => exact ih
    | false => rfl
theorem ns_mono {row : List Nat} {v : Nat} (h : ns L (row ++ [v]) = true) : ns L row = true := by
  unfold ns at h ⊢
  rw [List.all_eq_true] at h ⊢
  exact fun l hl => can_mono (h l hl)
theorem ns_ext {row : List Nat} : ∀ {e : List Nat}, ns L (row ++ e) = true → ns L row = true := by
  intro e
  induction e generalizing row with
  | nil => rw [List.append_nil]; exact id
  | cons v e ih =>
    intro h
    exact ns_mono (v := v) (ih (row := row ++ [v]) (by rw [List.append_assoc]; exact h))
/-! ### all rows -/
theorem rows_cons (n : Nat) : ∀ k, rows n (k + 1) = (List.range n).flatMap fun v => (rows n k).map (v :: ·)
  | 0 => by simp [rows, List.map_eq_flatMap]
  | k + 1 => by
    conv => lhs; rw [rows, rows_cons n k, List.flatMap_assoc]
    congr 1
    funext v
    rw [List.flatMap_map]
    show _ = ((rows n k).flatMap fun r => (List.range n).map fun w => r ++ [w]).map (v :: ·)
    rw [List.map_flatMap]
    congr 1
    funext r
    rw [List.map_map]
    rfl
def leastR (n : Nat) (L : List Lim) : Nat → List Nat → Option (List Nat)
  | 0, row => if ns L row = true then some row else none
  | k + 1, row => if ns L row = true then (List.range n).findSome? fun v => leastR n L k (row ++ [v]) else none
theorem leastR_eq (n : Nat) (L : List Lim) : ∀ (k : Nat) (row : List Nat), leastR n L k row = ((rows n k).map (row ++ ·)).find? (ns L)
  | 0, row => by
    rw [leastR, rows, List.map_singleton, List.append_nil, List.find?_singleton]
  | k + 1, row => by
    rw [leastR, rows_cons, List.map_flatMap, List.find?_flatMap]
    by_cases h : ns L row = true
    · rw [if_pos h]
      congr 1
      funext v
      rw [leastR_eq n L k (row ++ [v]), List.map_map]
      congr 1
      apply List.map_congr_left
      intro r _
      show row ++ [v] ++ r = row ++ (v :: r)
      rw [List.append_assoc]; rfl
    · rw [if_neg h]
      symm
      rw [List.findSome?_eq_none_iff]
      intro v _
      rw [List.find?_eq_none]
      intro r hr
      obtain ⟨q, _, rfl⟩ := List.mem_map.mp hr
      exact fun e => h (ns_ext e)
theorem least_none_of {k : Nat} {row : List Nat} (h : leastR n L (k + 1) row = none) (hn : ns L row = true) {v : Nat} (hv : v < n) : leastR n L k (row ++ [v]) = none := by
  rw [leastR, if_pos hn, List.findSome?_eq_none_iff] at h
  exact h v (List.mem_range.mpr hv)
theorem least_ok (g : POk n m L) : ∀ (k rem : Nat) (row : List Nat), row.length + rem = m → rem < k → m_least_from k n m L row = pure (leastR n L rem row)
  | 0, _, _, _, h => absurd h (Nat.not_lt_zero _)
  | k + 1, 0, row, hl, _ => by
    simp only [m_least_from, pb, ba, filL_id, mapL_id, if_tt, if_ff, caseS_inl, caseS_inr, mapL_p, filL_p, flaL_p, foldL_p, dIx_t, dIx_l, atL_0, atL_s, cEq_ss, cEq_nn, seqOf_l, seqOf_t, lenD_l, lenD_t, enumD_l, decS, decN, decB, dec_D, dec_LD, dec_TD, ofO_some', enc_S, enc_N, enc_D, enc_B, enc_U, enc_LD, enc_none, enc_some, Option.map_some, Option.map_none, Option.isSome_some, Option.isSome_none, Option.isNone_some, Option.isNone_none, ofString_inj, String.reduceEq, decide_true, decide_false, Bool.not_true, Bool.not_false, List.map_id', filt_true, any_id, all_id, Bool.false_eq_true, if_true, if_false, stopped_ok g, stop_some, leastR]
    cases hn : ns L row with
    | false => simp only [pb, ba, filL_id, mapL_id, if_tt, if_ff, caseS_inl, caseS_inr, mapL_p, filL_p, flaL_p, foldL_p, dIx_t, dIx_l, atL_0, atL_s, cEq_ss, cEq_nn, seqOf_l, seqOf_t, lenD_l, lenD_t, enumD_l, decS, decN, decB, dec_D, dec_LD, dec_TD, ofO_some', enc_S, enc_N, enc_D, enc_B, enc_U, enc_LD, enc_none, enc_some, Option.map_some, Option.map_none, Option.isSome_some, Option.isSome_none, Option.isNone_some, Option.isNone_none, ofString_inj, String.reduceEq, decide_true, decide_false, Bool.not_true, Bool.not_false, List.map_id', filt_true, any_id, all_id, Bool.false_eq_true, if_true, if_false]
    | true => simp only [pb, ba, filL_id, mapL_id, if_tt, if_ff, caseS_inl, caseS_inr, mapL_p, filL_p, flaL_p, foldL_p, dIx_t, dIx_l, atL_0, atL_s, cEq_ss, cEq_nn, seqOf_l, seqOf_t, lenD_l, lenD_t, enumD_l, decS, decN, decB, dec_D, dec_LD, dec_TD, ofO_some', enc_S, enc_N, enc_D, enc_B, enc_U, enc_LD, enc_none, enc_some, Option.map_some, Option.map_none, Option.isSome_some, Option.isSome_none, Option.isNone_some, Option.isNone_none, ofString_inj, String.reduceEq, decide_true, decide_false, Bool.not_true, Bool.not_false, List.map_id', filt_true, any_id, all_id, Bool.false_eq_true, if_true, if_false, show row.length = m by omega]
  | k + 1, rem + 1, row, hl, hk => by
    have hm := g.m5
    simp only [m_least_from, pb, ba, filL_id, mapL_id, if_tt, if_ff, caseS_inl, caseS_inr, mapL_p, filL_p, flaL_p, foldL_p, dIx_t, dIx_l, atL_0, atL_s, cEq_ss, cEq_nn, seqOf_l, seqOf_t, lenD_l, lenD_t, enumD_l, decS, decN, decB, dec_D, dec_LD, dec_TD, ofO_some', enc_S, enc_N, enc_D, enc_B, enc_U, enc_LD, enc_none, enc_some, Option.map_some, Option.map_none, Option.isSome_some, Option.isSome_none, Option.isNone_some, Option.isNone_none, ofString_inj, String.reduceEq, decide_true, decide_false, Bool.not_true, Bool.not_false, List.map_id', filt_true, any_id, all_id, Bool.false_eq_true, if_true, if_false, stopped_ok g, stop_some, leastR]
    cases hn : ns L row with
    | false => simp only [pb, ba, filL_id, mapL_id, if_tt, if_ff, caseS_inl, caseS_inr, mapL_p, filL_p, flaL_p, foldL_p, dIx_t, dIx_l, atL_0, atL_s, cEq_ss, cEq_nn, seqOf_l, seqOf_t, lenD_l, lenD_t, enumD_l, decS, decN, decB, dec_D, dec_LD, dec_TD, ofO_some', enc_S, enc_N, enc_D, enc_B, enc_U, enc_LD, enc_none, enc_some, Option.map_some, Option.map_none, Option.isSome_some, Option.isSome_none, Option.isNone_some, Option.isNone_none, ofString_inj, String.reduceEq, decide_true, decide_false, Bool.not_true, Bool.not_false, List.map_id', filt_true, any_id, all_id, Bool.false_eq_true, if_true, if_false]
    | true =>
      simp only [pb, ba, filL_id, mapL_id, if_tt, if_ff, caseS_inl, caseS_inr, mapL_p, filL_p, flaL_p, foldL_p, dIx_t, dIx_l, atL_0, atL_s, cEq_ss, cEq_nn, seqOf_l, seqOf_t, lenD_l, lenD_t, enumD_l, decS, decN, decB, dec_D, dec_LD, dec_TD, ofO_some', enc_S, enc_N, enc_D, enc_B, enc_U, enc_LD, enc_none, enc_some, Option.map_some, Option.map_none, Option.isSome_some, Option.isSome_none, Option.isNone_some, Option.isNone_none, ofString_inj, String.reduceEq, decide_true, decide_false, Bool.not_true, Bool.not_false, List.map_id', filt_true, any_id, all_id, Bool.false_eq_true, if_true, if_false, show ¬ row.length = m by omega]
      rw [rangeM_ok (by have := g.n3; omega), pb]
      rw [loop_ok (r := fun v => (leastR n L rem (row ++ [v])).map some) (fun v _ => by
        rw [appL_ok (by simp; omega), pb, least_ok g k rem (row ++ [v]) (by simp; omega) (by omega), pb]
        cases leastR n L rem (row ++ [v]) <;> rfl)]
      generalize List.range n = R
      induction R with
      | nil => rfl
      | cons x R ih =>
        rw [List.findSome?_cons, List.findSome?_cons]
        cases leastR n L rem (row ++ [x]) with
        | none => exact ih
        | some y => rfl
/-! ### trees -/
inductive Tr
  | st (i : Int)
  | sp (ts : List Tr)
mutual
def encR : Tr → D
  | .st i => .tuple [.str "stopped", .int i]
  | .sp ts => .tuple [.str "split", .list (encRs ts)]
def encRs : List Tr → List D
  | [] => []
  | t :: ts => encR t :: encRs ts
end
theorem encRs_map : ∀ ts : List Tr, encRs ts = ts.map encR
  | [] => rfl
  | t :: ts => by rw [encRs, encRs_map ts]; rfl
def treeR (n : Nat) (L : List Lim) : Nat → List Nat → Tr
  | 0, row => .st ((stopR L row).getD 0 : Nat)
  | k + 1, row => if ns L row = true then .sp ((List.range n).map fun v => treeR n L k (row ++ [v])) else .st ((stopR L row).getD 0 : Nat)
theorem tree_ok (g : POk n m L) : ∀ (k rem : Nat) (row : List Nat), row.length + rem = m → rem < k → leastR n L rem row = none → m_tree_from k n m L row = pure (encR (treeR n L rem row))
  | 0, _, _, _, h, _ => absurd h (Nat.not_lt_zero _)
  | k + 1, 0, row, hl, _, hn => by
    have hn2 : ns L row = false := by
      rw [leastR] at hn
      split at hn
      · cases hn
      · rename_i h; rwa [Bool.not_eq_true] at h
    have hs := stop_some L row
    rw [hn2] at hs
    simp only [m_tree_from, pb, ba, filL_id, mapL_id, if_tt, if_ff, caseS_inl, caseS_inr, mapL_p, filL_p, flaL_p, foldL_p, dIx_t, dIx_l, atL_0, atL_s, cEq_ss, cEq_nn, seqOf_l, seqOf_t, lenD_l, lenD_t, enumD_l, decS, decN, decB, dec_D, dec_LD, dec_TD, ofO_some', enc_S, enc_N, enc_D, enc_B, enc_U, enc_LD, enc_none, enc_some, Option.map_some, Option.map_none, Option.isSome_some, Option.isSome_none, Option.isNone_some, Option.isNone_none, ofString_inj, String.reduceEq, decide_true, decide_false, Bool.not_true, Bool.not_false, List.map_id', filt_true, any_id, all_id, Bool.false_eq_true, if_true, if_false, stopped_ok g, hs, treeR, encR]
    cases h : stopR L row with
    | none => rw [h] at hs; cases hs
    | some i => rfl
  | k + 1, rem + 1, row, hl, hk, hn => by
    have hm := g.m5
    have hs := stop_some L row
    simp only [m_tree_from, pb, ba, filL_id, mapL_id, if_tt, if_ff, caseS_inl, caseS_inr, mapL_p, filL_p, flaL_p, foldL_p, dIx_t, dIx_l, atL_0, atL_s, cEq_ss, cEq_nn, seqOf_l, seqOf_t, lenD_l, lenD_t, enumD_l, decS, decN, decB, dec_D, dec_LD, dec_TD, ofO_some', enc_S, enc_N, enc_D, enc_B, enc_U, enc_LD, enc_none, enc_some, Option.map_some, Option.map_none, Option.isSome_some, Option.isSome_none, Option.isNone_some, Option.isNone_none, ofString_inj, String.reduceEq, decide_true, decide_false, Bool.not_true, Bool.not_false, List.map_id', filt_true, any_id, all_id, Bool.false_eq_true, if_true, if_false, stopped_ok g, treeR]
    cases hn2 : ns L row with
    | false =>
      rw [hn2] at hs
      simp only [hs, pb, ba, filL_id, mapL_id, if_tt, if_ff, caseS_inl, caseS_inr, mapL_p, filL_p, flaL_p, foldL_p, dIx_t, dIx_l, atL_0, atL_s, cEq_ss, cEq_nn, seqOf_l, seqOf_t, lenD_l, lenD_t, enumD_l, decS, decN, decB, dec_D, dec_LD, dec_TD, ofO_some', enc_S, enc_N, enc_D, enc_B, enc_U, enc_LD, enc_none, enc_some, Option.map_some, Option.map_none, Option.isSome_some, Option.isSome_none, Option.isNone_some, Option.isNone_none, ofString_inj, String.reduceEq, decide_true, decide_false, Bool.not_true, Bool.not_false, List.map_id', filt_true, any_id, all_id, Bool.false_eq_true, if_true, if_false, encR]
      cases h : stopR L row with
      | none => rw [h] at hs; cases hs
      | some i => rfl
    | true =>
      rw [hn2] at hs
      simp only [hs, pb, ba, filL_id, mapL_id, if_tt, if_ff, caseS_inl, caseS_inr, mapL_p, filL_p, flaL_p, foldL_p, dIx_t, dIx_l, atL_0, atL_s, cEq_ss, cEq_nn, seqOf_l, seqOf_t, lenD_l, lenD_t, enumD_l, decS, decN, decB, dec_D, dec_LD, dec_TD, ofO_some', enc_S, enc_N, enc_D, enc_B, enc_U, enc_LD, enc_none, enc_some, Option.map_some, Option.map_none, Option.isSome_some, Option.isSome_none, Option.isNone_some, Option.isNone_none, ofString_inj, String.reduceEq, decide_true, decide_false, Bool.not_true, Bool.not_false, List.map_id', filt_true, any_id, all_id, Bool.false_eq_true, if_true, if_false, encR]
      rw [rangeM_ok (by have := g.n3; omega), pb, mapL_eq (g := fun v => encR (treeR n L rem (row ++ [v]))) fun v hv => by
        rw [appL_ok (by simp; omega), pb]
        exact tree_ok g k rem (row ++ [v]) (by simp; omega) (by omega) (least_none_of hn hn2 (List.mem_range.mp hv))]
      rw [encRs_map, List.map_map]
      rfl
/-! ### all values -/
theorem fold_flat {α β : Type} {F : List β → α → M (List β)} {G : α → List β} (B : Nat) : ∀ (xs : List α) (acc : List β), acc.length + (xs.flatMap G).length ≤ B → (∀ x ∈ xs, ∀ acc : List β, acc.length + (G x).length ≤ B → F acc x = pure (acc ++ G x)) → foldL F acc xs = pure (acc ++ xs.flatMap G)
  | [], acc, _, _ => by rw [List.flatMap_nil, List.append_nil]; rfl
  | x :: xs, acc, h, hF => by
    rw [List.flatMap_cons, List.length_append] at h
    rw [foldL, hF x List.mem_cons_self acc (by omega), pb, fold_flat B xs (acc ++ G x) (by rw [List.length_append]; omega) (fun y hy => hF y (List.mem_cons_of_mem _ hy)), List.flatMap_cons, List.append_assoc]
theorem rows_small (g : POk n m L) {k : Nat} (hk : k ≤ m) : (rows n k).length ≤ 243 := by
  rw [rows_length]
  have h1 : n ^ k ≤ 3 ^ k := Nat.pow_le_pow_left g.n3 k
  have h2 : 3 ^ k ≤ 3 ^ 5 := Nat.pow_le_pow_right (by decide) (by have := g.m5; omega)
  have : 3 ^ 5 = 243 := rfl
  omega
theorem all_ok (g : POk n m L) : m_all_values n m L = pure ((rows n m).filter (ns L)) := by
  have hm := g.m5
  have h3 := g.n3
  simp only [m_all_values, pb, ba, filL_id, mapL_id, if_tt, if_ff, caseS_inl, caseS_inr, mapL_p, filL_p, flaL_p, foldL_p, dIx_t, dIx_l, atL_0, atL_s, cEq_ss, cEq_nn, seqOf_l, seqOf_t, lenD_l, lenD_t, enumD_l, decS, decN, decB, dec_D, dec_LD, dec_TD, ofO_some', enc_S, enc_N, enc_D, enc_B, enc_U, enc_LD, enc_none, enc_some, Option.map_some, Option.map_none, Option.isSome_some, Option.isSome_none, Option.isNone_some, Option.isNone_none, ofString_inj, String.reduceEq, decide_true, decide_false, Bool.not_true, Bool.not_false, List.map_id', filt_true, any_id, all_id, Bool.false_eq_true, if_true, if_false, bp, stopped_ok g]
  have e0 : (if (stopR L []).isNone = true then (pure [[]] : M (List (List Nat))) else pure []) = pure ((rows n 0).filter (ns L)) := by
    rw [stop_ns, rows]
    cases h : ns L [] <;> simp [h]
  rw [e0, pb, rangeM_ok (by omega), pb]
  rw [foldL_S (s := (rows n 0).filter (ns L)) (S := fun pre => (rows n pre.length).filter (ns L)) rfl fun pre x q e => ?_]
  · rw [List.length_range]
  · have hp : pre.length + 1 ≤ m := by
      have := congrArg List.length e
      rw [List.length_range, List.length_append, List.length_cons] at this
      omega
    have hr := rows_small g hp
    have e2 : ((rows n pre.length).filter (ns L)).flatMap (fun r => ((List.range n).filter fun v => ns L (r ++ [v])).map fun v => r ++ [v]) = (rows n (pre.length + 1)).filter (ns L) := by
      rw [rows, List.filter_flatMap]
      generalize rows n pre.length = R
      induction R with
      | nil => rfl
      | cons r R ih =>
        rw [List.filter_cons, List.flatMap_cons]
        have e3 : ((List.range n).map fun v => r ++ [v]).filter (ns L) = ((List.range n).filter fun v => ns L (r ++ [v])).map fun v => r ++ [v] := by
          rw [List.filter_map]; rfl
        by_cases h : ns L r = true
        · rw [if_pos h, List.flatMap_cons, ih, e3]
        · rw [if_neg h, ih, e3]
          have : (List.range n).filter (fun v => ns L (r ++ [v])) = [] := by
            rw [List.filter_eq_nil_iff]
            exact fun v _ hv => h (ns_mono hv)
          rw [this]; rfl
    rw [List.length_append, List.length_singleton, ← e2]
    have := fold_flat (B := 243) (F := fun (s13 : List (List Nat)) (i15 : List Nat) => (rangeM n >>= fun x => filL (fun i17 => appL i15 [i17] >>= fun x => m_stopped L x >>= fun x3 => pure x3.isNone) (fun i17 => appL i15 [i17]) x) >>= fun x30 => appL s13 x30) (G := fun r => ((List.range n).filter fun v => ns L (r ++ [v])).map fun v => r ++ [v]) ((rows n pre.length).filter (ns L)) [] (by rw [e2]; exact Nat.le_trans (Nat.le_trans (Nat.le_of_eq (by simp)) (List.length_filter_le (ns L) _)) hr) (fun r hr acc hacc => by
      have hl := (rows_mem.mp (List.mem_filter.mp hr).1).1
      rw [rangeM_ok (by omega), pb, filL_eq (p := fun v => ns L (r ++ [v])) (g := fun v => r ++ [v]) (fun v _ => by rw [appL_ok (by simp; omega), pb, stopped_ok g, pb, stop_ns]) (fun v _ _ => by rw [appL_ok (by simp; omega)]), pb, appL_ok (by omega)])
    rw [List.nil_append] at this
    simp only [stopped_ok g, pb, ba, filL_id, mapL_id, if_tt, if_ff, caseS_inl, caseS_inr, mapL_p, filL_p, flaL_p, foldL_p, dIx_t, dIx_l, atL_0, atL_s, cEq_ss, cEq_nn, seqOf_l, seqOf_t, lenD_l, lenD_t, enumD_l, decS, decN, decB, dec_D, dec_LD, dec_TD, ofO_some', enc_S, enc_N, enc_D, enc_B, enc_U, enc_LD, enc_none, enc_some, Option.map_some, Option.map_none, Option.isSome_some, Option.isSome_none, Option.isNone_some, Option.isNone_none, ofString_inj, String.reduceEq, decide_true, decide_false, Bool.not_true, Bool.not_false, List.map_id', filt_true, any_id, all_id, Bool.false_eq_true, if_true, if_false, bp] at this ⊢
    exact this
theorem lrows_ok (g : POk n m L) : m_law_rows n m L = pure ((rows n m).filter fun r => L.all fun l => keep r l) := by
  have hm := g.m5
  have h3 := g.n3
  simp only [m_law_rows, pb, ba, filL_id, mapL_id, if_tt, if_ff, caseS_inl, caseS_inr, mapL_p, filL_p, flaL_p, foldL_p, dIx_t, dIx_l, atL_0, atL_s, cEq_ss, cEq_nn, seqOf_l, seqOf_t, lenD_l, lenD_t, enumD_l, decS, decN, decB, dec_D, dec_LD, dec_TD, ofO_some', enc_S, enc_N, enc_D, enc_B, enc_U, enc_LD, enc_none, enc_some, Option.map_some, Option.map_none, Option.isSome_some, Option.isSome_none, Option.isNone_some, Option.isNone_none, ofString_inj, String.reduceEq, decide_true, decide_false, Bool.not_true, Bool.not_false, List.map_id', filt_true, any_id, all_id, Bool.false_eq_true, if_true, if_false, bp]
  rw [rangeM_ok (by omega), pb]
  rw [foldL_S (s := [[]]) (S := fun pre => rows n pre.length) rfl fun pre x q e => ?_]
  · rw [List.length_range, pb]
    refine (filL_eq (p := fun r => L.all fun l => keep r l) (g := id) (fun r hr => ?_) fun _ _ _ => rfl).trans (by rw [List.map_id])
    have hl := (rows_mem.mp hr).1
    have e1 : filL (fun (i30 : Lim) => mapL (fun i39 => atL r i39) i30.1.l >>= fun x => pure (!decide ((⟨x⟩ : Tu Nat) ∈ i30.2))) (fun _ => (pure 1 : M Nat)) L = pure ((L.filter fun l => !keep r l).map fun _ => 1) := filL_eq (fun l hl' => by
      have h := g.ok l hl'
      rw [mapL_eq (g := fun a => r.getD a 0) fun a ha => atL_getD 0 (by rw [hl]; exact h.sc a ha)]
      rfl) fun _ _ _ => rfl
    rw [e1, pb, List.length_map]
    congr 1
    rw [Bool.eq_iff_iff, decide_eq_true_iff, List.length_eq_zero_iff, List.filter_eq_nil_iff, List.all_eq_true]
    constructor
    · intro h l hl'
      have := h l hl'
      simpa using this
    · intro h l hl'
      simp [h l hl']
  · have hp : pre.length + 1 ≤ m := by
      have := congrArg List.length e
      rw [List.length_range, List.length_append, List.length_cons] at this
      omega
    have hr := rows_small g hp
    rw [List.length_append, List.length_singleton]
    have := fold_flat (B := 243) (F := fun (s13 : List (List Nat)) (i15 : List Nat) => (rangeM n >>= fun x => mapL (fun i17 => appL i15 [i17]) x) >>= fun x30 => appL s13 x30) (G := fun r => (List.range n).map fun v => r ++ [v]) (rows n pre.length) [] (by rw [← rows]; simpa using hr) (fun r hr acc hacc => by
      have hl := (rows_mem.mp hr).1
      rw [rangeM_ok (by omega), pb, mapL_eq (g := fun v => r ++ [v]) (fun v _ => by rw [appL_ok (by simp; omega)]), pb, appL_ok (by omega)])
    rw [List.nil_append, ← rows] at this
    simp only [pb, ba, filL_id, mapL_id, if_tt, if_ff, caseS_inl, caseS_inr, mapL_p, filL_p, flaL_p, foldL_p, dIx_t, dIx_l, atL_0, atL_s, cEq_ss, cEq_nn, seqOf_l, seqOf_t, lenD_l, lenD_t, enumD_l, decS, decN, decB, dec_D, dec_LD, dec_TD, ofO_some', enc_S, enc_N, enc_D, enc_B, enc_U, enc_LD, enc_none, enc_some, Option.map_some, Option.map_none, Option.isSome_some, Option.isSome_none, Option.isNone_some, Option.isNone_none, ofString_inj, String.reduceEq, decide_true, decide_false, Bool.not_true, Bool.not_false, List.map_id', filt_true, any_id, all_id, Bool.false_eq_true, if_true, if_false, bp] at this ⊢
    exact this
theorem good_eq (g : POk n m L) : ((rows n m).filter fun r => L.all fun l => keep r l) = (rows n m).filter (ns L) := by
  apply List.filter_congr
  intro r hr
  unfold ns
  rw [Bool.eq_iff_iff, List.all_eq_true, List.all_eq_true]
  have hl := (rows_mem.mp hr).1
  constructor
  · intro h l hl'
    rw [can_full (g.ok l hl') hl]; exact h l hl'
  · intro h l hl'
    rw [← can_full (g.ok l hl') hl]; exact h l hl'
def good (n m : Nat) (L : List Lim) : List (List Nat) := (rows n m).filter (ns L)
theorem least_head : leastR n L m [] = (good n m L).head? := by
  rw [leastR_eq]
  show ((rows n m).map fun r => r).find? (ns L) = _
  rw [List.map_id', good, List.head?_filter]
end
end K60
set_option maxRecDepth 100000
set_option maxHeartbeats 4000000
set_option linter.all false
set_option Elab.async false
namespace K60
open PySem Ev
open Ev.Enc (enc)
open Ev.Dec (dec)
/-! ### faults of trees -/
def stOk (L : List Lim) (row : List Nat) (i : Int) : Bool := match L[i.toNat]? with
  | some l => decide (0 ≤ i) && !can row l
  | none => false
def stF (L : List Lim) (row : List Nat) (i : Int) : Option (Str × List Nat) := if stOk L row i = true then none else some (("stopped" : Str), row)
def tfR (n : Nat) (L : List Lim) : Nat → List Nat → Tr → Option (Str × List Nat)
  | 0, row, .st i => stF L row i
  | 0, row, .sp _ => some (("split" : Str), row)
  | k + 1, row, .st i => stF L row i
  | k + 1, row, .sp ts => if ts.length = n then (enumL ts).findSome? fun p => tfR n L k (row ++ [p.1]) p.2 else some (("split" : Str), row)
theorem decZ (i : Int) : (dec (PyData.int i) : Option Int) = some i := rfl
theorem decI {i : Int} (h : 0 ≤ i) : (dec (PyData.int i) : Option Nat) = some i.toNat := by
  cases i with
  | ofNat n => rfl
  | negSucc n => omega
theorem enumL_map {α β : Type} (f : α → β) (xs : List α) : enumL (xs.map f) = (enumL xs).map fun p => (p.1, f p.2) := by
  unfold enumL
  rw [List.zipIdx_map, List.map_map, List.map_map]
  rfl
theorem enumL_range {α : Type} (xs : List α) (d : α) : enumL xs = (List.range xs.length).map fun i => (i, xs.getD i d) := by
  unfold enumL
  apply List.ext_getElem?
  intro i
  rw [List.getElem?_map, List.getElem?_map, List.getElem?_zipIdx]
  by_cases h : i < xs.length
  · rw [List.getElem?_range h, List.getElem?_eq_getElem h]; simp [List.getD_eq_getElem?_getD, h]
  · rw [List.getElem?_eq_none (by omega), List.getElem?_eq_none (by simp; omega)]; rfl
section
variable {n m : Nat} {L : List Lim}
theorem st_no {row : List Nat} {i : Int} (h : ¬ (0 ≤ i ∧ i < (L.length : Int))) : stF L row i = some (("stopped" : Str), row) := by
  unfold stF stOk
  cases h1 : L[i.toNat]? with
  | none => rfl
  | some l =>
    have := (List.getElem?_eq_some_iff.mp h1).1
    have h0 : ¬ 0 ≤ i := fun h0 => h ⟨h0, by omega⟩
    simp only [decide_eq_false h0, Bool.false_and, Bool.false_eq_true, if_false]
theorem st_yes {row : List Nat} {i : Int} (h0 : 0 ≤ i) (hl : i.toNat < L.length) : stF L row i = if (!can row L[i.toNat]) = true then none else some (("stopped" : Str), row) := by
  unfold stF stOk
  rw [List.getElem?_eq_getElem hl]
  simp only [decide_eq_true h0, Bool.true_and]
theorem tf_st (rem : Nat) (row : List Nat) (i : Int) : tfR n L rem row (.st i) = stF L row i := by cases rem <;> rfl
theorem loop_e {α ω : Type} {f : Unit → α → M (Fw Unit ω)} {r : α → Option ω} {xs : List α} {k : Unit → M ω} (h : ∀ x ∈ xs, f () x = match r x with | some w => pure (.rt w) | none => pure (.nx ())) : (loopL f () xs >>= fun z => caseS z k) = (xs.findSome? r).elim (k ()) pure := by
  rw [loopL_some h, pb]
  cases xs.findSome? r <;> rfl
theorem some_loop {α : Type} (f : α → Option (Str × List Nat)) : ∀ E : List α, ((E.findSome? fun x => (f x).map some).elim (pure none) pure : M (Option (Str × List Nat))) = pure (E.findSome? f)
  | [] => rfl
  | x :: E => by
    rw [List.findSome?_cons, List.findSome?_cons]
    cases f x with
    | some y => rfl
    | none => exact some_loop f E
theorem tf_ok (g : POk n m L) : ∀ (k rem : Nat) (row : List Nat) (t : Tr), row.length + rem = m → rem < k → m_tree_fault k n m L row (encR t) = pure (tfR n L rem row t)
  | 0, _, _, _, _, h => absurd h (Nat.not_lt_zero _)
  | k + 1, rem, row, .st i, hl, _ => by
    have hf : ∀ l ∈ L, m_can_go_on row l.1 l.2 = pure (can row l) := fun l hl => can_ok (by have := (g.ok l hl).sl; omega)
    rw [tf_st]
    simp only [m_tree_fault, pb, ba, filL_id, mapL_id, if_tt, if_ff, caseS_inl, caseS_inr, mapL_p, filL_p, flaL_p, foldL_p, dIx_t, dIx_l, atL_0, atL_s, cEq_ss, cEq_nn, seqOf_l, seqOf_t, lenD_l, lenD_t, enumD_l, decS, decN, decB, dec_D, dec_LD, dec_TD, ofO_some', enc_S, enc_N, enc_D, enc_B, enc_U, enc_LD, enc_none, enc_some, Option.map_some, Option.map_none, Option.isSome_some, Option.isSome_none, Option.isNone_some, Option.isNone_none, ofString_inj, String.reduceEq, decide_true, decide_false, Bool.not_true, Bool.not_false, List.map_id', filt_true, any_id, all_id, Bool.false_eq_true, if_true, if_false, encR, decZ]
    by_cases h0 : 0 ≤ i
    · by_cases h1 : i < (L.length : Int)
      · have hl : i.toNat < L.length := by omega
        simp only [decide_eq_true h0, decide_eq_true h1, pb, ba, filL_id, mapL_id, if_tt, if_ff, caseS_inl, caseS_inr, mapL_p, filL_p, flaL_p, foldL_p, dIx_t, dIx_l, atL_0, atL_s, cEq_ss, cEq_nn, seqOf_l, seqOf_t, lenD_l, lenD_t, enumD_l, decS, decN, decB, dec_D, dec_LD, dec_TD, ofO_some', enc_S, enc_N, enc_D, enc_B, enc_U, enc_LD, enc_none, enc_some, Option.map_some, Option.map_none, Option.isSome_some, Option.isSome_none, Option.isNone_some, Option.isNone_none, ofString_inj, String.reduceEq, decide_true, decide_false, Bool.not_true, Bool.not_false, List.map_id', filt_true, any_id, all_id, Bool.false_eq_true, if_true, if_false, decI h0, atL_get hl, hf _ (List.getElem_mem hl)]
        rw [st_yes h0 hl]
        cases can row L[i.toNat] <;> rfl
      · rw [st_no fun h => h1 h.2]
        simp only [decide_eq_true h0, decide_eq_false h1, pb, ba, filL_id, mapL_id, if_tt, if_ff, caseS_inl, caseS_inr, mapL_p, filL_p, flaL_p, foldL_p, dIx_t, dIx_l, atL_0, atL_s, cEq_ss, cEq_nn, seqOf_l, seqOf_t, lenD_l, lenD_t, enumD_l, decS, decN, decB, dec_D, dec_LD, dec_TD, ofO_some', enc_S, enc_N, enc_D, enc_B, enc_U, enc_LD, enc_none, enc_some, Option.map_some, Option.map_none, Option.isSome_some, Option.isSome_none, Option.isNone_some, Option.isNone_none, ofString_inj, String.reduceEq, decide_true, decide_false, Bool.not_true, Bool.not_false, List.map_id', filt_true, any_id, all_id, Bool.false_eq_true, if_true, if_false]
    · rw [st_no fun h => h0 h.1]
      simp only [decide_eq_false h0, pb, ba, filL_id, mapL_id, if_tt, if_ff, caseS_inl, caseS_inr, mapL_p, filL_p, flaL_p, foldL_p, dIx_t, dIx_l, atL_0, atL_s, cEq_ss, cEq_nn, seqOf_l, seqOf_t, lenD_l, lenD_t, enumD_l, decS, decN, decB, dec_D, dec_LD, dec_TD, ofO_some', enc_S, enc_N, enc_D, enc_B, enc_U, enc_LD, enc_none, enc_some, Option.map_some, Option.map_none, Option.isSome_some, Option.isSome_none, Option.isNone_some, Option.isNone_none, ofString_inj, String.reduceEq, decide_true, decide_false, Bool.not_true, Bool.not_false, List.map_id', filt_true, any_id, all_id, Bool.false_eq_true, if_true, if_false]
  | k + 1, 0, row, .sp ts, hl, hk => by
    simp only [m_tree_fault, pb, ba, filL_id, mapL_id, if_tt, if_ff, caseS_inl, caseS_inr, mapL_p, filL_p, flaL_p, foldL_p, dIx_t, dIx_l, atL_0, atL_s, cEq_ss, cEq_nn, seqOf_l, seqOf_t, lenD_l, lenD_t, enumD_l, decS, decN, decB, dec_D, dec_LD, dec_TD, ofO_some', enc_S, enc_N, enc_D, enc_B, enc_U, enc_LD, enc_none, enc_some, Option.map_some, Option.map_none, Option.isSome_some, Option.isSome_none, Option.isNone_some, Option.isNone_none, ofString_inj, String.reduceEq, decide_true, decide_false, Bool.not_true, Bool.not_false, List.map_id', filt_true, any_id, all_id, Bool.false_eq_true, if_true, if_false, encR, show row.length = m by omega]
    rfl
  | k + 1, rem + 1, row, .sp ts, hl, hk => by
    have hm := g.m5
    simp only [m_tree_fault, pb, ba, filL_id, mapL_id, if_tt, if_ff, caseS_inl, caseS_inr, mapL_p, filL_p, flaL_p, foldL_p, dIx_t, dIx_l, atL_0, atL_s, cEq_ss, cEq_nn, seqOf_l, seqOf_t, lenD_l, lenD_t, enumD_l, decS, decN, decB, dec_D, dec_LD, dec_TD, ofO_some', enc_S, enc_N, enc_D, enc_B, enc_U, enc_LD, enc_none, enc_some, Option.map_some, Option.map_none, Option.isSome_some, Option.isSome_none, Option.isNone_some, Option.isNone_none, ofString_inj, String.reduceEq, decide_true, decide_false, Bool.not_true, Bool.not_false, List.map_id', filt_true, any_id, all_id, Bool.false_eq_true, if_true, if_false, encR, show ¬ row.length = m by omega, encRs_map, List.length_map]
    rw [tfR]
    by_cases h : ts.length = n
    · rw [if_pos h]
      simp only [h, pb, ba, filL_id, mapL_id, if_tt, if_ff, caseS_inl, caseS_inr, mapL_p, filL_p, flaL_p, foldL_p, dIx_t, dIx_l, atL_0, atL_s, cEq_ss, cEq_nn, seqOf_l, seqOf_t, lenD_l, lenD_t, enumD_l, decS, decN, decB, dec_D, dec_LD, dec_TD, ofO_some', enc_S, enc_N, enc_D, enc_B, enc_U, enc_LD, enc_none, enc_some, Option.map_some, Option.map_none, Option.isSome_some, Option.isSome_none, Option.isNone_some, Option.isNone_none, ofString_inj, String.reduceEq, decide_true, decide_false, Bool.not_true, Bool.not_false, List.map_id', filt_true, any_id, all_id, Bool.false_eq_true, if_true, if_false, enumL_map, loopL_mapc]
      rw [loop_e (r := fun p : Nat × Tr => (tfR n L rem (row ++ [p.1]) p.2).map some) (fun p hp => by
        rw [appL_ok (by simp; omega), pb, tf_ok g k rem (row ++ [p.1]) p.2 (by simp; omega) (by omega), pb]
        cases tfR n L rem (row ++ [p.1]) p.2 <;> rfl)]
      exact some_loop _ _
    · rw [if_neg h]
      simp only [h, pb, ba, filL_id, mapL_id, if_tt, if_ff, caseS_inl, caseS_inr, mapL_p, filL_p, flaL_p, foldL_p, dIx_t, dIx_l, atL_0, atL_s, cEq_ss, cEq_nn, seqOf_l, seqOf_t, lenD_l, lenD_t, enumD_l, decS, decN, decB, dec_D, dec_LD, dec_TD, ofO_some', enc_S, enc_N, enc_D, enc_B, enc_U, enc_LD, enc_none, enc_some, Option.map_some, Option.map_none, Option.isSome_some, Option.isSome_none, Option.isNone_some, Option.isNone_none, ofString_inj, String.reduceEq, decide_true, decide_false, Bool.not_true, Bool.not_false, List.map_id', filt_true, any_id, all_id, Bool.false_eq_true, if_true, if_false]
theorem ltf_ok (g : POk n m L) : ∀ (k rem : Nat) (row : List Nat) (t : Tr), row.length + rem = m → rem < k → m_law_tree_fault k n m L row (encR t) = pure (tfR n L rem row t)
  | 0, _, _, _, _, h => absurd h (Nat.not_lt_zero _)
  | k + 1, rem, row, .st i, hl, _ => by
    have hm := g.m5
    obtain ⟨c, c1, c2, c3⟩ := vals_ok row (by omega)
    have hf : ∀ l ∈ L, m_law_open l c = pure (can row l) := fun l hl => open_ok (g.ok l hl) c1 c2
    rw [tf_st]
    simp only [m_law_tree_fault, pb, ba, filL_id, mapL_id, if_tt, if_ff, caseS_inl, caseS_inr, mapL_p, filL_p, flaL_p, foldL_p, dIx_t, dIx_l, atL_0, atL_s, cEq_ss, cEq_nn, seqOf_l, seqOf_t, lenD_l, lenD_t, enumD_l, decS, decN, decB, dec_D, dec_LD, dec_TD, ofO_some', enc_S, enc_N, enc_D, enc_B, enc_U, enc_LD, enc_none, enc_some, Option.map_some, Option.map_none, Option.isSome_some, Option.isSome_none, Option.isNone_some, Option.isNone_none, ofString_inj, String.reduceEq, decide_true, decide_false, Bool.not_true, Bool.not_false, List.map_id', filt_true, any_id, all_id, Bool.false_eq_true, if_true, if_false, bp, encR, decZ, rangeM_ok (show row.length ≤ 1000000 by omega), c3]
    by_cases h0 : 0 ≤ i
    · by_cases h1 : i < (L.length : Int)
      · have hl : i.toNat < L.length := by omega
        simp only [decide_eq_true h0, decide_eq_true h1, pb, ba, filL_id, mapL_id, if_tt, if_ff, caseS_inl, caseS_inr, mapL_p, filL_p, flaL_p, foldL_p, dIx_t, dIx_l, atL_0, atL_s, cEq_ss, cEq_nn, seqOf_l, seqOf_t, lenD_l, lenD_t, enumD_l, decS, decN, decB, dec_D, dec_LD, dec_TD, ofO_some', enc_S, enc_N, enc_D, enc_B, enc_U, enc_LD, enc_none, enc_some, Option.map_some, Option.map_none, Option.isSome_some, Option.isSome_none, Option.isNone_some, Option.isNone_none, ofString_inj, String.reduceEq, decide_true, decide_false, Bool.not_true, Bool.not_false, List.map_id', filt_true, any_id, all_id, Bool.false_eq_true, if_true, if_false, decI h0, atL_get hl, hf _ (List.getElem_mem hl)]
        rw [st_yes h0 hl]
        cases can row L[i.toNat] <;> rfl
      · rw [st_no fun h => h1 h.2]
        simp only [decide_eq_true h0, decide_eq_false h1, pb, ba, filL_id, mapL_id, if_tt, if_ff, caseS_inl, caseS_inr, mapL_p, filL_p, flaL_p, foldL_p, dIx_t, dIx_l, atL_0, atL_s, cEq_ss, cEq_nn, seqOf_l, seqOf_t, lenD_l, lenD_t, enumD_l, decS, decN, decB, dec_D, dec_LD, dec_TD, ofO_some', enc_S, enc_N, enc_D, enc_B, enc_U, enc_LD, enc_none, enc_some, Option.map_some, Option.map_none, Option.isSome_some, Option.isSome_none, Option.isNone_some, Option.isNone_none, ofString_inj, String.reduceEq, decide_true, decide_false, Bool.not_true, Bool.not_false, List.map_id', filt_true, any_id, all_id, Bool.false_eq_true, if_true, if_false]
    · rw [st_no fun h => h0 h.1]
      simp only [decide_eq_false h0, pb, ba, filL_id, mapL_id, if_tt, if_ff, caseS_inl, caseS_inr, mapL_p, filL_p, flaL_p, foldL_p, dIx_t, dIx_l, atL_0, atL_s, cEq_ss, cEq_nn, seqOf_l, seqOf_t, lenD_l, lenD_t, enumD_l, decS, decN, decB, dec_D, dec_LD, dec_TD, ofO_some', enc_S, enc_N, enc_D, enc_B, enc_U, enc_LD, enc_none, enc_some, Option.map_some, Option.map_none, Option.isSome_some, Option.isSome_none, Option.isNone_some, Option.isNone_none, ofString_inj, String.reduceEq, decide_true, decide_false, Bool.not_true, Bool.not_false, List.map_id', filt_true, any_id, all_id, Bool.false_eq_true, if_true, if_false]
  | k + 1, 0, row, .sp ts, hl, hk => by
    have hm := g.m5
    obtain ⟨c, c1, c2, c3⟩ := vals_ok row (by omega)
    simp only [m_law_tree_fault, pb, ba, filL_id, mapL_id, if_tt, if_ff, caseS_inl, caseS_inr, mapL_p, filL_p, flaL_p, foldL_p, dIx_t, dIx_l, atL_0, atL_s, cEq_ss, cEq_nn, seqOf_l, seqOf_t, lenD_l, lenD_t, enumD_l, decS, decN, decB, dec_D, dec_LD, dec_TD, ofO_some', enc_S, enc_N, enc_D, enc_B, enc_U, enc_LD, enc_none, enc_some, Option.map_some, Option.map_none, Option.isSome_some, Option.isSome_none, Option.isNone_some, Option.isNone_none, ofString_inj, String.reduceEq, decide_true, decide_false, Bool.not_true, Bool.not_false, List.map_id', filt_true, any_id, all_id, Bool.false_eq_true, if_true, if_false, bp, encR, rangeM_ok (show row.length ≤ 1000000 by omega), c3, decide_eq_true (show row.length = m by omega)]
    rfl
  | k + 1, rem + 1, row, .sp ts, hl, hk => by
    have hm := g.m5
    have h3 := g.n3
    obtain ⟨c, c1, c2, c3⟩ := vals_ok row (by omega)
    simp only [m_law_tree_fault, pb, ba, filL_id, mapL_id, if_tt, if_ff, caseS_inl, caseS_inr, mapL_p, filL_p, flaL_p, foldL_p, dIx_t, dIx_l, atL_0, atL_s, cEq_ss, cEq_nn, seqOf_l, seqOf_t, lenD_l, lenD_t, enumD_l, decS, decN, decB, dec_D, dec_LD, dec_TD, ofO_some', enc_S, enc_N, enc_D, enc_B, enc_U, enc_LD, enc_none, enc_some, Option.map_some, Option.map_none, Option.isSome_some, Option.isSome_none, Option.isNone_some, Option.isNone_none, ofString_inj, String.reduceEq, decide_true, decide_false, Bool.not_true, Bool.not_false, List.map_id', filt_true, any_id, all_id, Bool.false_eq_true, if_true, if_false, bp, encR, rangeM_ok (show row.length ≤ 1000000 by omega), c3, decide_eq_false (show ¬ row.length = m by omega), encRs_map, List.length_map]
    rw [tfR]
    by_cases h : ts.length = n
    · rw [if_pos h]
      simp only [h, pb, ba, filL_id, mapL_id, if_tt, if_ff, caseS_inl, caseS_inr, mapL_p, filL_p, flaL_p, foldL_p, dIx_t, dIx_l, atL_0, atL_s, cEq_ss, cEq_nn, seqOf_l, seqOf_t, lenD_l, lenD_t, enumD_l, decS, decN, decB, dec_D, dec_LD, dec_TD, ofO_some', enc_S, enc_N, enc_D, enc_B, enc_U, enc_LD, enc_none, enc_some, Option.map_some, Option.map_none, Option.isSome_some, Option.isSome_none, Option.isNone_some, Option.isNone_none, ofString_inj, String.reduceEq, decide_true, decide_false, Bool.not_true, Bool.not_false, List.map_id', filt_true, any_id, all_id, Bool.false_eq_true, if_true, if_false]
      rw [rangeM_ok (by omega), pb]
      rw [loop_e (r := fun i : Nat => (tfR n L rem (row ++ [i]) (ts.getD i (.st 0))).map some) (fun i hi => by
        have hi := List.mem_range.mp hi
        rw [appL_ok (by simp; omega), pb, atL_map, atL_getD (.st 0) (by omega), pb, pb, ltf_ok g k rem (row ++ [i]) _ (by simp; omega) (by omega), pb]
        cases tfR n L rem (row ++ [i]) (ts.getD i (.st 0)) <;> rfl)]
      rw [enumL_range ts (.st 0), List.findSome?_map, h]
      exact some_loop _ _
    · rw [if_neg h]
      simp only [h, pb, ba, filL_id, mapL_id, if_tt, if_ff, caseS_inl, caseS_inr, mapL_p, filL_p, flaL_p, foldL_p, dIx_t, dIx_l, atL_0, atL_s, cEq_ss, cEq_nn, seqOf_l, seqOf_t, lenD_l, lenD_t, enumD_l, decS, decN, decB, dec_D, dec_LD, dec_TD, ofO_some', enc_S, enc_N, enc_D, enc_B, enc_U, enc_LD, enc_none, enc_some, Option.map_some, Option.map_none, Option.isSome_some, Option.isSome_none, Option.isNone_some, Option.isNone_none, ofString_inj, String.reduceEq, decide_true, decide_false, Bool.not_true, Bool.not_false, List.map_id', filt_true, any_id, all_id, Bool.false_eq_true, if_true, if_false]
/-- the program's own tree has no fault -/
theorem tree_right (hg : ∀ l ∈ L, True) : ∀ (rem : Nat) (row : List Nat), leastR n L rem row = none → tfR n L rem row (treeR n L rem row) = none
  | rem, row, h => by
    have hst : ns L row = false → stF L row ((stopR L row).getD 0 : Nat) = none := fun hn => by
      have hs := stop_some L row
      rw [hn] at hs
      cases h1 : stopR L row with
      | none => rw [h1] at hs; cases hs
      | some i =>
        unfold stopR at h1
        obtain ⟨p, hp, e⟩ := List.exists_of_findSome?_eq_some h1
        cases hc : can row p.2 with
        | true => rw [hc] at e; cases e
        | false =>
          rw [hc] at e
          cases e
          obtain ⟨q1, q2⟩ := enumL_get hp
          show stF L row ((p.1 : Nat) : Int) = none
          rw [st_yes (by omega) (show ((p.1 : Nat) : Int).toNat < L.length by simpa using q1)]
          have : L[((p.1 : Nat) : Int).toNat]'(by simpa using q1) = p.2 := by
            have := (List.getElem?_eq_some_iff.mp q2).2
            simpa using this
          rw [this, hc]; rfl
    cases rem with
    | zero =>
      rw [treeR, tf_st]
      refine hst ?_
      rw [leastR] at h
      split at h
      · cases h
      · rename_i h2; rw [Bool.not_eq_true] at h2; exact h2
    | succ k =>
      rw [treeR]
      cases hn : ns L row with
      | false => rw [if_neg Bool.false_ne_true, tf_st]; exact hst hn
      | true =>
        rw [if_pos rfl, tfR, List.length_map, List.length_range, if_pos rfl, enumL_range _ (.st 0), List.length_map, List.length_range, List.findSome?_map, List.findSome?_eq_none_iff]
        intro v hv
        have hv := List.mem_range.mp hv
        show tfR n L k (row ++ [v]) (((List.range n).map fun v => treeR n L k (row ++ [v])).getD v (.st 0)) = none
        have : ((List.range n).map fun v => treeR n L k (row ++ [v])).getD v (.st 0) = treeR n L k (row ++ [v]) := by
          simp [hv]
        rw [this]
        exact tree_right hg k (row ++ [v]) (least_none_of h hn hv)
/-! ### bent trees -/
mutual
def wd (n : Nat) : Tr → Prop
  | .st _ => True
  | .sp ts => ts.length ≤ n ∧ wds n ts
def wds (n : Nat) : List Tr → Prop
  | [] => True
  | t :: ts => wd n t ∧ wds n ts
end
theorem wds_all {n : Nat} : ∀ {ts : List Tr}, wds n ts ↔ ∀ t ∈ ts, wd n t
  | [] => by simp [wds]
  | t :: ts => by simp [wds, wds_all (ts := ts)]
mutual
def hr : Tr → Nat
  | .st _ => 0
  | .sp ts => hrs ts + 1
def hrs : List Tr → Nat
  | [] => 0
  | t :: ts => max (hr t) (hrs ts)
end
theorem hrs_le {k : Nat} : ∀ {ts : List Tr}, hrs ts ≤ k ↔ ∀ t ∈ ts, hr t ≤ k
  | [] => by simp [hrs]
  | t :: ts => by simp only [hrs, List.mem_cons, forall_eq_or_imp, ← hrs_le (ts := ts)]; omega
theorem treeR_wd : ∀ (rem : Nat) (row : List Nat), wd n (treeR n L rem row) ∧ hr (treeR n L rem row) ≤ rem
  | 0, row => by simp [treeR, wd, hr]
  | k + 1, row => by
    rw [treeR]
    split
    · refine ⟨?_, ?_⟩
      · rw [wd, wds_all]
        refine ⟨by simp, fun t ht => ?_⟩
        obtain ⟨v, _, rfl⟩ := List.mem_map.mp ht
        exact (treeR_wd k _).1
      · rw [hr]
        have : hrs ((List.range n).map fun v => treeR n L k (row ++ [v])) ≤ k := hrs_le.mpr fun t ht => by
          obtain ⟨v, _, rfl⟩ := List.mem_map.mp ht
          exact (treeR_wd k _).2
        omega
    · simp [wd, hr]
theorem bent_ok (hn : n ≤ 3) : ∀ (k : Nat) (t : Tr), hr t < k → wd n t → WP (m_law_bent_tree k () (encR t)) (fun d => ∃ t', d = encR t')
  | 0, _, h, _ => absurd h (Nat.not_lt_zero _)
  | k + 1, t, hk, hw => by
    have rest : WP (takeM 7 >>= fun x => takeM 3 >>= fun x_1 => atL [PyData.tuple [PyData.str (Str.ofString "stopped"), enc ((x : Int) - ((1 : Nat) : Int))], PyData.tuple [PyData.str (Str.ofString "split"), PyData.list []], PyData.tuple [PyData.str (Str.ofString "split"), PyData.list [encR t, encR t]]] x_1) (fun d => ∃ t', d = encR t') := by
      refine wp_takeK (by decide) (by decide) fun x _ => wp_takeK (by decide) (by decide) fun y hy => ?_
      match y, hy with
      | 0, _ => exact wp_eq (atL_0 _ _) ⟨.st ((x : Int) - ((1 : Nat) : Int)), rfl⟩
      | 1, _ => exact wp_eq rfl ⟨.sp [], rfl⟩
      | 2, _ => exact wp_eq rfl ⟨.sp [t, t], rfl⟩
    simp only [m_law_bent_tree, pb, ba, filL_id, mapL_id, if_tt, if_ff, caseS_inl, caseS_inr, mapL_p, filL_p, flaL_p, foldL_p, dIx_t, dIx_l, atL_0, atL_s, cEq_ss, cEq_nn, seqOf_l, seqOf_t, lenD_l, lenD_t, enumD_l, decS, decN, decB, dec_D, dec_LD, dec_TD, ofO_some', enc_S, enc_N, enc_D, enc_B, enc_U, enc_LD, enc_none, enc_some, Option.map_some, Option.map_none, Option.isSome_some, Option.isSome_none, Option.isNone_some, Option.isNone_none, ofString_inj, String.reduceEq, decide_true, decide_false, Bool.not_true, Bool.not_false, List.map_id', filt_true, any_id, all_id, Bool.false_eq_true, if_true, if_false, bp]
    cases t with
    | st i =>
      simp only [encR, pb, ba, filL_id, mapL_id, if_tt, if_ff, caseS_inl, caseS_inr, mapL_p, filL_p, flaL_p, foldL_p, dIx_t, dIx_l, atL_0, atL_s, cEq_ss, cEq_nn, seqOf_l, seqOf_t, lenD_l, lenD_t, enumD_l, decS, decN, decB, dec_D, dec_LD, dec_TD, ofO_some', enc_S, enc_N, enc_D, enc_B, enc_U, enc_LD, enc_none, enc_some, Option.map_some, Option.map_none, Option.isSome_some, Option.isSome_none, Option.isNone_some, Option.isNone_none, ofString_inj, String.reduceEq, decide_true, decide_false, Bool.not_true, Bool.not_false, List.map_id', filt_true, any_id, all_id, Bool.false_eq_true, if_true, if_false] at rest ⊢
      exact rest
    | sp ts =>
      simp only [encR, pb, ba, filL_id, mapL_id, if_tt, if_ff, caseS_inl, caseS_inr, mapL_p, filL_p, flaL_p, foldL_p, dIx_t, dIx_l, atL_0, atL_s, cEq_ss, cEq_nn, seqOf_l, seqOf_t, lenD_l, lenD_t, enumD_l, decS, decN, decB, dec_D, dec_LD, dec_TD, ofO_some', enc_S, enc_N, enc_D, enc_B, enc_U, enc_LD, enc_none, enc_some, Option.map_some, Option.map_none, Option.isSome_some, Option.isSome_none, Option.isNone_some, Option.isNone_none, ofString_inj, String.reduceEq, decide_true, decide_false, Bool.not_true, Bool.not_false, List.map_id', filt_true, any_id, all_id, Bool.false_eq_true, if_true, if_false, encRs_map, List.length_map] at rest ⊢
      rw [hr] at hk
      rw [wd, wds_all] at hw
      by_cases h0 : 0 < ts.length
      · simp only [decide_eq_true h0, pb, ba, filL_id, mapL_id, if_tt, if_ff, caseS_inl, caseS_inr, mapL_p, filL_p, flaL_p, foldL_p, dIx_t, dIx_l, atL_0, atL_s, cEq_ss, cEq_nn, seqOf_l, seqOf_t, lenD_l, lenD_t, enumD_l, decS, decN, decB, dec_D, dec_LD, dec_TD, ofO_some', enc_S, enc_N, enc_D, enc_B, enc_U, enc_LD, enc_none, enc_some, Option.map_some, Option.map_none, Option.isSome_some, Option.isSome_none, Option.isNone_some, Option.isNone_none, ofString_inj, String.reduceEq, decide_true, decide_false, Bool.not_true, Bool.not_false, List.map_id', filt_true, any_id, all_id, Bool.false_eq_true, if_true, if_false]
        refine wp_takeK (by decide) (by decide) fun x _ => ?_
        by_cases hx : 0 < x
        · simp only [decide_eq_true hx, pb, ba, filL_id, mapL_id, if_tt, if_ff, caseS_inl, caseS_inr, mapL_p, filL_p, flaL_p, foldL_p, dIx_t, dIx_l, atL_0, atL_s, cEq_ss, cEq_nn, seqOf_l, seqOf_t, lenD_l, lenD_t, enumD_l, decS, decN, decB, dec_D, dec_LD, dec_TD, ofO_some', enc_S, enc_N, enc_D, enc_B, enc_U, enc_LD, enc_none, enc_some, Option.map_some, Option.map_none, Option.isSome_some, Option.isSome_none, Option.isNone_some, Option.isNone_none, ofString_inj, String.reduceEq, decide_true, decide_false, Bool.not_true, Bool.not_false, List.map_id', filt_true, any_id, all_id, Bool.false_eq_true, if_true, if_false]
          refine wp_takeK h0 (by omega) fun a ha => ?_
          simp only [atL_map, atL_get ha, pb, ba, filL_id, mapL_id, if_tt, if_ff, caseS_inl, caseS_inr, mapL_p, filL_p, flaL_p, foldL_p, dIx_t, dIx_l, atL_0, atL_s, cEq_ss, cEq_nn, seqOf_l, seqOf_t, lenD_l, lenD_t, enumD_l, decS, decN, decB, dec_D, dec_LD, dec_TD, ofO_some', enc_S, enc_N, enc_D, enc_B, enc_U, enc_LD, enc_none, enc_some, Option.map_some, Option.map_none, Option.isSome_some, Option.isSome_none, Option.isNone_some, Option.isNone_none, ofString_inj, String.reduceEq, decide_true, decide_false, Bool.not_true, Bool.not_false, List.map_id', filt_true, any_id, all_id, Bool.false_eq_true, if_true, if_false]
          refine wp_bind (bent_ok hn k ts[a] (by have := hrs_le.mp (Nat.le_refl (hrs ts)) _ (List.getElem_mem ha); omega) (hw.2 _ (List.getElem_mem ha))) fun d hd => ?_
          obtain ⟨t', rfl⟩ := hd
          rw [appL_ok (by simp; omega), pb, appL_ok (by simp; omega), pb]
          refine wp_pure ⟨.sp (ts.take a ++ [t'] ++ ts.drop (a + 1)), ?_⟩
          simp [encR, encRs_map, List.map_append, List.map_take, List.map_drop]
        · simp only [decide_eq_false hx, pb, ba, filL_id, mapL_id, if_tt, if_ff, caseS_inl, caseS_inr, mapL_p, filL_p, flaL_p, foldL_p, dIx_t, dIx_l, atL_0, atL_s, cEq_ss, cEq_nn, seqOf_l, seqOf_t, lenD_l, lenD_t, enumD_l, decS, decN, decB, dec_D, dec_LD, dec_TD, ofO_some', enc_S, enc_N, enc_D, enc_B, enc_U, enc_LD, enc_none, enc_some, Option.map_some, Option.map_none, Option.isSome_some, Option.isSome_none, Option.isNone_some, Option.isNone_none, ofString_inj, String.reduceEq, decide_true, decide_false, Bool.not_true, Bool.not_false, List.map_id', filt_true, any_id, all_id, Bool.false_eq_true, if_true, if_false]
          exact rest
      · simp only [decide_eq_false h0, pb, ba, filL_id, mapL_id, if_tt, if_ff, caseS_inl, caseS_inr, mapL_p, filL_p, flaL_p, foldL_p, dIx_t, dIx_l, atL_0, atL_s, cEq_ss, cEq_nn, seqOf_l, seqOf_t, lenD_l, lenD_t, enumD_l, decS, decN, decB, dec_D, dec_LD, dec_TD, ofO_some', enc_S, enc_N, enc_D, enc_B, enc_U, enc_LD, enc_none, enc_some, Option.map_some, Option.map_none, Option.isSome_some, Option.isSome_none, Option.isNone_some, Option.isNone_none, ofString_inj, String.reduceEq, decide_true, decide_false, Bool.not_true, Bool.not_false, List.map_id', filt_true, any_id, all_id, Bool.false_eq_true, if_true, if_false]
        exact rest
end
end K60
set_option maxRecDepth 100000
set_option maxHeartbeats 4000000
set_option linter.all false
set_option Elab.async false
namespace K60
open PySem Ev
open Ev.Enc (enc)
open Ev.Dec (dec)
/-! ### what is told, and faults -/
inductive Td
  | no (t : Tr)
  | le (row : List Int)
def encTd : Td → D
  | .no t => .tuple [.str "none", encR t]
  | .le row => .tuple [.str "least", .list (row.map .int)]
inductive Ft
  | no
  | rw (s : Str) (row : List Nat)
  | wd (s : Str)
  | lm (s : Str) (i : Nat)
def encF : Ft → D
  | .no => .none
  | .rw s row => .tuple [.str s, .list (row.map nI)]
  | .wd s => .tuple [.str s]
  | .lm s i => .tuple [.str s, nI i]
theorem cEq_F (a : Ft) : cEq (encF a) (encF a) = some true := by
  cases a with
  | no => rfl
  | rw s row => exact (cEq_enc (α := Str × List Nat) (by decide) (s, row) (s, row)).trans (by simp)
  | wd s => exact (cEq_enc (α := Tu Str) (by decide) ⟨[s]⟩ ⟨[s]⟩).trans (by simp)
  | lm s i => exact (cEq_enc (α := Str × Nat) (by decide) (s, i) (s, i)).trans (by simp)
def ofT : Option (Str × List Nat) → Ft
  | none => .no
  | some p => .rw p.1 p.2
theorem enc_T2 (o : Option (Str × List Nat)) : enc o = encF (ofT o) := by cases o <;> rfl
def inR (n : Nat) (x : Int) : Bool := decide (0 ≤ x) && decide (x < (n : Int))
def nats (row : List Int) : List Nat := row.map Int.toNat
theorem nats_back {n : Nat} {row : List Int} (h : row.all (inR n) = true) : row = (nats row).map fun (k : Nat) => (k : Int) := by
  rw [List.all_eq_true] at h
  unfold nats
  rw [List.map_map]
  conv => lhs; rw [← List.map_id row]
  apply List.map_congr_left
  intro x hx
  have := h x hx
  unfold inR at this
  simp only [Bool.and_eq_true, decide_eq_true_eq] at this
  show x = ((x.toNat : Nat) : Int)
  omega
theorem nats_lt {n : Nat} {row : List Int} (h : row.all (inR n) = true) : ∀ a ∈ nats row, a < n := fun a ha => by
  obtain ⟨x, hx, rfl⟩ := List.mem_map.mp ha
  have := List.all_eq_true.mp h x hx
  unfold inR at this
  simp only [Bool.and_eq_true, decide_eq_true_eq] at this
  omega
def leF (n m : Nat) (L : List Lim) (row : List Int) : Ft :=
  if row.length = m then (if row.all (inR n) = true then
    ((enumL L).findSome? fun p => if keep (nats row) p.2 = true then none else some (Ft.lm "limit" p.1)).getD (if (good n m L).head? = some (nats row) then .no else .wd "least")
  else .wd "values") else .wd "values"
def fR (n m : Nat) (L : List Lim) : Td → Ft
  | .no t => ofT (tfR n L m [] t)
  | .le row => leF n m L row
section
variable {n m : Nat} {L : List Lim}
theorem settle_ok (g : POk n m L) : m_settle n m L = pure (encTd (match (good n m L).head? with | some r => .le (r.map fun (k : Nat) => (k : Int)) | none => .no (treeR n L m []))) := by
  have hm := g.m5
  simp only [m_settle, pb, ba, filL_id, mapL_id, if_tt, if_ff, caseS_inl, caseS_inr, mapL_p, filL_p, flaL_p, foldL_p, dIx_t, dIx_l, atL_0, atL_s, cEq_ss, cEq_nn, seqOf_l, seqOf_t, lenD_l, lenD_t, enumD_l, decS, decN, decB, dec_D, dec_LD, dec_TD, ofO_some', enc_S, enc_N, enc_D, enc_B, enc_U, enc_LD, enc_none, enc_some, Option.map_some, Option.map_none, Option.isSome_some, Option.isSome_none, Option.isNone_some, Option.isNone_none, ofString_inj, String.reduceEq, decide_true, decide_false, Bool.not_true, Bool.not_false, List.map_id', filt_true, any_id, all_id, Bool.false_eq_true, if_true, if_false, bp, least_ok g 12 m [] (by simp) (by omega), least_head]
  cases h : (good n m L).head? with
  | none =>
    simp only [pb, ba, filL_id, mapL_id, if_tt, if_ff, caseS_inl, caseS_inr, mapL_p, filL_p, flaL_p, foldL_p, dIx_t, dIx_l, atL_0, atL_s, cEq_ss, cEq_nn, seqOf_l, seqOf_t, lenD_l, lenD_t, enumD_l, decS, decN, decB, dec_D, dec_LD, dec_TD, ofO_some', enc_S, enc_N, enc_D, enc_B, enc_U, enc_LD, enc_none, enc_some, Option.map_some, Option.map_none, Option.isSome_some, Option.isSome_none, Option.isNone_some, Option.isNone_none, ofString_inj, String.reduceEq, decide_true, decide_false, Bool.not_true, Bool.not_false, List.map_id', filt_true, any_id, all_id, Bool.false_eq_true, if_true, if_false]
    rw [tree_ok g 12 m [] (by simp) (by omega) (by rw [least_head]; exact h)]
    rfl
  | some r =>
    simp only [pb, ba, filL_id, mapL_id, if_tt, if_ff, caseS_inl, caseS_inr, mapL_p, filL_p, flaL_p, foldL_p, dIx_t, dIx_l, atL_0, atL_s, cEq_ss, cEq_nn, seqOf_l, seqOf_t, lenD_l, lenD_t, enumD_l, decS, decN, decB, dec_D, dec_LD, dec_TD, ofO_some', enc_S, enc_N, enc_D, enc_B, enc_U, enc_LD, enc_none, enc_some, Option.map_some, Option.map_none, Option.isSome_some, Option.isSome_none, Option.isNone_some, Option.isNone_none, ofString_inj, String.reduceEq, decide_true, decide_false, Bool.not_true, Bool.not_false, List.map_id', filt_true, any_id, all_id, Bool.false_eq_true, if_true, if_false, encTd, List.map_map]
    rfl
theorem keep_all {row : List Nat} (h : (enumL L).findSome? (fun p => if keep row p.2 = true then none else some (Ft.lm "limit" p.1)) = none) : ∀ l ∈ L, keep row l = true := fun l hl => by
  rw [List.findSome?_eq_none_iff] at h
  rw [← enumL_snd L] at hl
  obtain ⟨p, hp, rfl⟩ := List.mem_map.mp hl
  have := h p hp
  cases hk : keep row p.2 with
  | true => rfl
  | false => rw [hk] at this; cases this
theorem good_of (g : POk n m L) {row : List Nat} (h1 : row.length = m) (h2 : ∀ a ∈ row, a < n) (h3 : ∀ l ∈ L, keep row l = true) : row ∈ good n m L := by
  unfold good
  rw [← good_eq g]
  exact List.mem_filter.mpr ⟨rows_mem.mpr ⟨h1, h2⟩, List.all_eq_true.mpr h3⟩
theorem head_of {α : Type} {l : List α} {x : α} (h : x ∈ l) : ∃ y, l.head? = some y ∧ l[0]? = some y := by
  cases l with
  | nil => cases h
  | cons y l => exact ⟨y, rfl, rfl⟩
theorem sfault_ok (g : POk n m L) : ∀ td : Td, m_settle_fault n m L (encTd td) = pure (encF (fR n m L td))
  | .no t => by
    have hm := g.m5
    simp only [m_settle_fault, encTd, pb, ba, filL_id, mapL_id, if_tt, if_ff, caseS_inl, caseS_inr, mapL_p, filL_p, flaL_p, foldL_p, dIx_t, dIx_l, atL_0, atL_s, cEq_ss, cEq_nn, seqOf_l, seqOf_t, lenD_l, lenD_t, enumD_l, decS, decN, decB, dec_D, dec_LD, dec_TD, ofO_some', enc_S, enc_N, enc_D, enc_B, enc_U, enc_LD, enc_none, enc_some, Option.map_some, Option.map_none, Option.isSome_some, Option.isSome_none, Option.isNone_some, Option.isNone_none, ofString_inj, String.reduceEq, decide_true, decide_false, Bool.not_true, Bool.not_false, List.map_id', filt_true, any_id, all_id, Bool.false_eq_true, if_true, if_false, bp, tf_ok g 12 m [] t (by simp) (by omega), enc_T2]
    rfl
  | .le row => by
    have hm := g.m5
    simp only [m_settle_fault, encTd, pb, ba, filL_id, mapL_id, if_tt, if_ff, caseS_inl, caseS_inr, mapL_p, filL_p, flaL_p, foldL_p, dIx_t, dIx_l, atL_0, atL_s, cEq_ss, cEq_nn, seqOf_l, seqOf_t, lenD_l, lenD_t, enumD_l, decS, decN, decB, dec_D, dec_LD, dec_TD, ofO_some', enc_S, enc_N, enc_D, enc_B, enc_U, enc_LD, enc_none, enc_some, Option.map_some, Option.map_none, Option.isSome_some, Option.isSome_none, Option.isNone_some, Option.isNone_none, ofString_inj, String.reduceEq, decide_true, decide_false, Bool.not_true, Bool.not_false, List.map_id', filt_true, any_id, all_id, Bool.false_eq_true, if_true, if_false, bp, List.length_map, fR]
    rw [leF]
    by_cases h1 : row.length = m
    · rw [if_pos h1]
      simp only [decide_eq_true h1, pb, ba, filL_id, mapL_id, if_tt, if_ff, caseS_inl, caseS_inr, mapL_p, filL_p, flaL_p, foldL_p, dIx_t, dIx_l, atL_0, atL_s, cEq_ss, cEq_nn, seqOf_l, seqOf_t, lenD_l, lenD_t, enumD_l, decS, decN, decB, dec_D, dec_LD, dec_TD, ofO_some', enc_S, enc_N, enc_D, enc_B, enc_U, enc_LD, enc_none, enc_some, Option.map_some, Option.map_none, Option.isSome_some, Option.isSome_none, Option.isNone_some, Option.isNone_none, ofString_inj, String.reduceEq, decide_true, decide_false, Bool.not_true, Bool.not_false, List.map_id', filt_true, any_id, all_id, Bool.false_eq_true, if_true, if_false]
      rw [mapL_map, mapL_eq (g := inR n) fun x _ => by
        rw [decZ, ofO_some', pb]
        unfold inR
        by_cases h0 : 0 ≤ x
        · simp only [decide_eq_true h0, pb, ba, filL_id, mapL_id, if_tt, if_ff, caseS_inl, caseS_inr, mapL_p, filL_p, flaL_p, foldL_p, dIx_t, dIx_l, atL_0, atL_s, cEq_ss, cEq_nn, seqOf_l, seqOf_t, lenD_l, lenD_t, enumD_l, decS, decN, decB, dec_D, dec_LD, dec_TD, ofO_some', enc_S, enc_N, enc_D, enc_B, enc_U, enc_LD, enc_none, enc_some, Option.map_some, Option.map_none, Option.isSome_some, Option.isSome_none, Option.isNone_some, Option.isNone_none, ofString_inj, String.reduceEq, decide_true, decide_false, Bool.not_true, Bool.not_false, List.map_id', filt_true, any_id, all_id, Bool.false_eq_true, if_true, if_false, Bool.true_and]
        · simp only [decide_eq_false h0, pb, ba, filL_id, mapL_id, if_tt, if_ff, caseS_inl, caseS_inr, mapL_p, filL_p, flaL_p, foldL_p, dIx_t, dIx_l, atL_0, atL_s, cEq_ss, cEq_nn, seqOf_l, seqOf_t, lenD_l, lenD_t, enumD_l, decS, decN, decB, dec_D, dec_LD, dec_TD, ofO_some', enc_S, enc_N, enc_D, enc_B, enc_U, enc_LD, enc_none, enc_some, Option.map_some, Option.map_none, Option.isSome_some, Option.isSome_none, Option.isNone_some, Option.isNone_none, ofString_inj, String.reduceEq, decide_true, decide_false, Bool.not_true, Bool.not_false, List.map_id', filt_true, any_id, all_id, Bool.false_eq_true, if_true, if_false, Bool.false_and]]
      simp only [pb, ba, filL_id, mapL_id, if_tt, if_ff, caseS_inl, caseS_inr, mapL_p, filL_p, flaL_p, foldL_p, dIx_t, dIx_l, atL_0, atL_s, cEq_ss, cEq_nn, seqOf_l, seqOf_t, lenD_l, lenD_t, enumD_l, decS, decN, decB, dec_D, dec_LD, dec_TD, ofO_some', enc_S, enc_N, enc_D, enc_B, enc_U, enc_LD, enc_none, enc_some, Option.map_some, Option.map_none, Option.isSome_some, Option.isSome_none, Option.isNone_some, Option.isNone_none, ofString_inj, String.reduceEq, decide_true, decide_false, Bool.not_true, Bool.not_false, List.map_id', filt_true, any_id, all_id, Bool.false_eq_true, if_true, if_false]
      by_cases h2 : row.all (inR n) = true
      · rw [if_pos h2]
        simp only [h2, pb, ba, filL_id, mapL_id, if_tt, if_ff, caseS_inl, caseS_inr, mapL_p, filL_p, flaL_p, foldL_p, dIx_t, dIx_l, atL_0, atL_s, cEq_ss, cEq_nn, seqOf_l, seqOf_t, lenD_l, lenD_t, enumD_l, decS, decN, decB, dec_D, dec_LD, dec_TD, ofO_some', enc_S, enc_N, enc_D, enc_B, enc_U, enc_LD, enc_none, enc_some, Option.map_some, Option.map_none, Option.isSome_some, Option.isSome_none, Option.isNone_some, Option.isNone_none, ofString_inj, String.reduceEq, decide_true, decide_false, Bool.not_true, Bool.not_false, List.map_id', filt_true, any_id, all_id, Bool.false_eq_true, if_true, if_false]
        have hb := nats_back h2
        have hlt := nats_lt h2
        have hlen : (nats row).length = m := by unfold nats; rw [List.length_map]; exact h1
        generalize nats row = q at *
        subst hb
        have hd : (dec (PyData.list ((q.map fun (k : Nat) => (k : Int)).map .int)) : Option (List Nat)) = some q := by
          rw [List.map_map]; exact dec_LN q
        simp only [hd, pb, ba, filL_id, mapL_id, if_tt, if_ff, caseS_inl, caseS_inr, mapL_p, filL_p, flaL_p, foldL_p, dIx_t, dIx_l, atL_0, atL_s, cEq_ss, cEq_nn, seqOf_l, seqOf_t, lenD_l, lenD_t, enumD_l, decS, decN, decB, dec_D, dec_LD, dec_TD, ofO_some', enc_S, enc_N, enc_D, enc_B, enc_U, enc_LD, enc_none, enc_some, Option.map_some, Option.map_none, Option.isSome_some, Option.isSome_none, Option.isNone_some, Option.isNone_none, ofString_inj, String.reduceEq, decide_true, decide_false, Bool.not_true, Bool.not_false, List.map_id', filt_true, any_id, all_id, Bool.false_eq_true, if_true, if_false]
        rw [loop_e (r := fun p : Nat × Lim => if keep q p.2 = true then none else some (encF (Ft.lm "limit" p.1))) (fun p hp => by
          rw [holds_ok (g.ok p.2 (enumL_mem hp)) hlen, pb]
          cases keep q p.2 <;> rfl)]
        have e1 : (enumL L).findSome? (fun p : Nat × Lim => if keep q p.2 = true then none else some (encF (Ft.lm "limit" p.1))) = ((enumL L).findSome? (fun p : Nat × Lim => if keep q p.2 = true then none else some (Ft.lm "limit" p.1))).map encF := by
          generalize enumL L = E
          induction E with
          | nil => rfl
          | cons x E ih =>
            rw [List.findSome?_cons, List.findSome?_cons]
            cases keep q x.2 with
            | true => exact ih
            | false => rfl
        rw [e1]
        cases h3 : (enumL L).findSome? (fun p : Nat × Lim => if keep q p.2 = true then none else some (Ft.lm "limit" p.1)) with
        | some y => rfl
        | none =>
          have hin := good_of g hlen hlt (keep_all h3)
          obtain ⟨y, hy, _⟩ := head_of hin
          simp only [Option.map_none, Option.elim, Option.getD_none, least_ok g 12 m [] (by simp) (by omega), least_head, hy, pb, ba, filL_id, mapL_id, if_tt, if_ff, caseS_inl, caseS_inr, mapL_p, filL_p, flaL_p, foldL_p, dIx_t, dIx_l, atL_0, atL_s, cEq_ss, cEq_nn, seqOf_l, seqOf_t, lenD_l, lenD_t, enumD_l, decS, decN, decB, dec_D, dec_LD, dec_TD, ofO_some', enc_S, enc_N, enc_D, enc_B, enc_U, enc_LD, enc_none, enc_some, Option.map_some, Option.map_none, Option.isSome_some, Option.isSome_none, Option.isNone_some, Option.isNone_none, ofString_inj, String.reduceEq, decide_true, decide_false, Bool.not_true, Bool.not_false, List.map_id', filt_true, any_id, all_id, Bool.false_eq_true, if_true, if_false]
          rw [show cEq (enc y) (PyData.list ((q.map fun (k : Nat) => (k : Int)).map .int)) = some (decide (y = q)) from by rw [List.map_map]; exact cEq_enc (α := List Nat) (by decide) y q]
          simp only [pb, ba, filL_id, mapL_id, if_tt, if_ff, caseS_inl, caseS_inr, mapL_p, filL_p, flaL_p, foldL_p, dIx_t, dIx_l, atL_0, atL_s, cEq_ss, cEq_nn, seqOf_l, seqOf_t, lenD_l, lenD_t, enumD_l, decS, decN, decB, dec_D, dec_LD, dec_TD, ofO_some', enc_S, enc_N, enc_D, enc_B, enc_U, enc_LD, enc_none, enc_some, Option.map_some, Option.map_none, Option.isSome_some, Option.isSome_none, Option.isNone_some, Option.isNone_none, ofString_inj, String.reduceEq, decide_true, decide_false, Bool.not_true, Bool.not_false, List.map_id', filt_true, any_id, all_id, Bool.false_eq_true, if_true, if_false, Option.some.injEq]
          by_cases e : y = q
          · simp only [e, pb, ba, filL_id, mapL_id, if_tt, if_ff, caseS_inl, caseS_inr, mapL_p, filL_p, flaL_p, foldL_p, dIx_t, dIx_l, atL_0, atL_s, cEq_ss, cEq_nn, seqOf_l, seqOf_t, lenD_l, lenD_t, enumD_l, decS, decN, decB, dec_D, dec_LD, dec_TD, ofO_some', enc_S, enc_N, enc_D, enc_B, enc_U, enc_LD, enc_none, enc_some, Option.map_some, Option.map_none, Option.isSome_some, Option.isSome_none, Option.isNone_some, Option.isNone_none, ofString_inj, String.reduceEq, decide_true, decide_false, Bool.not_true, Bool.not_false, List.map_id', filt_true, any_id, all_id, Bool.false_eq_true, if_true, if_false]; rfl
          · simp only [e, pb, ba, filL_id, mapL_id, if_tt, if_ff, caseS_inl, caseS_inr, mapL_p, filL_p, flaL_p, foldL_p, dIx_t, dIx_l, atL_0, atL_s, cEq_ss, cEq_nn, seqOf_l, seqOf_t, lenD_l, lenD_t, enumD_l, decS, decN, decB, dec_D, dec_LD, dec_TD, ofO_some', enc_S, enc_N, enc_D, enc_B, enc_U, enc_LD, enc_none, enc_some, Option.map_some, Option.map_none, Option.isSome_some, Option.isSome_none, Option.isNone_some, Option.isNone_none, ofString_inj, String.reduceEq, decide_true, decide_false, Bool.not_true, Bool.not_false, List.map_id', filt_true, any_id, all_id, Bool.false_eq_true, if_true, if_false]; rfl
      · rw [if_neg h2]
        rw [Bool.not_eq_true] at h2
        simp only [h2, pb, ba, filL_id, mapL_id, if_tt, if_ff, caseS_inl, caseS_inr, mapL_p, filL_p, flaL_p, foldL_p, dIx_t, dIx_l, atL_0, atL_s, cEq_ss, cEq_nn, seqOf_l, seqOf_t, lenD_l, lenD_t, enumD_l, decS, decN, decB, dec_D, dec_LD, dec_TD, ofO_some', enc_S, enc_N, enc_D, enc_B, enc_U, enc_LD, enc_none, enc_some, Option.map_some, Option.map_none, Option.isSome_some, Option.isSome_none, Option.isNone_some, Option.isNone_none, ofString_inj, String.reduceEq, decide_true, decide_false, Bool.not_true, Bool.not_false, List.map_id', filt_true, any_id, all_id, Bool.false_eq_true, if_true, if_false]; rfl
    · rw [if_neg h1]
      simp only [decide_eq_false h1, pb, ba, filL_id, mapL_id, if_tt, if_ff, caseS_inl, caseS_inr, mapL_p, filL_p, flaL_p, foldL_p, dIx_t, dIx_l, atL_0, atL_s, cEq_ss, cEq_nn, seqOf_l, seqOf_t, lenD_l, lenD_t, enumD_l, decS, decN, decB, dec_D, dec_LD, dec_TD, ofO_some', enc_S, enc_N, enc_D, enc_B, enc_U, enc_LD, enc_none, enc_some, Option.map_some, Option.map_none, Option.isSome_some, Option.isSome_none, Option.isNone_some, Option.isNone_none, ofString_inj, String.reduceEq, decide_true, decide_false, Bool.not_true, Bool.not_false, List.map_id', filt_true, any_id, all_id, Bool.false_eq_true, if_true, if_false]; rfl
theorem lfault_ok (g : POk n m L) : ∀ td : Td, m_law_fault n m L (good n m L) (encTd td) = pure (encF (fR n m L td))
  | .no t => by
    have hm := g.m5
    simp only [m_law_fault, encTd, pb, ba, filL_id, mapL_id, if_tt, if_ff, caseS_inl, caseS_inr, mapL_p, filL_p, flaL_p, foldL_p, dIx_t, dIx_l, atL_0, atL_s, cEq_ss, cEq_nn, seqOf_l, seqOf_t, lenD_l, lenD_t, enumD_l, decS, decN, decB, dec_D, dec_LD, dec_TD, ofO_some', enc_S, enc_N, enc_D, enc_B, enc_U, enc_LD, enc_none, enc_some, Option.map_some, Option.map_none, Option.isSome_some, Option.isSome_none, Option.isNone_some, Option.isNone_none, ofString_inj, String.reduceEq, decide_true, decide_false, Bool.not_true, Bool.not_false, List.map_id', filt_true, any_id, all_id, Bool.false_eq_true, if_true, if_false, bp, ltf_ok g 12 m [] t (by simp) (by omega), enc_T2]
    rfl
  | .le row => by
    have hm := g.m5
    have hln := g.ln
    simp only [m_law_fault, encTd, pb, ba, filL_id, mapL_id, if_tt, if_ff, caseS_inl, caseS_inr, mapL_p, filL_p, flaL_p, foldL_p, dIx_t, dIx_l, atL_0, atL_s, cEq_ss, cEq_nn, seqOf_l, seqOf_t, lenD_l, lenD_t, enumD_l, decS, decN, decB, dec_D, dec_LD, dec_TD, ofO_some', enc_S, enc_N, enc_D, enc_B, enc_U, enc_LD, enc_none, enc_some, Option.map_some, Option.map_none, Option.isSome_some, Option.isSome_none, Option.isNone_some, Option.isNone_none, ofString_inj, String.reduceEq, decide_true, decide_false, Bool.not_true, Bool.not_false, List.map_id', filt_true, any_id, all_id, Bool.false_eq_true, if_true, if_false, bp, List.length_map, fR]
    rw [leF]
    by_cases h1 : row.length = m
    · rw [if_pos h1]
      simp only [decide_eq_true h1, pb, ba, filL_id, mapL_id, if_tt, if_ff, caseS_inl, caseS_inr, mapL_p, filL_p, flaL_p, foldL_p, dIx_t, dIx_l, atL_0, atL_s, cEq_ss, cEq_nn, seqOf_l, seqOf_t, lenD_l, lenD_t, enumD_l, decS, decN, decB, dec_D, dec_LD, dec_TD, ofO_some', enc_S, enc_N, enc_D, enc_B, enc_U, enc_LD, enc_none, enc_some, Option.map_some, Option.map_none, Option.isSome_some, Option.isSome_none, Option.isNone_some, Option.isNone_none, ofString_inj, String.reduceEq, decide_true, decide_false, Bool.not_true, Bool.not_false, List.map_id', filt_true, any_id, all_id, Bool.false_eq_true, if_true, if_false]
      have ef : filL (fun i21 : D => ofO (dec i21 : Option Int) >>= fun x => (if decide (0 ≤ x) = true then pure (decide (x < (n : Int))) else pure false) >>= fun x27 => pure (!x27)) (fun x13 => (pure x13 : M D)) (row.map .int) = pure ((row.filter fun x => !inR n x).map .int) := by
        rw [filL_mapc]
        refine (filL_eq (p := fun x => !inR n x) (g := PyData.int) (fun x _ => ?_) fun _ _ _ => rfl)
        rw [decZ, ofO_some', pb]
        unfold inR
        by_cases h0 : 0 ≤ x
        · simp only [decide_eq_true h0, pb, ba, filL_id, mapL_id, if_tt, if_ff, caseS_inl, caseS_inr, mapL_p, filL_p, flaL_p, foldL_p, dIx_t, dIx_l, atL_0, atL_s, cEq_ss, cEq_nn, seqOf_l, seqOf_t, lenD_l, lenD_t, enumD_l, decS, decN, decB, dec_D, dec_LD, dec_TD, ofO_some', enc_S, enc_N, enc_D, enc_B, enc_U, enc_LD, enc_none, enc_some, Option.map_some, Option.map_none, Option.isSome_some, Option.isSome_none, Option.isNone_some, Option.isNone_none, ofString_inj, String.reduceEq, decide_true, decide_false, Bool.not_true, Bool.not_false, List.map_id', filt_true, any_id, all_id, Bool.false_eq_true, if_true, if_false, Bool.true_and]
        · simp only [decide_eq_false h0, pb, ba, filL_id, mapL_id, if_tt, if_ff, caseS_inl, caseS_inr, mapL_p, filL_p, flaL_p, foldL_p, dIx_t, dIx_l, atL_0, atL_s, cEq_ss, cEq_nn, seqOf_l, seqOf_t, lenD_l, lenD_t, enumD_l, decS, decN, decB, dec_D, dec_LD, dec_TD, ofO_some', enc_S, enc_N, enc_D, enc_B, enc_U, enc_LD, enc_none, enc_some, Option.map_some, Option.map_none, Option.isSome_some, Option.isSome_none, Option.isNone_some, Option.isNone_none, ofString_inj, String.reduceEq, decide_true, decide_false, Bool.not_true, Bool.not_false, List.map_id', filt_true, any_id, all_id, Bool.false_eq_true, if_true, if_false, Bool.false_and]
      simp only [ef, pb, ba, filL_id, mapL_id, if_tt, if_ff, caseS_inl, caseS_inr, mapL_p, filL_p, flaL_p, foldL_p, dIx_t, dIx_l, atL_0, atL_s, cEq_ss, cEq_nn, seqOf_l, seqOf_t, lenD_l, lenD_t, enumD_l, decS, decN, decB, dec_D, dec_LD, dec_TD, ofO_some', enc_S, enc_N, enc_D, enc_B, enc_U, enc_LD, enc_none, enc_some, Option.map_some, Option.map_none, Option.isSome_some, Option.isSome_none, Option.isNone_some, Option.isNone_none, ofString_inj, String.reduceEq, decide_true, decide_false, Bool.not_true, Bool.not_false, List.map_id', filt_true, any_id, all_id, Bool.false_eq_true, if_true, if_false, List.length_map]
      by_cases h2 : row.all (inR n) = true
      · rw [if_pos h2]
        have h20 : (row.filter fun x => !inR n x) = [] := by
          rw [List.filter_eq_nil_iff]
          intro x hx
          simp [List.all_eq_true.mp h2 x hx]
        rw [h20]
        simp only [List.length_nil, Nat.lt_irrefl, pb, ba, filL_id, mapL_id, if_tt, if_ff, caseS_inl, caseS_inr, mapL_p, filL_p, flaL_p, foldL_p, dIx_t, dIx_l, atL_0, atL_s, cEq_ss, cEq_nn, seqOf_l, seqOf_t, lenD_l, lenD_t, enumD_l, decS, decN, decB, dec_D, dec_LD, dec_TD, ofO_some', enc_S, enc_N, enc_D, enc_B, enc_U, enc_LD, enc_none, enc_some, Option.map_some, Option.map_none, Option.isSome_some, Option.isSome_none, Option.isNone_some, Option.isNone_none, ofString_inj, String.reduceEq, decide_true, decide_false, Bool.not_true, Bool.not_false, List.map_id', filt_true, any_id, all_id, Bool.false_eq_true, if_true, if_false]
        have hb := nats_back h2
        have hlt := nats_lt h2
        have hlen : (nats row).length = m := by unfold nats; rw [List.length_map]; exact h1
        generalize nats row = q at *
        subst hb
        rw [rangeM_ok (by omega), pb]
        rw [loopL_congr (g := fun s (i : Nat) => (fun (_ : Unit) (p : Nat × Lim) => (if (!keep q p.2) = true then (pure (Fw.rt (encF (Ft.lm "limit" p.1))) : M (Fw Unit D)) else pure (Fw.nx ()))) s (i, L.getD i (⟨[]⟩, []))) (fun i hi s => by
          have hi := List.mem_range.mp hi
          have hl := List.getElem_mem hi
          have hs := (g.ok _ hl).sc
          have eg : L.getD i (⟨[]⟩, []) = L[i] := by simp [hi]
          simp only [atL_get hi, pb, eg]
          rw [mapL_eq (g := fun a => q.getD a 0) fun a ha => by
            have haq : a < q.length := by rw [hlen]; exact hs a ha
            rw [List.map_map, atL_map, atL_getD 0 haq, pb, pb]
            exact congrArg ofO (dec_N (q.getD a 0))]
          rfl)]
        rw [← loopL_mapc (fun (_ : Unit) (p : Nat × Lim) => (if (!keep q p.2) = true then (pure (Fw.rt (encF (Ft.lm "limit" p.1))) : M (Fw Unit D)) else pure (Fw.nx ()))) (fun i => (i, L.getD i (⟨[]⟩, []))), ← enumL_range]
        rw [loop_e (r := fun p : Nat × Lim => if keep q p.2 = true then none else some (encF (Ft.lm "limit" p.1))) (fun p hp => by
          cases keep q p.2 <;> rfl)]
        have e1 : (enumL L).findSome? (fun p : Nat × Lim => if keep q p.2 = true then none else some (encF (Ft.lm "limit" p.1))) = ((enumL L).findSome? (fun p : Nat × Lim => if keep q p.2 = true then none else some (Ft.lm "limit" p.1))).map encF := by
          generalize enumL L = E
          induction E with
          | nil => rfl
          | cons x E ih =>
            rw [List.findSome?_cons, List.findSome?_cons]
            cases keep q x.2 with
            | true => exact ih
            | false => rfl
        rw [e1]
        cases h3 : (enumL L).findSome? (fun p : Nat × Lim => if keep q p.2 = true then none else some (Ft.lm "limit" p.1)) with
        | some y => rfl
        | none =>
          have hin := good_of g hlen hlt (keep_all h3)
          obtain ⟨y, hy, hy2⟩ := head_of hin
          simp only [Option.map_none, Option.elim, Option.getD_none, atL_ok hy2, hy, pb, ba, filL_id, mapL_id, if_tt, if_ff, caseS_inl, caseS_inr, mapL_p, filL_p, flaL_p, foldL_p, dIx_t, dIx_l, atL_0, atL_s, cEq_ss, cEq_nn, seqOf_l, seqOf_t, lenD_l, lenD_t, enumD_l, decS, decN, decB, dec_D, dec_LD, dec_TD, ofO_some', enc_S, enc_N, enc_D, enc_B, enc_U, enc_LD, enc_none, enc_some, Option.map_some, Option.map_none, Option.isSome_some, Option.isSome_none, Option.isNone_some, Option.isNone_none, ofString_inj, String.reduceEq, decide_true, decide_false, Bool.not_true, Bool.not_false, List.map_id', filt_true, any_id, all_id, Bool.false_eq_true, if_true, if_false]
          rw [show cEq (enc y) (PyData.list ((q.map fun (k : Nat) => (k : Int)).map .int)) = some (decide (y = q)) from by rw [List.map_map]; exact cEq_enc (α := List Nat) (by decide) y q]
          simp only [pb, ba, filL_id, mapL_id, if_tt, if_ff, caseS_inl, caseS_inr, mapL_p, filL_p, flaL_p, foldL_p, dIx_t, dIx_l, atL_0, atL_s, cEq_ss, cEq_nn, seqOf_l, seqOf_t, lenD_l, lenD_t, enumD_l, decS, decN, decB, dec_D, dec_LD, dec_TD, ofO_some', enc_S, enc_N, enc_D, enc_B, enc_U, enc_LD, enc_none, enc_some, Option.map_some, Option.map_none, Option.isSome_some, Option.isSome_none, Option.isNone_some, Option.isNone_none, ofString_inj, String.reduceEq, decide_true, decide_false, Bool.not_true, Bool.not_false, List.map_id', filt_true, any_id, all_id, Bool.false_eq_true, if_true, if_false, Option.some.injEq]
          by_cases e : y = q
          · simp only [e, pb, ba, filL_id, mapL_id, if_tt, if_ff, caseS_inl, caseS_inr, mapL_p, filL_p, flaL_p, foldL_p, dIx_t, dIx_l, atL_0, atL_s, cEq_ss, cEq_nn, seqOf_l, seqOf_t, lenD_l, lenD_t, enumD_l, decS, decN, decB, dec_D, dec_LD, dec_TD, ofO_some', enc_S, enc_N, enc_D, enc_B, enc_U, enc_LD, enc_none, enc_some, Option.map_some, Option.map_none, Option.isSome_some, Option.isSome_none, Option.isNone_some, Option.isNone_none, ofString_inj, String.reduceEq, decide_true, decide_false, Bool.not_true, Bool.not_false, List.map_id', filt_true, any_id, all_id, Bool.false_eq_true, if_true, if_false]; rfl
          · simp only [e, pb, ba, filL_id, mapL_id, if_tt, if_ff, caseS_inl, caseS_inr, mapL_p, filL_p, flaL_p, foldL_p, dIx_t, dIx_l, atL_0, atL_s, cEq_ss, cEq_nn, seqOf_l, seqOf_t, lenD_l, lenD_t, enumD_l, decS, decN, decB, dec_D, dec_LD, dec_TD, ofO_some', enc_S, enc_N, enc_D, enc_B, enc_U, enc_LD, enc_none, enc_some, Option.map_some, Option.map_none, Option.isSome_some, Option.isSome_none, Option.isNone_some, Option.isNone_none, ofString_inj, String.reduceEq, decide_true, decide_false, Bool.not_true, Bool.not_false, List.map_id', filt_true, any_id, all_id, Bool.false_eq_true, if_true, if_false]; rfl
      · rw [if_neg h2]
        have h20 : 0 < (row.filter fun x => !inR n x).length := by
          rw [List.length_pos_iff]
          intro e
          rw [List.filter_eq_nil_iff] at e
          exact h2 (List.all_eq_true.mpr fun x hx => by have := e x hx; simpa using this)
        simp only [decide_eq_true h20, pb, ba, filL_id, mapL_id, if_tt, if_ff, caseS_inl, caseS_inr, mapL_p, filL_p, flaL_p, foldL_p, dIx_t, dIx_l, atL_0, atL_s, cEq_ss, cEq_nn, seqOf_l, seqOf_t, lenD_l, lenD_t, enumD_l, decS, decN, decB, dec_D, dec_LD, dec_TD, ofO_some', enc_S, enc_N, enc_D, enc_B, enc_U, enc_LD, enc_none, enc_some, Option.map_some, Option.map_none, Option.isSome_some, Option.isSome_none, Option.isNone_some, Option.isNone_none, ofString_inj, String.reduceEq, decide_true, decide_false, Bool.not_true, Bool.not_false, List.map_id', filt_true, any_id, all_id, Bool.false_eq_true, if_true, if_false]; rfl
    · rw [if_neg h1]
      simp only [decide_eq_false h1, pb, ba, filL_id, mapL_id, if_tt, if_ff, caseS_inl, caseS_inr, mapL_p, filL_p, flaL_p, foldL_p, dIx_t, dIx_l, atL_0, atL_s, cEq_ss, cEq_nn, seqOf_l, seqOf_t, lenD_l, lenD_t, enumD_l, decS, decN, decB, dec_D, dec_LD, dec_TD, ofO_some', enc_S, enc_N, enc_D, enc_B, enc_U, enc_LD, enc_none, enc_some, Option.map_some, Option.map_none, Option.isSome_some, Option.isSome_none, Option.isNone_some, Option.isNone_none, ofString_inj, String.reduceEq, decide_true, decide_false, Bool.not_true, Bool.not_false, List.map_id', filt_true, any_id, all_id, Bool.false_eq_true, if_true, if_false]; rfl
end
end K60
set_option maxRecDepth 100000
set_option maxHeartbeats 4000000
set_option linter.all false
set_option Elab.async false
namespace K60
open PySem Ev
open Ev.Enc (enc)
open Ev.Dec (dec)
/-! ### the problem drawn -/
theorem fold_flat' {α β : Type} {F : List β → α → M (List β)} {G : α → List β} (B : Nat) {xs : List α} (h : (xs.flatMap G).length ≤ B) (hF : ∀ x ∈ xs, ∀ acc : List β, acc.length + (G x).length ≤ B → F acc x = pure (acc ++ G x)) : foldL F [] xs = pure (xs.flatMap G) := by
  have := fold_flat B xs [] (by simpa using h) hF
  simpa using this
theorem lim_rows {n : Nat} (hn : n ≤ 3) {sc : List Nat} (hs : sc.length ≤ 3) : foldL (fun (s35 : List (Tu Nat)) (_ : Nat) => foldL (fun (s40 : List (Tu Nat)) (i42 : Tu Nat) => rangeM n >>= fun x => mapL (fun i44 => appT i42 ⟨[i44]⟩) x >>= fun x51 => appL s40 x51) [] s35) [⟨[]⟩] sc = pure ((rows n sc.length).map Tu.mk) := by
  refine foldL_S (s := [⟨[]⟩]) (S := fun pre => (rows n pre.length).map Tu.mk) rfl fun pre x q e => ?_
  have hp : pre.length + 1 ≤ 3 := by
    have := congrArg List.length e
    rw [List.length_append, List.length_cons] at this
    omega
  have hr : (rows n (pre.length + 1)).length ≤ 243 := by
    rw [rows_length]
    have h1 : n ^ (pre.length + 1) ≤ 3 ^ (pre.length + 1) := Nat.pow_le_pow_left hn _
    have h2 : 3 ^ (pre.length + 1) ≤ 3 ^ 3 := Nat.pow_le_pow_right (by decide) hp
    have : 3 ^ 3 = 27 := rfl
    omega
  have eG : ((rows n pre.length).map Tu.mk).flatMap (fun r => (List.range n).map fun v => Tu.mk (r.l ++ [v])) = (rows n (pre.length + 1)).map Tu.mk := by
    rw [List.flatMap_map, rows, List.map_flatMap]
    congr 1
    funext r
    rw [List.map_map]; rfl
  rw [List.length_append, List.length_singleton, ← eG]
  refine fold_flat' 243 (by rw [eG, List.length_map]; exact hr) fun r hr acc hacc => ?_
  obtain ⟨r', hr', rfl⟩ := List.mem_map.mp hr
  have hl := (rows_mem.mp hr').1
  have hacc : acc.length + ((List.range n).map fun v => Tu.mk (r' ++ [v])).length ≤ 243 := hacc
  rw [rangeM_ok (by omega), pb, mapL_eq (g := fun v => Tu.mk (r' ++ [v])) (fun v _ => appT_ok (by simp; omega)), pb, appL_ok (by omega)]
structure PrOk (p : P3 Nat Nat (List Lim)) : Prop where
  ok : POk p.a p.b p.c
  shw : ∃ s, reprS (enc p.c) = some s
theorem shw_lim {n m : Nat} {l : Lim} (hn : n ≤ 3) (hm : m ≤ 5) (h : LOk n m l) : Shw (enc l) 5000 3 := by
  have h1 : Shw (.tuple (l.1.l.map nI)) 22 1 := (shw_tuple (n := 4) (k := 0) (m := 3) (fun x hx => by
    obtain ⟨a, ha, rfl⟩ := List.mem_map.mp hx
    exact shw_n (by have := h.sc a ha; omega)) (by rw [List.length_map]; exact h.sl)).mono (by omega) (by omega)
  have h2 : Shw (.list (l.2.map enc)) 2402 2 := (shw_list (n := 22) (k := 1) (m := 100) (fun x hx => by
    obtain ⟨r, hr, rfl⟩ := List.mem_map.mp hx
    exact (shw_tuple (n := 4) (k := 0) (m := 3) (fun x hx => by
      obtain ⟨a, ha, rfl⟩ := List.mem_map.mp hx
      exact shw_n (by have := h.rv r hr a ha; omega)) (by rw [List.length_map, h.rl r hr]; exact h.sl)).mono (by omega) (by omega)) (by rw [List.length_map]; exact h.rn)).mono (by omega) (by omega)
  show Shw (.tuple [.tuple (l.1.l.map nI), .list (l.2.map enc)]) 5000 3
  refine (shw_tuple (n := 2402) (k := 2) (m := 2) (fun x hx => ?_) (by simp)).mono (by omega) (by omega)
  rcases List.mem_cons.mp hx with rfl | hx
  · exact h1.mono (by omega) (by omega)
  · rw [List.mem_singleton] at hx; subst hx; exact h2
theorem problem_ok : WP (m_law_problem () 5 5) PrOk := by
  simp only [m_law_problem, pb, ba, filL_id, mapL_id, if_tt, if_ff, caseS_inl, caseS_inr, mapL_p, filL_p, flaL_p, foldL_p, dIx_t, dIx_l, atL_0, atL_s, cEq_ss, cEq_nn, seqOf_l, seqOf_t, lenD_l, lenD_t, enumD_l, decS, decN, decB, dec_D, dec_LD, dec_TD, ofO_some', enc_S, enc_N, enc_D, enc_B, enc_U, enc_LD, enc_none, enc_some, Option.map_some, Option.map_none, Option.isSome_some, Option.isSome_none, Option.isNone_some, Option.isNone_none, ofString_inj, String.reduceEq, decide_true, decide_false, Bool.not_true, Bool.not_false, List.map_id', filt_true, any_id, all_id, Bool.false_eq_true, if_true, if_false, bp]
  refine wp_takeK (by decide) (by decide) fun a ha => wp_takeK (by decide) (by decide) fun b hb => wp_takeK (by decide) (by decide) fun c hc => ?_
  rw [rangeM_ok (by omega), pb]
  refine wp_bind (wp_fold (I := fun pre (s : List Lim) => s.length = pre.length ∧ ∀ l ∈ s, LOk (2 + a) (1 + b) l) ⟨rfl, fun _ h => (List.not_mem_nil h).elim⟩ fun pre x q s e hI => ?_) fun s hs => ?_
  · have hp : pre.length + 1 ≤ 6 := by
      have := congrArg List.length e
      rw [List.length_range, List.length_append, List.length_cons] at this
      omega
    refine wp_takeK (by decide) (by decide) fun d hd => ?_
    rw [rangeM_ok (by omega), pb]
    refine wp_bind (wp_mapL1 (Q := fun v => v < 1 + b) fun v _ => wp_take (by omega) (by omega)) fun sc hsc => ?_
    rw [List.length_range] at hsc
    have er := lim_rows (n := 2 + a) (by omega) (sc := sc) (by omega)
    rw [er, pb]
    refine wp_takeK (by decide) (by decide) fun t ht => ?_
    have hrare : ∃ r, atL [2, 3, 6] t = pure r ∧ 0 < r ∧ r ≤ 1000 := by
      match t, ht with
      | 0, _ => exact ⟨2, rfl, by decide, by decide⟩
      | 1, _ => exact ⟨3, rfl, by decide, by decide⟩
      | 2, _ => exact ⟨6, rfl, by decide, by decide⟩
    obtain ⟨r, e1, r1, r2⟩ := hrare
    rw [e1, pb]
    refine wp_bind (wp_filL (Q := fun y => y ∈ (rows (2 + a) sc.length).map Tu.mk) (fun y _ => wp_takeK r1 r2 fun _ _ => wp_pure trivial) fun y hy => wp_pure hy) fun rs hrs => ?_
    rw [pushL_ok (by omega)]
    refine wp_pure ⟨by rw [List.length_append, List.length_append, hI.1]; rfl, fun l hl => ?_⟩
    rcases List.mem_append.mp hl with hl | hl
    · exact hI.2 l hl
    · rw [List.mem_singleton] at hl
      subst hl
      have hrl : ((rows (2 + a) sc.length).map Tu.mk).length ≤ 27 := by
        rw [List.length_map, rows_length]
        have h1 : (2 + a) ^ sc.length ≤ 3 ^ sc.length := Nat.pow_le_pow_left (by omega) _
        have h2 : 3 ^ sc.length ≤ 3 ^ 3 := Nat.pow_le_pow_right (by decide) (by omega)
        have : 3 ^ 3 = 27 := rfl
        omega
      refine ⟨hsc.2, by show sc.length ≤ 3; omega, fun r hr => ?_, fun r hr => ?_, by show rs.length ≤ 100; omega⟩
      · obtain ⟨q, hq, rfl⟩ := List.mem_map.mp (hrs.2 r hr)
        exact (rows_mem.mp hq).1
      · obtain ⟨q, hq, rfl⟩ := List.mem_map.mp (hrs.2 r hr)
        exact (rows_mem.mp hq).2
  · have hl : s.length = c := by rw [hs.1, List.length_range]
    refine wp_pure ⟨⟨by show 0 < 2 + a; omega, by show 2 + a ≤ 3; omega, by show 0 < 1 + b; omega, by show 1 + b ≤ 5; omega, by show s.length ≤ 100; omega, hs.2⟩, ?_⟩
    have : Shw (.list (s.map enc)) (10 * 5002 + 2) 4 := shw_list (n := 5000) (k := 3) (m := 10) (fun x hx => by
      obtain ⟨l, hl, rfl⟩ := List.mem_map.mp hx
      exact shw_lim (n := 2 + a) (m := 1 + b) (by omega) (by omega) (hs.2 l hl)) (by rw [List.length_map]; omega)
    exact reprS_ofL this (by rw [sz]; decide) (by decide)
/-! ### the law -/
section
variable {n m : Nat} {L : List Lim}
theorem fR_good (g : POk n m L) {r : List Nat} (hr : r ∈ good n m L) : fR n m L (.le (r.map fun (k : Nat) => (k : Int))) = if (good n m L).head? = some r then .no else .wd "least" := by
  have hr0 := hr
  unfold good at hr
  rw [← good_eq g] at hr
  obtain ⟨h1, h2⟩ := List.mem_filter.mp hr
  obtain ⟨h3, h4⟩ := rows_mem.mp h1
  have en : nats (r.map fun (k : Nat) => (k : Int)) = r := by
    unfold nats
    rw [List.map_map]
    conv => rhs; rw [← List.map_id r]
    apply List.map_congr_left
    intro a _
    simp
  have ea : (r.map fun (k : Nat) => (k : Int)).all (inR n) = true := by
    rw [List.all_map, List.all_eq_true]
    intro a ha
    have := h4 a ha
    simp only [Function.comp, inR, Bool.and_eq_true, decide_eq_true_eq]
    omega
  show leF n m L _ = _
  rw [leF, List.length_map, if_pos h3, if_pos ea, en]
  have e0 : (enumL L).findSome? (fun p : Nat × Lim => if keep r p.2 = true then none else some (Ft.lm "limit" p.1)) = none := by
    rw [List.findSome?_eq_none_iff]
    intro p hp
    rw [if_pos (List.all_eq_true.mp h2 p.2 (enumL_mem hp))]
  rw [e0]; rfl
theorem fR_told (g : POk n m L) : fR n m L (match (good n m L).head? with | some r => .le (r.map fun (k : Nat) => (k : Int)) | none => .no (treeR n L m [])) = .no := by
  cases h : (good n m L).head? with
  | none =>
    show ofT (tfR n L m [] (treeR n L m [])) = .no
    rw [tree_right (fun _ _ => trivial) m [] (by rw [least_head]; exact h)]
    rfl
  | some r =>
    show fR n m L (.le (r.map fun (k : Nat) => (k : Int))) = .no
    rw [fR_good g (List.mem_of_mem_head? h), if_pos h]
theorem enc_le (r : List Nat) : PyData.tuple [PyData.str (Str.ofString "least"), enc r] = encTd (.le (r.map fun (k : Nat) => (k : Int))) := by
  rw [encTd, List.map_map]; rfl
/-- the last turns: what both say of something told -/
theorem same_ok (g : POk n m L) (td : Td) : (m_settle_fault n m L (encTd td) >>= fun x => m_law_fault n m L (good n m L) (encTd td) >>= fun x_1 => ofO (Option.map (fun x => !x) (cEq x x_1)) >>= fun q => if q = true then (pure (Fw.rt false) : M (Fw Unit Bool)) else pure (Fw.nx ())) = pure (Fw.nx ()) := by
  rw [sfault_ok g, pb, lfault_ok g, pb, cEq_F]; rfl
theorem turns_ok (g : POk n m L) : WP (loopL (fun (s52 : Unit) (i56 : List Nat) => m_settle_fault n m L (PyData.tuple [PyData.str (Str.ofString "least"), enc i56]) >>= fun x => atL (good n m L) 0 >>= fun x_1 => (if decide (i56 = x_1) = true then pure none else pure (some (Tu.mk [Str.ofString "least"]))) >>= fun x_2 => ofO (Option.map (fun x => !x) (cEq x (enc x_2))) >>= fun q76 => if q76 = true then (pure (Fw.rt false) : M (Fw Unit Bool)) else pure (Fw.nx ())) () (List.take 5 (good n m L)) ) (fun z => z = .inl ()) := by
  refine wp_loop0 (fun _ _ => True) (fun z => z = .inl ()) trivial (fun _ _ => rfl) fun pre r q s e _ => ?_
  have hr : r ∈ good n m L := List.mem_of_mem_take (by rw [e]; simp)
  obtain ⟨y, hy, hy2⟩ := head_of hr
  rw [enc_le, sfault_ok g, pb, fR_good g hr, atL_ok hy2, pb, hy]
  by_cases h : r = y
  · subst h
    rw [if_pos rfl, decide_eq_true rfl]
    exact wp_eq rfl trivial
  · rw [if_neg (fun z => h (Option.some.inj z).symm), decide_eq_false h]
    have := cEq_F (.wd "least")
    rw [if_neg Bool.false_ne_true, pb]
    rw [show cEq (encF (.wd "least")) (enc (some (Tu.mk [Str.ofString "least"]))) = some true from this]
    exact wp_eq rfl trivial
theorem law_wp : WP m_law (· = true) := by
  simp only [m_law, pb, ba, filL_id, mapL_id, if_tt, if_ff, caseS_inl, caseS_inr, mapL_p, filL_p, flaL_p, foldL_p, dIx_t, dIx_l, atL_0, atL_s, cEq_ss, cEq_nn, seqOf_l, seqOf_t, lenD_l, lenD_t, enumD_l, decS, decN, decB, dec_D, dec_LD, dec_TD, ofO_some', enc_S, enc_N, enc_D, enc_B, enc_U, enc_LD, enc_none, enc_some, Option.map_some, Option.map_none, Option.isSome_some, Option.isSome_none, Option.isNone_some, Option.isNone_none, ofString_inj, String.reduceEq, decide_true, decide_false, Bool.not_true, Bool.not_false, List.map_id', filt_true, any_id, all_id, Bool.false_eq_true, if_true, if_false, bp]
  refine wp_bind problem_ok fun p hp => ?_
  obtain ⟨g, s, hs⟩ := hp
  have hm := g.m5
  have h3 := g.n3
  have h0 := g.m0
  have hft := fR_told g
  have ht := turns_ok g
  simp only [hs, pb, ba, filL_id, mapL_id, if_tt, if_ff, caseS_inl, caseS_inr, mapL_p, filL_p, flaL_p, foldL_p, dIx_t, dIx_l, atL_0, atL_s, cEq_ss, cEq_nn, seqOf_l, seqOf_t, lenD_l, lenD_t, enumD_l, decS, decN, decB, dec_D, dec_LD, dec_TD, ofO_some', enc_S, enc_N, enc_D, enc_B, enc_U, enc_LD, enc_none, enc_some, Option.map_some, Option.map_none, Option.isSome_some, Option.isSome_none, Option.isNone_some, Option.isNone_none, ofString_inj, String.reduceEq, decide_true, decide_false, Bool.not_true, Bool.not_false, List.map_id', filt_true, any_id, all_id, Bool.false_eq_true, if_true, if_false, lrows_ok g, good_eq g, settle_ok g, all_ok g]
  rw [show (rows p.a p.b).filter (ns p.c) = good p.a p.b p.c from rfl]
  cases hh : (good p.a p.b p.c).head? with
  | none =>
    rw [hh] at hft
    have hG : (good p.a p.b p.c).length = 0 := by rw [List.head?_eq_none_iff] at hh; rw [hh]; rfl
    have e1 : ∀ x, m_law_fault p.a p.b p.c (good p.a p.b p.c) (encTd x) = pure (encF (fR p.a p.b p.c x)) := lfault_ok g
    simp only [e1, sfault_ok g, hft, pb, ba, filL_id, mapL_id, if_tt, if_ff, caseS_inl, caseS_inr, mapL_p, filL_p, flaL_p, foldL_p, dIx_t, dIx_l, atL_0, atL_s, cEq_ss, cEq_nn, seqOf_l, seqOf_t, lenD_l, lenD_t, enumD_l, decS, decN, decB, dec_D, dec_LD, dec_TD, ofO_some', enc_S, enc_N, enc_D, enc_B, enc_U, enc_LD, enc_none, enc_some, Option.map_some, Option.map_none, Option.isSome_some, Option.isSome_none, Option.isNone_some, Option.isNone_none, ofString_inj, String.reduceEq, decide_true, decide_false, Bool.not_true, Bool.not_false, List.map_id', filt_true, any_id, all_id, Bool.false_eq_true, if_true, if_false]
    simp only [encTd, hG, Nat.lt_irrefl, pb, ba, filL_id, mapL_id, if_tt, if_ff, caseS_inl, caseS_inr, mapL_p, filL_p, flaL_p, foldL_p, dIx_t, dIx_l, atL_0, atL_s, cEq_ss, cEq_nn, seqOf_l, seqOf_t, lenD_l, lenD_t, enumD_l, decS, decN, decB, dec_D, dec_LD, dec_TD, ofO_some', enc_S, enc_N, enc_D, enc_B, enc_U, enc_LD, enc_none, enc_some, Option.map_some, Option.map_none, Option.isSome_some, Option.isSome_none, Option.isNone_some, Option.isNone_none, ofString_inj, String.reduceEq, decide_true, decide_false, Bool.not_true, Bool.not_false, List.map_id', filt_true, any_id, all_id, Bool.false_eq_true, if_true, if_false, isiB, encF, isNoneD]
    refine wp_bind ht fun z hz => ?_
    rw [hz, caseS_inl, rangeM_ok (by decide), pb]
    refine wp_noexit (fun i hi => ?_) (wp_pure rfl)
    refine wp_bind (bent_ok h3 12 _ (by have := (treeR_wd (n := p.a) (L := p.c) p.b []).2; omega) (treeR_wd p.b []).1) fun d hd => ?_
    obtain ⟨t', rfl⟩ := hd
    exact wp_eq (same_ok g (.no t')) rfl
  | some r =>
    rw [hh] at hft
    have hr := List.mem_of_mem_head? hh
    have hG : 0 < (good p.a p.b p.c).length := List.length_pos_of_mem hr
    have hrl : r.length = p.b := (rows_mem.mp (List.mem_filter.mp hr).1).1
    have e1 : ∀ x, m_law_fault p.a p.b p.c (good p.a p.b p.c) (encTd x) = pure (encF (fR p.a p.b p.c x)) := lfault_ok g
    simp only [e1, sfault_ok g, hft, pb, ba, filL_id, mapL_id, if_tt, if_ff, caseS_inl, caseS_inr, mapL_p, filL_p, flaL_p, foldL_p, dIx_t, dIx_l, atL_0, atL_s, cEq_ss, cEq_nn, seqOf_l, seqOf_t, lenD_l, lenD_t, enumD_l, decS, decN, decB, dec_D, dec_LD, dec_TD, ofO_some', enc_S, enc_N, enc_D, enc_B, enc_U, enc_LD, enc_none, enc_some, Option.map_some, Option.map_none, Option.isSome_some, Option.isSome_none, Option.isNone_some, Option.isNone_none, ofString_inj, String.reduceEq, decide_true, decide_false, Bool.not_true, Bool.not_false, List.map_id', filt_true, any_id, all_id, Bool.false_eq_true, if_true, if_false]
    simp only [encTd, hG, pb, ba, filL_id, mapL_id, if_tt, if_ff, caseS_inl, caseS_inr, mapL_p, filL_p, flaL_p, foldL_p, dIx_t, dIx_l, atL_0, atL_s, cEq_ss, cEq_nn, seqOf_l, seqOf_t, lenD_l, lenD_t, enumD_l, decS, decN, decB, dec_D, dec_LD, dec_TD, ofO_some', enc_S, enc_N, enc_D, enc_B, enc_U, enc_LD, enc_none, enc_some, Option.map_some, Option.map_none, Option.isSome_some, Option.isSome_none, Option.isNone_some, Option.isNone_none, ofString_inj, String.reduceEq, decide_true, decide_false, Bool.not_true, Bool.not_false, List.map_id', filt_true, any_id, all_id, Bool.false_eq_true, if_true, if_false, isiB, encF, isNoneD]
    refine wp_bind ht fun z hz => ?_
    rw [hz, caseS_inl, rangeM_ok (by decide), pb]
    refine wp_noexit (fun i hi => ?_) (wp_pure rfl)
    simp only [List.length_map]
    refine wp_takeK (by omega) (by omega) fun v _ => wp_takeK (by omega) (by omega) fun at_ hat => ?_
    rw [setL_ok (by simpa using hat), pb]
    refine wp_takeK (by decide) (by decide) fun w _ => wp_takeK (by decide) (by decide) fun y hy => ?_
    have es : (List.map PyData.int (List.map (fun (k : Nat) => (k : Int)) r)).set at_ (enc ((v : Int) - ((1 : Nat) : Int))) = ((r.map fun (k : Nat) => (k : Int)).set at_ ((v : Int) - ((1 : Nat) : Int))).map .int := by rw [List.map_set]; rfl
    rw [es]
    generalize (r.map fun (k : Nat) => (k : Int)).set at_ ((v : Int) - ((1 : Nat) : Int)) = q
    match y, hy with
    | 0, _ => exact wp_eq (same_ok g (.le q)) rfl
    | 1, _ => exact wp_eq (same_ok g (.le q)) rfl
    | 2, _ =>
      have e := same_ok g (.le (q.drop 1))
      rw [encTd, List.map_drop] at e
      exact wp_eq e rfl
    | 3, _ => exact wp_eq (same_ok g (.no (.st (w : Nat)))) rfl
end
theorem plain : ∀ ns : List Int, ns.length ≤ 63 → ∃ τ', execSs (callF P (depth + 1)) ir_law (gaL N_law) (some (tape0 ns)) = some (.rt (.bool true) τ') := plain_of (wp_run law_wp)
end K60
set_option linter.all false
set_option maxRecDepth 100000
open PySem PySem.W PySem.Calls PyProof.Rows
set_option maxHeartbeats 0 in
theorem PySem.Challenge.cw_tablewright_k60_whole_problems_holds : PySem.Challenge.rw_tablewright_k60_whole_problems.Holds := by
  w_on; o_law
  refine HandSHeadRun.head_any (r := OpenLaw.row PySem.Challenge.rw_tablewright_k60_whole_problems) (q := view (OpenLaw.row PySem.Challenge.rw_tablewright_k60_whole_problems).prog [20]) (H := K60.hk) (ob := K60.ob) (M := 4000) (loose := K60.loose) (d := HandSHeadRun.topDef (OpenLaw.row PySem.Challenge.rw_tablewright_k60_whole_problems).prog 20) (kwd := []) K60.ob_eq
    (by kernel_rfl) (fun s => by kernel_rfl) K60.run (by kernel_rfl) (by kernel_rfl) (by kernel_rfl) (by rfl) (by first | assumption | decide +kernel) (by decide +kernel) ⟨rfl, rfl, rfl, rfl, rfl, by decide +kernel⟩ ?hw ?hc
  case hw => w_witness2
  case hc =>
    refine Ev.walk_law (l := PySem.Challenge.rw_tablewright_k60_whole_problems) rfl (by decide) ?F
    intro w mg fa h Y hG hmg0
    obtain ⟨K, KX, c⟩ := Y
    have hmg : mg ("law" : PySem.Str) = some (.ref fa) := by
      have e : (HandSHeadRun.topDef (OpenLaw.row PySem.Challenge.rw_tablewright_k60_whole_problems).prog 20).name = ("law" : PySem.Str) := by kernel_rfl
      rw [← e]
      exact hmg0
    exact ⟨K, KX, K60.facts (n := K60.depth) ⟨rfl, by decide, by decide⟩ c KX hG hmg K60.plain⟩
